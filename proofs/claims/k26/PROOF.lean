import PyProof.Rows.All
import Wide.All
import OpenK.AllK
import Wide.FinOn
import KE.KStateDown
import Lean
import HandS.Head0
import HandS.Head1
import HandS.Head2
import HandS.ForMost
import HandS.Deep
import HandS.Wide
import HandS.IsInst
import HandS.Exc
import HandS.HeadHook1
import HandS.WideBits
import HandS.WordsExc
import HandS.Words
import HandS.TupAny
import HandS.Conv
import HandS.RaiseMore
import HandS.SortInts
import HandS.More
import HandS.Small
import HandS.Text
import HandS.Comp
import HandS.Defaults
import HandS.HeadHook2
import HandS.HeadEnd
import KE.KDictPairs
import HandS.Zip
import HandS.Rev
import KE.GoesMore
import HandS.Replace
import HandS.Flt
import KE.GoesEnum
import KE.GoesZip
import PyProof.StrLawsIn
import HandS.NoneIn
import HandS.Codes
import HandS.ExcOwn
import HandS.TryOnly
import HandS.ExcIs
import HandS.ExcField
import KE.KExcIs
import PyProof.CollectIter
import HandS.RevRange
import KE.KDictList
import HandS.EndBits
import HandS.WordsDict
import HandS.TupLe
import HandS.Iter
import HandS.SetKeys
import HandS.SortRule
import KE.KSortTupAny
import HandS.RevTup
import HandS.Style
import PyProof.Rows.TmSorted
import PyProof.Rows.StrMeet
import HandS.CallSlots
import HandS.ExcInit
import HandS.TryElse
import HandS.New0
import PySem.Challenge.RW_bundlehouse_k26_walks
set_option Elab.async false
set_option linter.all false
set_option maxRecDepth 100000
set_option maxHeartbeats 4000000
/-! B: a small language of plain data: what a body computes, with no heap in sight. -/
namespace B

/-- data that never changes -/
inductive D where
  | non | bl (b : Bool) | int (i : Int) | str (s : List Nat) | tup (l : List D) | lst (l : List D) | dct (t : Bool) (l : List (D × D)) | inp (l : List D) | inq (l : List D) | xo (c : List Nat) (fs : List (List Nat × D))
/-- a value: data, or a place of the store, or a tuple of such -/
inductive W where
  | d (x : D) | loc (n : Nat) | tw (l : List W)
/-- what a place of the store holds -/
inductive C where
  | l (xs : List D) | w (xs : List W) | m (t : Bool) (kvs : List (D × D)) | mw (t : Bool) (kvs : List (D × W)) | o (c : Nat) (fs : List (List Nat × W))
structure Exc where
  cls : Nat
  fs : List (List Nat × D)
abbrev Env := List (Option W)
abbrev Sto := List C
inductive R (α : Type) where
  | stuck | ok (a : α) | ex (x : Exc) (s : Sto)
abbrev VS := R (W × Sto)
abbrev Ev := Env → Sto → VS
abbrev Fn := List W → Sto → VS
inductive O where
  | nx (e : Env) (s : Sto) | rt (w : W) (s : Sto) | bk (e : Env) (s : Sto) | ct (e : Env) (s : Sto) | xx (x : Exc) (e : Env) (s : Sto)
abbrev Sx := Env → Sto → R O
abbrev Tx := Env → Sto → R (Bool × Sto)

def R.bind {α β : Type} (r : R α) (f : α → R β) : R β := match r with
  | .stuck => .stuck | .ok a => f a | .ex x s => .ex x s
/-- an expression within a statement -/
def R.bd {α : Type} (r : R α) (e : Env) (f : α → R O) : R O := match r with
  | .stuck => .stuck | .ok a => f a | .ex x s => .ok (.xx x e s)
@[simp] theorem R.bd_ok {α : Type} (a : α) (e : Env) (f : α → R O) : (R.ok a).bd e f = f a := rfl
@[simp] theorem R.bd_stuck {α : Type} (e : Env) (f : α → R O) : (R.stuck).bd e f = .stuck := rfl
@[simp] theorem R.bd_ex {α : Type} (x : Exc) (s : Sto) (e : Env) (f : α → R O) : (R.ex x s).bd e f = .ok (.xx x e s) := rfl
@[simp] theorem R.bind_ok {α β : Type} (a : α) (f : α → R β) : (R.ok a).bind f = f a := rfl
@[simp] theorem R.bind_stuck {α β : Type} (f : α → R β) : (R.stuck).bind f = .stuck := rfl
@[simp] theorem R.bind_ex {α β : Type} (x : Exc) (s : Sto) (f : α → R β) : (R.ex x s).bind f = .ex x s := rfl
/-- a fact that a step asks for -/
def need (b : Bool) {α : Type} (r : R α) : R α := if b = true then r else .stuck
def ofO {α : Type} : Option α → R α
  | some a => .ok a | none => .stuck
@[simp] theorem ofO_some {α : Type} (a : α) : ofO (some a) = .ok a := rfl

/-! ### data -/
mutual
def eqv : D → D → Bool
  | .non, .non => true
  | .bl a, .bl b => a == b
  | .bl a, .int j => (if a then 1 else 0) == j
  | .int i, .bl b => i == (if b then 1 else 0)
  | .int i, .int j => i == j
  | .str x, .str y => x == y
  | .lst xs, .lst ys => eqvL xs ys
  | .tup xs, .tup ys => eqvL xs ys
  | _, _ => false
def eqvL : List D → List D → Bool
  | [], [] => true
  | x :: xs, y :: ys => eqv x y && eqvL xs ys
  | _, _ => false
end
mutual
/-- data that == takes: texts of signs, not too deep, no dicts -/
def okD : Nat → D → Bool
  | _, .non => true
  | _, .bl _ => true
  | _, .int _ => true
  | _, .str s => s.all (· < 0x110000)
  | n + 1, .tup l => okL n l
  | n + 1, .lst l => okL n l
  | _, _ => false
def okL : Nat → List D → Bool
  | _, [] => true
  | n, x :: xs => okD n x && okL n xs
end
mutual
/-- no list, no dict in it -/
def noL : D → Bool
  | .tup l => noLL l
  | .lst _ => false
  | .dct _ _ => false
  | .inp _ => false
  | .inq _ => false
  | .xo _ _ => false
  | _ => true
def noLL : List D → Bool
  | [] => true
  | x :: xs => noL x && noLL xs
end
def sizeL : Nat := 16777216

/-! ### from a value to data -/
mutual
/-- the data that a value tells in a store; p: the places that may be looked into -/
def toD : Nat → (Nat → Bool) → Sto → W → Option D
  | _, _, _, .d x => some x
  | n + 1, p, s, .loc k => if p k then (match s[k]? with
      | some (.l xs) => some (.lst xs)
      | some (.w ws) => (toDs n p s ws).map .lst
      | some (.m t kvs) => some (.dct t kvs)
      | _ => none) else none
  | n + 1, p, s, .tw ws => (toDs n p s ws).map .tup
  | 0, _, _, _ => none
def toDs : Nat → (Nat → Bool) → Sto → List W → Option (List D)
  | _, _, _, [] => some []
  | n, p, s, w :: ws => match toD n p s w with
    | some x => (toDs n p s ws).map (x :: ·)
    | none => none
end
def FU : Nat := 12
def dat (s : Sto) (w : W) : R D := match w with
  | .d x => .ok x
  | w => ofO (toD FU (fun _ => true) s w)
@[simp] theorem dat_d (s : Sto) (x : D) : dat s (.d x) = .ok x := rfl
def ws (l : List D) : List W := l.map .d
/-- the items of a list, as they lie -/
def items (s : Sto) : W → R (List W)
  | .d (.lst l) => .ok (ws l)
  | .d (.tup l) => .ok (ws l)
  | .d (.inp l) => .ok (ws l)
  | .d (.inq l) => .ok (ws l)
  | .tw l => .ok l
  | .loc k => match s[k]? with
    | some (.l l) => .ok (ws l)
    | some (.w l) => .ok l
    | _ => .stuck
  | _ => .stuck
def asD : W → R D
  | .d x => .ok x | _ => .stuck
def asDs : List W → Option (List D)
  | [] => some []
  | .d x :: r => (asDs r).map (x :: ·)
  | _ :: _ => none
/-! ### closed under a line -/
mutual
def cl (n : Nat) : W → Bool
  | .d _ => true
  | .loc k => k < n
  | .tw l => cls n l
def cls (n : Nat) : List W → Bool
  | [] => true
  | w :: r => cl n w && cls n r
end
def clC (n : Nat) : C → Bool
  | .l _ => true
  | .m _ _ => true
  | .w xs => cls n xs
  | .mw _ kvs => cls n (kvs.map (·.2))
  | .o _ fs => cls n (fs.map (·.2))
def clS (n : Nat) (s : Sto) : Bool := s.all (clC n)
/-- a result behind which the places from n on are gone -/
def frz (n : Nat) (s : Sto) (w : W) : Option W := match w with
  | .d x => some (.d x)
  | w => if cl n w then some w else (toD FU (fun k => n ≤ k) s w).map .d
/-! ### expressions -/
def e1 (f : W → Sto → VS) (a : Ev) : Ev := fun e s => (a e s).bind fun p => f p.1 p.2
def e2 (f : W → W → Sto → VS) (a b : Ev) : Ev := fun e s => (a e s).bind fun p => (b e p.2).bind fun q => f p.1 q.1 q.2
/-! tests -/
/-! operators on data -/
def small (i : Int) : Bool := decide (-(2 ^ 64) < i) && decide (i < 2 ^ 64)
/-- the items of a list that the program has made -/
def lstOf (s : Sto) : W → R (List W)
  | .d (.lst l) => .ok (ws l)
  | .loc k => match s[k]? with
    | some (.l l) => .ok (ws l)
    | some (.w l) => .ok l
    | _ => .stuck
  | _ => .stuck
def sIx (n d : Nat) : Option Int → Nat
  | none => d
  | some i => if i < 0 then (i + n).toNat else min i.toNat n
def cut {α : Type} (xs : List α) (lo hi : Option Int) : List α := (xs.drop (sIx xs.length 0 lo)).take (sIx xs.length xs.length hi - sIx xs.length 0 lo)
/-- x[lo:hi]; of a list a new one (data), of a text a text -/
def slice (lo hi : Option Int) (x : W) (s : Sto) : VS := match x with
  | .d (.str z) => need (decide (z.length ≤ sizeL)) (.ok (.d (.str (cut z lo hi)), s))
  | .d (.tup l) => .ok (.d (.tup (cut l lo hi)), s)
  | .d (.inp l) => .ok (.d (.lst (cut l lo hi)), s)
  | x => (lstOf s x).bind fun l => (ofO (asDs (cut l lo hi))).bind fun l => .ok (.d (.lst l), s)
/-! displays -/
/-! built-ins -/
/-! calls -/
/-! targets and statements -/
abbrev Tg := W → Env → Sto → R (Env × Sto)
/-- behind a turn -/
def turn (o : O) (k : Env → Sto → R O) : R O := match o with
  | .nx e s => k e s
  | .ct e s => k e s
  | .bk e s => .ok (.nx e s)
  | .rt w s => .ok (.rt w s)
  | .xx x e s => .ok (.xx x e s)
/-! lists in the store -/
def ins {α : Type} (l : List α) (i : Nat) (y : α) : List α := l.take i ++ [y] ++ l.drop i
end B
/-! B over the layer: what the plain evaluators say is what the readings ask. -/
namespace B
open PySem L2

/-- what the top gives: the written part, the classes of exceptions and of objects -/
structure Bx where
  K : PySem.W.Frag
  xc : Nat → Value
  oc : Nat → Addr
  pin : Option (Nat × V × Option Hp) := none
def sof (l : List Nat) : Str := ⟨l.toArray⟩
theorem sof_inj {a b : List Nat} (h : sof a = sof b) : a = b := by
  have := congrArg (fun s : Str => s.cps.toList) h
  simpa [sof] using this
/-! ### data in a heap -/
def keyK : D → Option Key
  | .int i => some (.inl i) | .str s => some (.inr (sof s)) | _ => none
def keyKs : List D → Option (List Key)
  | [] => some []
  | d :: r => match keyK d with | some k => (keyKs r).map (k :: ·) | none => none
def keyT : D → Option (List Key)
  | .tup l => keyKs l | _ => none
/-- a caught exception that is kept as a value: at a, its class, its dict -/
def exk (a : Addr) (cls : Value) (d : Option Addr) : HO := .ext fun h => ∃ oe, h.get? a = some oe ∧ L2.Zc cls d oe ∧ ∃ vs, oe.data = .fields vs
mutual
inductive Rep (K : PySem.W.Frag) (G : Hp) : D → V → Prop
  | non : Rep K G .non .non
  | bl (b : Bool) : Rep K G (.bl b) (.bl b)
  | int (i : Int) : Rep K G (.int i) (.int i)
  | str (s : List Nat) : Rep K G (.str s) (.str (sof s))
  | tup {a : Addr} {vs : List V} {l : List D} : G a = some (.tup vs) → RepL K G l vs → Rep K G (.tup l) (.ref a)
  | lst {a : Addr} {vs : List V} {l : List D} : G a = some (.lst vs) → RepL K G l vs → Rep K G (.lst l) (.ref a)
  | inp {a : Addr} {vs : List V} {l : List D} : SqL K G a vs → RepL K G l vs → Rep K G (.inp l) (.ref a)
  | inq {a : Addr} {o : Obj} {vs : List V} {l : List D} : G a = some (.frz o (.tup vs)) ∧ o.dict = none → RepL K G l vs → Rep K G (.inq l) (.ref a)
  | dk {a : Addr} {kv : List (Key × V)} {l : List (D × D)} : Rd G a (.dK kv) → l.map (fun p => keyK p.1) = kv.map (fun p => some p.1) → RepL K G (l.map (·.2)) (kv.map (·.2)) → Rep K G (.dct false l) (.ref a)
  | dt {a : Addr} {kv : List (List Key × V)} {l : List (D × D)} : Rd G a (.dT kv) → l.map (fun p => keyT p.1) = kv.map (fun p => some p.1) → RepL K G (l.map (·.2)) (kv.map (·.2)) → Rep K G (.dct true l) (.ref a)
  | xo0 {a : Addr} {c : List Nat} : G a = some (exk a (.ref (He.ga K (sof c))) none) → Rep K G (.xo c []) (.ref a)
  | xo {a ad : Addr} {vs : List (Str × V)} {c : List Nat} {fs : List (List Nat × D)} : G a = some (exk a (.ref (He.ga K (sof c))) (some ad)) → G ad = some (.xd vs) → fs.map (fun p => sof p.1) = vs.map (·.1) → RepL K G (fs.map (·.2)) (vs.map (·.2)) → Rep K G (.xo c fs) (.ref a)
inductive RepL (K : PySem.W.Frag) (G : Hp) : List D → List V → Prop
  | nil : RepL K G [] []
  | cons {d : D} {v : V} {l : List D} {vs : List V} : Rep K G d v → RepL K G l vs → RepL K G (d :: l) (v :: vs)
end
theorem Same.rd {H H' : Hp} (e : Same H H') {a : Addr} {u : HO} (h : Rd H a u) : Rd H' a u := by
  rcases h with h | ⟨o, h⟩
  · exact .inl (e _ _ h)
  · exact .inr ⟨o, e _ _ h⟩
section
variable {K : PySem.W.Frag} {G G' : Hp}
mutual
theorem Rep.mono (e : Same G G') : ∀ {d : D} {v : V}, Rep K G d v → Rep K G' d v
  | _, _, .non => .non
  | _, _, .bl b => .bl b
  | _, _, .int i => .int i
  | _, _, .str s => .str s
  | _, _, .tup h r => .tup (e _ _ h) (RepL.mono e r)
  | _, _, .lst h r => .lst (e _ _ h) (RepL.mono e r)
  | _, _, .inp h r => .inp (e.seq h) (RepL.mono e r)
  | _, _, .inq h r => .inq ⟨e _ _ h.1, h.2⟩ (RepL.mono e r)
  | _, _, .dk h k r => .dk (Same.rd e h) k (RepL.mono e r)
  | _, _, .dt h k r => .dt (Same.rd e h) k (RepL.mono e r)
  | _, _, .xo0 h => .xo0 (e _ _ h)
  | _, _, .xo h h2 k r => .xo (e _ _ h) (e _ _ h2) k (RepL.mono e r)
theorem RepL.mono (e : Same G G') : ∀ {l : List D} {vs : List V}, RepL K G l vs → RepL K G' l vs
  | _, _, .nil => .nil
  | _, _, .cons h r => .cons (Rep.mono e h) (RepL.mono e r)
end
theorem RepL.length : ∀ {l : List D} {vs : List V}, RepL K G l vs → l.length = vs.length
  | _, _, .nil => rfl
  | _, _, .cons _ r => congrArg (· + 1) (RepL.length r)
end

/-! ### values over a store -/
mutual
inductive RepW (K : PySem.W.Frag) (ρ : List Addr) (G : Hp) : W → V → Prop
  | d {x : D} {v : V} : Rep K G x v → RepW K ρ G (.d x) v
  | loc {n : Nat} {a : Addr} : ρ[n]? = some a → RepW K ρ G (.loc n) (.ref a)
  | tw {a : Addr} {vs : List V} {l : List W} : G a = some (.tup vs) → RepWs K ρ G l vs → RepW K ρ G (.tw l) (.ref a)
inductive RepWs (K : PySem.W.Frag) (ρ : List Addr) (G : Hp) : List W → List V → Prop
  | nil : RepWs K ρ G [] []
  | cons {w : W} {v : V} {l : List W} {vs : List V} : RepW K ρ G w v → RepWs K ρ G l vs → RepWs K ρ G (w :: l) (v :: vs)
end
section
variable {K : PySem.W.Frag} {ρ ρ' : List Addr} {G G' : Hp}
mutual
theorem RepW.mono (p : ∀ (n : Nat) (a : Addr), ρ[n]? = some a → ρ'[n]? = some a) (e : Same G G') : ∀ {w : W} {v : V}, RepW K ρ G w v → RepW K ρ' G' w v
  | _, _, .d h => .d (Rep.mono e h)
  | _, _, .loc h => .loc (p _ _ h)
  | _, _, .tw h r => .tw (e _ _ h) (RepWs.mono p e r)
theorem RepWs.mono (p : ∀ (n : Nat) (a : Addr), ρ[n]? = some a → ρ'[n]? = some a) (e : Same G G') : ∀ {l : List W} {vs : List V}, RepWs K ρ G l vs → RepWs K ρ' G' l vs
  | _, _, .nil => .nil
  | _, _, .cons h r => .cons (RepW.mono p e h) (RepWs.mono p e r)
end
theorem RepWs.length : ∀ {l : List W} {vs : List V}, RepWs K ρ G l vs → l.length = vs.length
  | _, _, .nil => rfl
  | _, _, .cons _ r => congrArg (· + 1) (RepWs.length r)
theorem RepWs.get : ∀ {l : List W} {vs : List V} {i : Nat} {w : W}, RepWs K ρ G l vs → l[i]? = some w → ∃ v, vs[i]? = some v ∧ RepW K ρ G w v
  | _, _, _, _, .nil, e => by simp at e
  | _, _, 0, _, .cons h _, e => by
    simp at e; subst e; exact ⟨_, rfl, h⟩
  | _, _, i + 1, _, .cons _ r, e => by
    obtain ⟨v, h1, h2⟩ := RepWs.get (i := i) r (by simpa using e)
    exact ⟨v, by simpa using h1, h2⟩
theorem RepWs.set {w : W} {v : V} (h : RepW K ρ G w v) : ∀ {l : List W} {vs : List V} (i : Nat), RepWs K ρ G l vs → RepWs K ρ G (l.set i w) (vs.set i v)
  | _, _, _, .nil => .nil
  | _, _, 0, .cons _ r => .cons h r
  | _, _, i + 1, .cons q r => .cons q (RepWs.set h i r)
theorem RepWs.take : ∀ {l : List W} {vs : List V} (n : Nat), RepWs K ρ G l vs → RepWs K ρ G (l.take n) (vs.take n)
  | _, _, 0, _ => .nil
  | _, _, _ + 1, .nil => .nil
  | _, _, n + 1, .cons h r => .cons h (RepWs.take n r)
theorem RepWs.drop : ∀ {l : List W} {vs : List V} (n : Nat), RepWs K ρ G l vs → RepWs K ρ G (l.drop n) (vs.drop n)
  | _, _, 0, r => r
  | _, _, _ + 1, .nil => .nil
  | _, _, n + 1, .cons _ r => RepWs.drop n r
theorem RepL.ws : ∀ {l : List D} {vs : List V}, RepL K G l vs → RepWs K ρ G (ws l) vs
  | _, _, .nil => .nil
  | _, _, .cons h r => .cons (.d h) (RepL.ws r)
theorem RepWs.asDs : ∀ {l : List W} {vs : List V} {ds : List D}, RepWs K ρ G l vs → asDs l = some ds → RepL K G ds vs
  | _, _, _, .nil, e => by
    cases (Option.some.inj (show some [] = some _ from e)); exact .nil
  | _, _, _, .cons (.d h) r, e => by
    obtain ⟨x, e1, e2⟩ := Option.map_eq_some_iff.mp (show (B.asDs _).map _ = some _ from e)
    subst e2
    exact .cons h (RepWs.asDs r e1)
  | _, _, _, .cons (.loc _) _, e => by cases (show none = some _ from e)
  | _, _, _, .cons (.tw _ _) _, e => by cases (show none = some _ from e)
end

/-! ### the store -/
section
variable (B : Bx)
/-- what lies at an address -/
def CellR (ρ : List Addr) (G H : Hp) (a : Addr) : C → Prop
  | .l ds => ∃ vs, H a = some (.lst vs) ∧ RepL B.K G ds vs
  | .w l => ∃ vs, H a = some (.lst vs) ∧ RepWs B.K ρ G l vs
  | .m false kvs => ∃ kv, H a = some (.dK kv) ∧ kvs.map (fun p => keyK p.1) = kv.map (fun p => some p.1) ∧ RepL B.K G (kvs.map (·.2)) (kv.map (·.2))
  | .m true kvs => ∃ kv, H a = some (.dT kv) ∧ kvs.map (fun p => keyT p.1) = kv.map (fun p => some p.1) ∧ RepL B.K G (kvs.map (·.2)) (kv.map (·.2))
  | .mw false kvs => ∃ kv, H a = some (.dK kv) ∧ kvs.map (fun p => keyK p.1) = kv.map (fun p => some p.1) ∧ RepWs B.K ρ G (kvs.map (·.2)) (kv.map (·.2))
  | .mw true kvs => ∃ kv, H a = some (.dT kv) ∧ kvs.map (fun p => keyT p.1) = kv.map (fun p => some p.1) ∧ RepWs B.K ρ G (kvs.map (·.2)) (kv.map (·.2))
  | .o c fs => ∃ dx vs, H a = some (.ins (B.oc c) dx vs) ∧ fs.map (fun p => sof p.1) = vs.map (·.1) ∧ RepWs B.K ρ G (fs.map (·.2)) (vs.map (·.2))
structure Rel (ρ : List Addr) (G : Hp) (S : Sto) (H : Hp) : Prop where
  ex : Same G H
  len : ρ.length = S.length
  nd : ρ.Nodup
  off : ∀ a ∈ ρ, G a = none
  cell : ∀ (n : Nat) (c : C), S[n]? = some c → ∃ a, ρ[n]? = some a ∧ CellR B ρ G H a c
/-- a slot whose value is known beside -/
def Pinned (G : Hp) (σ : St) : Prop := ∀ p, B.pin = some p → σ[p.1]? = some (some p.2.1) ∧ ∀ q, p.2.2 = some q → Same q G
def EnvR (ρ : List Addr) (G : Hp) (env : Env) (σ : St) : Prop := env.length = σ.length ∧ (∀ (i : Nat) (w : W), env[i]? = some (some w) → ∃ v, σ[i]? = some (some v) ∧ RepW B.K ρ G w v) ∧ Pinned B G σ
end
/-- nothing that may come to what never changes -/
def NTX (o : Option HO) : Prop := (∀ vs, o ≠ some (.tup vs)) ∧ ∀ fs, o ≠ some (.xd fs)
structure Le (ρ : List Addr) (G H : Hp) (ρ' : List Addr) (G' H' : Hp) : Prop where
  pre : ∃ t, ρ' = ρ ++ t ∧ ∀ a ∈ t, H a = none
  ex : Same G G'
  fr : ∀ a, G a = none → H a ≠ none → (a ∈ ρ ∨ NTX (H a)) → G' a = none
  dom : ∀ a, H a ≠ none → H' a ≠ none
  keep : ∀ a, a ∉ ρ → ∀ o, H a = some o → H' a = some o
theorem Le.trans {ρ ρ1 ρ2 : List Addr} {G G1 G2 H H1 H2 : Hp} (a : Le ρ G H ρ1 G1 H1) (b : Le ρ1 G1 H1 ρ2 G2 H2) : Le ρ G H ρ2 G2 H2 := by
  obtain ⟨t, e, f⟩ := a.pre
  obtain ⟨t', e', f'⟩ := b.pre
  refine ⟨⟨t ++ t', by rw [e', e, List.append_assoc], fun x hx => ?_⟩, a.ex.trans b.ex, fun x h1 h2 h3 => b.fr x (a.fr x h1 h2 h3) (a.dom x h2) (by
    by_cases hx : x ∈ ρ
    · exact .inl (by rw [e]; exact List.mem_append_left _ hx)
    · have e : H1 x = H x := by
        cases q : H x with
        | none => exact absurd q h2
        | some o => exact a.keep x hx o q
      rw [e]; exact .inr (h3.resolve_left hx)), fun x h => b.dom x (a.dom x h), fun x hx o ho => b.keep x ?_ o (a.keep x hx o ho)⟩
  rotate_left
  · rw [e]
    intro hm
    rcases List.mem_append.mp hm with h | h
    · exact hx h
    · rw [f x h] at ho; cases ho
  rcases List.mem_append.mp hx with h | h
  · exact f x h
  · have := f' x h
    cases q : H x with
    | none => rfl
    | some o => exact absurd this (a.dom x (by rw [q]; simp))
theorem Le.ix {ρ ρ' : List Addr} {G G' H H' : Hp} (a : Le ρ G H ρ' G' H') : ∀ (n : Nat) (x : Addr), ρ[n]? = some x → ρ'[n]? = some x := by
  obtain ⟨t, e, _⟩ := a.pre
  intro n x h
  obtain ⟨h1, _⟩ := List.getElem?_eq_some_iff.mp h
  rw [e, List.getElem?_append_left h1]
  exact h
theorem Le.w {K : PySem.W.Frag} {ρ ρ' : List Addr} {G G' H H' : Hp} (a : Le ρ G H ρ' G' H') {w : W} {v : V} (h : RepW K ρ G w v) : RepW K ρ' G' w v := RepW.mono a.ix a.ex h
theorem Le.ws {K : PySem.W.Frag} {ρ ρ' : List Addr} {G G' H H' : Hp} (a : Le ρ G H ρ' G' H') {w : List W} {v : List V} (h : RepWs K ρ G w v) : RepWs K ρ' G' w v := RepWs.mono a.ix a.ex h
theorem Le.env {B : Bx} {ρ ρ' : List Addr} {G G' H H' : Hp} (a : Le ρ G H ρ' G' H') {env : Env} {σ : St} (h : EnvR B ρ G env σ) : EnvR B ρ' G' env σ :=
  ⟨h.1, fun i w e => let ⟨v, h1, h2⟩ := h.2.1 i w e; ⟨v, h1, a.w h2⟩, fun p q => ⟨(h.2.2 p q).1, fun r t => ((h.2.2 p q).2 r t).trans a.ex⟩⟩
section
variable {B : Bx} {ρ ρ' : List Addr} {G G' H H' : Hp} {S : Sto} {a p : Addr}
theorem CellR.mono (q : ∀ (n : Nat) (x : Addr), ρ[n]? = some x → ρ'[n]? = some x) (e : Same G G') (hh : H' a = H a) : ∀ {c : C}, CellR B ρ G H a c → CellR B ρ' G' H' a c
  | .l _, ⟨vs, h, r⟩ => ⟨vs, hh.trans h, RepL.mono e r⟩
  | .w _, ⟨vs, h, r⟩ => ⟨vs, hh.trans h, RepWs.mono q e r⟩
  | .m false _, ⟨vs, h, k, r⟩ => ⟨vs, hh.trans h, k, RepL.mono e r⟩
  | .m true _, ⟨vs, h, k, r⟩ => ⟨vs, hh.trans h, k, RepL.mono e r⟩
  | .mw false _, ⟨vs, h, k, r⟩ => ⟨vs, hh.trans h, k, RepWs.mono q e r⟩
  | .mw true _, ⟨vs, h, k, r⟩ => ⟨vs, hh.trans h, k, RepWs.mono q e r⟩
  | .o _ _, ⟨dx, vs, h, k, r⟩ => ⟨dx, vs, hh.trans h, k, RepWs.mono q e r⟩
theorem CellR.there : ∀ {c : C}, CellR B ρ G H a c → H a ≠ none
  | .l _, ⟨vs, h, r⟩ => by rw [h]; simp
  | .w _, ⟨vs, h, r⟩ => by rw [h]; simp
  | .m false _, ⟨vs, h, k, r⟩ => by rw [h]; simp
  | .m true _, ⟨vs, h, k, r⟩ => by rw [h]; simp
  | .mw false _, ⟨vs, h, k, r⟩ => by rw [h]; simp
  | .mw true _, ⟨vs, h, k, r⟩ => by rw [h]; simp
  | .o _ _, ⟨dx, vs, h, k, r⟩ => by rw [h]; simp
theorem Rel.at_ (R : Rel B ρ G S H) {n : Nat} (h : ρ[n]? = some a) : ∃ c, S[n]? = some c ∧ CellR B ρ G H a c := by
  obtain ⟨h1, _⟩ := List.getElem?_eq_some_iff.mp h
  have h2 : n < S.length := by rw [← R.len]; exact h1
  obtain ⟨b, e1, e2⟩ := R.cell n S[n] (List.getElem?_eq_getElem h2)
  rw [h] at e1
  cases e1
  exact ⟨_, List.getElem?_eq_getElem h2, e2⟩
end

/-! ### what is simulated -/
section
variable (B : Bx)
abbrev WX := Value → Option Addr → St → Hp → Prop
end
end B
namespace B
open PySem L2
section
variable {B : Bx} {Wi : WX}

/-! ### from a value to data -/
mutual
theorem toD_rep {ρ : List Addr} {G H Gs : Hp} {S : Sto} {p : Nat → Bool} (R : Rel B ρ G S H) (sub : Same G Gs) (ag : ∀ k a, p k = true → ρ[k]? = some a → Gs a = H a) :
    ∀ (n : Nat) (w : W) (v : V) (x : D), toD n p S w = some x → RepW B.K ρ G w v → Rep B.K Gs x v
  | _, .d y, v, x, e, h => by
    have e' : y = x := by cases ‹Nat› <;> (simp only [toD] at e; exact Option.some.inj e)
    subst e'
    cases h with
    | d h => exact h.mono sub
  | 0, .loc k, v, x, e, h => by simp [toD] at e
  | 0, .tw l, v, x, e, h => by simp [toD] at e
  | n + 1, .loc k, v, x, e, h => by
    cases h with
    | loc ha =>
      simp only [toD] at e
      split at e
      · rename_i hp
        obtain ⟨c, hc, hr⟩ := R.at_ ha
        have g := ag _ _ hp ha
        rw [hc] at e
        cases c with
        | l xs =>
          obtain ⟨vs, h1, h2⟩ := hr
          cases e
          exact .lst (g.trans h1) (h2.mono sub)
        | w xs =>
          obtain ⟨vs, h1, h2⟩ := hr
          obtain ⟨ys, e1, e2⟩ := Option.map_eq_some_iff.mp e
          subst e2
          exact .lst (g.trans h1) (toDs_rep R sub ag n xs vs ys e1 h2)
        | m t xs =>
          cases e
          cases t with
          | false =>
            obtain ⟨kv, h1, h2, h3⟩ := hr
            exact .dk (.inl (g.trans h1)) h2 (h3.mono sub)
          | true =>
            obtain ⟨kv, h1, h2, h3⟩ := hr
            exact .dt (.inl (g.trans h1)) h2 (h3.mono sub)
        | mw _ _ => cases e
        | o _ _ => cases e
      · cases e
  | n + 1, .tw l, v, x, e, h => by
    cases h with
    | tw ha hr =>
      simp only [toD] at e
      obtain ⟨ys, e1, e2⟩ := Option.map_eq_some_iff.mp e
      subst e2
      exact .tup (sub _ _ ha) (toDs_rep R sub ag n l _ ys e1 hr)
theorem toDs_rep {ρ : List Addr} {G H Gs : Hp} {S : Sto} {p : Nat → Bool} (R : Rel B ρ G S H) (sub : Same G Gs) (ag : ∀ k a, p k = true → ρ[k]? = some a → Gs a = H a) :
    ∀ (n : Nat) (l : List W) (vs : List V) (xs : List D), toDs n p S l = some xs → RepWs B.K ρ G l vs → RepL B.K Gs xs vs
  | n, [], vs, xs, e, h => by
    have e' : ([] : List D) = xs := by cases n <;> (simp only [toDs] at e; exact Option.some.inj e)
    subst e'
    cases h
    exact .nil
  | n, w :: l, vs, xs, e, h => by
    cases h with
    | cons h1 h2 =>
      have e' : (match toD n p S w with | some x => (toDs n p S l).map (x :: ·) | none => none) = some xs := by
        cases n <;> (rw [toDs] at e; exact e)
      split at e'
      · rename_i y hy
        obtain ⟨ys, e1, e2⟩ := Option.map_eq_some_iff.mp e'
        subst e2
        exact .cons (toD_rep R sub ag n w _ y hy h1) (toDs_rep R sub ag n l _ ys e1 h2)
      · cases e'
end
/-! ### expressions -/
/-! arguments -/
/-! ### tests -/
end
end B
namespace B
open PySem L2
section
variable {B : Bx} {Wi : WX}

/-! ### targets -/
/-! ### statements -/
/-! ### the places from n on are gone -/
mutual
theorem cl_rep {K : PySem.W.Frag} {ρ : List Addr} {G : Hp} {n : Nat} : ∀ {w : W} {v : V}, cl n w = true → RepW K ρ G w v → RepW K (ρ.take n) G w v
  | _, _, _, .d h => .d h
  | .loc k, _, c, .loc h => .loc (by rw [List.getElem?_take_of_lt (of_decide_eq_true (by simpa [cl] using c))]; exact h)
  | .tw l, _, c, .tw h r => .tw h (cls_rep (by simpa [cl] using c) r)
theorem cls_rep {K : PySem.W.Frag} {ρ : List Addr} {G : Hp} {n : Nat} : ∀ {l : List W} {vs : List V}, cls n l = true → RepWs K ρ G l vs → RepWs K (ρ.take n) G l vs
  | _, _, _, .nil => .nil
  | _, _, c, .cons h r => by
    rw [cls, Bool.and_eq_true] at c
    exact .cons (cl_rep c.1 h) (cls_rep c.2 r)
end
theorem clC_rep {ρ : List Addr} {G H : Hp} {n : Nat} {a : Addr} : ∀ {c : C}, clC n c = true → CellR B ρ G H a c → CellR B (ρ.take n) G H a c
  | .l _, _, h => h
  | .m false _, _, h => h
  | .m true _, _, h => h
  | .w _, c, ⟨vs, h, r⟩ => ⟨vs, h, cls_rep c r⟩
  | .mw false _, c, ⟨vs, h, k, r⟩ => ⟨vs, h, k, cls_rep c r⟩
  | .mw true _, c, ⟨vs, h, k, r⟩ => ⟨vs, h, k, cls_rep c r⟩
  | .o _ _, c, ⟨dx, vs, h, k, r⟩ => ⟨dx, vs, h, k, cls_rep c r⟩
theorem Rel.cut {ρ : List Addr} {G H : Hp} {S : Sto} {n : Nat} (R : Rel B ρ G S H) (c : clS n (S.take n) = true) : Rel B (ρ.take n) G (S.take n) H := by
  refine ⟨R.ex, by simp [R.len], R.nd.sublist (List.take_sublist _ _), fun a ha => R.off a ((List.take_sublist _ _).subset ha), fun k d hd => ?_⟩
  have hk : k < n := by
    obtain ⟨h1, _⟩ := List.getElem?_eq_some_iff.mp hd
    simp at h1; omega
  have hd' := hd
  rw [List.getElem?_take_of_lt hk] at hd'
  obtain ⟨a, h1, h2⟩ := R.cell k d hd'
  refine ⟨a, by rw [List.getElem?_take_of_lt hk]; exact h1, clC_rep ?_ h2⟩
  exact List.all_eq_true.mp c d (List.mem_of_getElem? hd)
theorem Le.cut {ρ ρ' : List Addr} {G H G' H' : Hp} {n : Nat} (l : Le ρ G H ρ' G' H') (hn : n = ρ.length) : ρ'.take n = ρ ∧ Le ρ G H ρ G' H' := by
  obtain ⟨t, e, f⟩ := l.pre
  refine ⟨by rw [e, hn]; simp, ⟨⟨[], by simp, by simp⟩, l.ex, l.fr, l.dom, l.keep⟩⟩
/-! ### loops -/
/-- what an iterator gives, whatever else the heap does -/
def Walks (B : Bx) (ρ : List Addr) (G : Hp) (J : L2.It) (xs : List W) : Prop := ∀ i ρ2 G2 S2 H2, (∀ (n : Nat) (a : Addr), ρ[n]? = some a → ρ2[n]? = some a) → Same G G2 → Rel B ρ2 G2 S2 H2 →
  (xs.length ≤ i → J.stop i H2) ∧ ∀ w, xs[i]? = some w → J.go i H2 ∧ ∀ x H3, J.yld i H2 x H3 → ∃ G3, Rel B ρ2 G3 S2 H3 ∧ Le ρ2 G2 H2 ρ2 G3 H3 ∧ RepW B.K ρ2 G3 w x
/-! ### defs and their calls -/
open Classical in
/-- the places from n on are data from now on -/
noncomputable def frzG (n : Nat) (ρ : List Addr) (G H : Hp) : Hp := fun a => if a ∈ ρ.drop n then H a else G a
theorem Rel.frz {ρ : List Addr} {G H : Hp} {S : Sto} {n : Nat} (R : Rel B ρ G S H) (c : clS n (S.take n) = true) : Rel B (ρ.take n) (frzG n ρ G H) (S.take n) H ∧ Same G (frzG n ρ G H) := by
  have R1 := R.cut c
  have sg : Same G (frzG n ρ G H) := fun a o e => by
    unfold frzG
    by_cases h : a ∈ ρ.drop n
    · rw [if_pos h]; exact R.ex a o e
    · rw [if_neg h]; exact e
  refine ⟨⟨fun a o e => ?_, R1.len, R1.nd, fun a ha => ?_, fun k d hd => ?_⟩, sg⟩
  · unfold frzG at e
    by_cases h : a ∈ ρ.drop n
    · rw [if_pos h] at e; exact e
    · rw [if_neg h] at e; exact R.ex a o e
  · unfold frzG
    have hn : a ∉ ρ.drop n := fun h => by
      have nd := R.nd
      rw [← List.take_append_drop n ρ] at nd
      rw [List.nodup_append] at nd
      exact nd.2.2 a ha a h rfl
    rw [if_neg hn]
    exact R1.off a ha
  · obtain ⟨a, h1, h2⟩ := R1.cell k d hd
    exact ⟨a, h1, h2.mono (fun _ _ h => h) sg rfl⟩
mutual
theorem noL_rep {K : PySem.W.Frag} {G G' : Hp} (ag : ∀ a o, G a = some o → (∀ vs, o ≠ .tup vs) ∧ (∀ z vs, o ≠ .frz z (.tup vs)) ∨ G' a = some o) : ∀ {d : D} {v : V}, Rep K G d v → noL d = true → Rep K G' d v
  | _, _, .non, _ => .non
  | _, _, .bl b, _ => .bl b
  | _, _, .int i, _ => .int i
  | _, _, .str s, _ => .str s
  | _, _, .tup h r, c => .tup (by
      rcases ag _ _ h with ⟨q, _⟩ | q
      · exact absurd rfl (q _)
      · exact q) (noLL_rep ag r (by simpa [noL] using c))
  | _, _, .lst _ _, c => by simp [noL] at c
  | _, _, .inp _ _, c => by simp [noL] at c
  | _, _, .inq _ _, c => by simp [noL] at c
  | _, _, .dk _ _ _, c => by simp [noL] at c
  | _, _, .dt _ _ _, c => by simp [noL] at c
theorem noLL_rep {K : PySem.W.Frag} {G G' : Hp} (ag : ∀ a o, G a = some o → (∀ vs, o ≠ .tup vs) ∧ (∀ z vs, o ≠ .frz z (.tup vs)) ∨ G' a = some o) : ∀ {d : List D} {v : List V}, RepL K G d v → noLL d = true → RepL K G' d v
  | _, _, .nil, _ => .nil
  | _, _, .cons h r, c => by
    rw [noLL, Bool.and_eq_true] at c
    exact .cons (noL_rep ag h c.1) (noLL_rep ag r c.2)
end
open Classical in
open Classical in
end
end B
namespace B
open PySem L2
/-! ### one rule or another -/
section
variable {B : Bx} {Wi : WX}
/-! + -/
/-! * -/
end
end B
namespace B
open PySem L2
/-! ### == -/
mutual
def toP : D → PyData
  | .non => .none
  | .bl b => .bool b
  | .int i => .int i
  | .str s => .str (sof s)
  | .tup l => .tuple (toPs l)
  | .lst l => .list (toPs l)
  | .dct _ _ => .none
  | .inp l => .list (toPs l)
  | .inq l => .list (toPs l)
  | .xo _ _ => .none
def toPs : List D → List PyData
  | [] => []
  | x :: r => toP x :: toPs r
end
section
variable {K : PySem.W.Frag} {H : Hp}
mutual
theorem dp_of : ∀ {n : Nat} {d : D} {v : V}, okD n d = true → Rep K H d v → Dp K H v (toP d)
  | _, _, _, _, .non => by rw [toP]; exact .non
  | _, _, _, _, .bl b => by rw [toP]; exact .bl b
  | _, _, _, _, .int i => by rw [toP]; exact .int i
  | _, _, _, _, .str s => by rw [toP]; exact .str _
  | 0, _, _, c, .tup _ _ => by simp [okD] at c
  | n + 1, _, _, c, .tup q r => by rw [toP]; exact .tup (.inl (.inl q)) (dps_of (n := n) (by simpa [okD] using c) r)
  | 0, _, _, c, .lst _ _ => by simp [okD] at c
  | n + 1, _, _, c, .lst q r => by rw [toP]; exact .lst (.inl (.inl q)) (dps_of (n := n) (by simpa [okD] using c) r)
  | 0, _, _, c, .inp _ _ => by simp [okD] at c
  | 0, _, _, c, .inq _ _ => by simp [okD] at c
  | n + 1, _, _, c, .inp _ _ => by simp [okD] at c
  | n + 1, _, _, c, .inq _ _ => by simp [okD] at c
  | 0, _, _, c, .xo0 _ => by simp [okD] at c
  | n + 1, _, _, c, .xo0 _ => by simp [okD] at c
  | 0, _, _, c, .xo _ _ _ _ => by simp [okD] at c
  | n + 1, _, _, c, .xo _ _ _ _ => by simp [okD] at c
  | 0, _, _, c, .dk _ _ _ => by simp [okD] at c
  | n + 1, _, _, c, .dk _ _ _ => by simp [okD] at c
  | 0, _, _, c, .dt _ _ _ => by simp [okD] at c
  | n + 1, _, _, c, .dt _ _ _ => by simp [okD] at c
theorem dps_of : ∀ {n : Nat} {l : List D} {vs : List V}, okL n l = true → RepL K H l vs → DpAll K H vs (toPs l)
  | _, _, _, _, .nil => by rw [toPs]; exact .nil
  | n, d :: l, _, c, .cons h r => by
    have c' : okD n d = true ∧ okL n l = true := by cases n <;> (rw [okL, Bool.and_eq_true] at c; exact c)
    rw [toPs]
    exact .cons (dp_of c'.1 h) (dps_of c'.2 r)
end
end
theorem strOk_sof (s : List Nat) : PyData.strOk (sof s) = s.all (· < 0x110000) := by
  simp [PyData.strOk, sof]
mutual
theorem lay_of : ∀ {n : Nat} {d : D}, okD n d = true → (toP d).canLay0 = true ∧ (toP d).depth ≤ n
  | n, .non, _ => by rw [toP]; exact ⟨by simp [PyData.canLay0], by simp [PyData.depth]⟩
  | n, .bl b, _ => by rw [toP]; exact ⟨by simp [PyData.canLay0], by simp [PyData.depth]⟩
  | n, .int b, _ => by rw [toP]; exact ⟨by simp [PyData.canLay0], by simp [PyData.depth]⟩
  | n, .str s, c => by
    rw [toP]
    have c' : s.all (· < 0x110000) = true := by cases n <;> (rw [okD] at c; exact c)
    exact ⟨by rw [PyData.canLay0, strOk_sof]; exact c', by simp [PyData.depth]⟩
  | 0, .tup l, c => by simp [okD] at c
  | n + 1, .tup l, c => by
    rw [toP]
    obtain ⟨h1, h2⟩ := lays_of (n := n) (l := l) (by simpa [okD] using c)
    exact ⟨by rw [PyData.canLay0]; exact h1, by rw [PyData.depth]; omega⟩
  | 0, .lst l, c => by simp [okD] at c
  | n + 1, .lst l, c => by
    rw [toP]
    obtain ⟨h1, h2⟩ := lays_of (n := n) (l := l) (by simpa [okD] using c)
    exact ⟨by rw [PyData.canLay0]; exact h1, by rw [PyData.depth]; omega⟩
  | 0, .inp l, c => by simp [okD] at c
  | 0, .inq l, c => by simp [okD] at c
  | n + 1, .inp l, c => by simp [okD] at c
  | n + 1, .inq l, c => by simp [okD] at c
  | 0, .dct _ l, c => by simp [okD] at c
  | n + 1, .dct _ l, c => by simp [okD] at c
theorem lays_of : ∀ {n : Nat} {l : List D}, okL n l = true → PyData.canLayAll0 (toPs l) = true ∧ PyData.depthAll (toPs l) ≤ n
  | n, [], _ => by rw [toPs]; exact ⟨by simp [PyData.canLayAll0], by simp [PyData.depthAll]⟩
  | n, x :: r, c => by
    have c' : okD n x = true ∧ okL n r = true := by cases n <;> (rw [okL, Bool.and_eq_true] at c; exact c)
    obtain ⟨h1, h2⟩ := lay_of c'.1
    obtain ⟨h3, h4⟩ := lays_of c'.2
    rw [toPs]
    exact ⟨by rw [PyData.canLayAll0, h1, h3]; rfl, by rw [PyData.depthAll]; omega⟩
end
theorem sof_beq (x y : List Nat) : (sof x == sof y) = (x == y) := by
  rw [Bool.eq_iff_iff]
  simp only [beq_iff_eq]
  exact ⟨sof_inj, fun h => by rw [h]⟩
mutual
theorem eqv_of : ∀ {n m : Nat} {a b : D}, okD n a = true → okD m b = true → PyData.eqv (toP a) (toP b) = eqv a b
  | n, m, .non, b, _, c => by
    cases b <;> first
      | (simp only [toP, PyData.eqv, eqv]; done)
      | (exfalso; cases m <;> simp [okD] at c)
  | n, m, .bl x, b, _, c => by
    cases b <;> first
      | (simp only [toP, PyData.eqv, eqv]; done)
      | (exfalso; cases m <;> simp [okD] at c)
  | n, m, .int x, b, _, c => by
    cases b <;> first
      | (simp only [toP, PyData.eqv, eqv]; done)
      | (exfalso; cases m <;> simp [okD] at c)
  | n, m, .str x, b, _, c => by
    cases b <;> first
      | (simp only [toP, PyData.eqv, eqv, sof_beq]; done)
      | (exfalso; cases m <;> simp [okD] at c)
  | 0, m, .tup x, b, d, c => by simp [okD] at d
  | n + 1, m, .tup x, b, d, c => by
    cases b <;> first
      | (simp only [toP, PyData.eqv, eqv]; done)
      | (exfalso; cases m <;> simp [okD] at c; done)
      | skip
    cases m with
    | zero => simp [okD] at c
    | succ m =>
      simp only [toP, PyData.eqv, eqv]
      exact eqvs_of (n := n) (m := m) (by simpa [okD] using d) (by simpa [okD] using c)
  | 0, m, .lst x, b, d, c => by simp [okD] at d
  | n + 1, m, .lst x, b, d, c => by
    cases b <;> first
      | (simp only [toP, PyData.eqv, eqv]; done)
      | (exfalso; cases m <;> simp [okD] at c; done)
      | skip
    cases m with
    | zero => simp [okD] at c
    | succ m =>
      simp only [toP, PyData.eqv, eqv]
      exact eqvs_of (n := n) (m := m) (by simpa [okD] using d) (by simpa [okD] using c)
  | 0, m, .inp x, b, d, c => by simp [okD] at d
  | 0, m, .inq x, b, d, c => by simp [okD] at d
  | n + 1, m, .inp x, b, d, c => by simp [okD] at d
  | n + 1, m, .inq x, b, d, c => by simp [okD] at d
  | 0, m, .dct _ x, b, d, c => by simp [okD] at d
  | n + 1, m, .dct _ x, b, d, c => by simp [okD] at d
theorem eqvs_of : ∀ {n m : Nat} {a b : List D}, okL n a = true → okL m b = true → PyData.eqvAll (toPs a) (toPs b) = eqvL a b
  | n, m, [], [], _, _ => by simp only [toPs, PyData.eqvAll, eqvL]
  | n, m, [], _ :: _, _, _ => by simp only [toPs, PyData.eqvAll, eqvL]
  | n, m, _ :: _, [], _, _ => by simp only [toPs, PyData.eqvAll, eqvL]
  | n, m, x :: r, y :: q, d, c => by
    have d' : okD n x = true ∧ okL n r = true := by cases n <;> (rw [okL, Bool.and_eq_true] at d; exact d)
    have c' : okD m y = true ∧ okL m q = true := by cases m <;> (rw [okL, Bool.and_eq_true] at c; exact c)
    simp only [toPs, PyData.eqvAll, eqvL]
    rw [eqv_of d'.1 c'.1, eqvs_of d'.2 c'.2]
end
section
variable {B : Bx} {Wi : WX}
/-! is None -/
/-! ### in -/
end
end B
namespace B
open PySem L2
/-! ### dicts -/
end B
/-! A piece of Python is as a B term says: one lemma a construct. -/
namespace B
open PySem L2
/-- where one stands: the context, the classes, the wish of exceptions -/
structure Zx where
  X : Cx
  xc : Nat → Value
  oc : Nat → Addr
  Wi : L2.WX
  pin : Option (Nat × V × Option Hp) := none
abbrev Zx.B (z : Zx) : Bx := ⟨z.X.K, z.xc, z.oc, z.pin⟩
section canon
variable (B : Bx) (Wi : WX)
end canon
section
variable {B : Bx} {Wi : WX}
end
section
variable {z : Zx} {k : Nat}
end
end B
namespace B
open PySem L2
section
variable {z : Zx} {k : Nat} {a b e : Expr} {es : List Expr} {ma mb m : Ev} {ms : List Ev} {pos : Pos}

/-! ### names, constants -/
/-! ### operators -/
/-! ### comparisons, as values and as tests -/
/-! in -/
/-! tests -/
variable {ta tb tc : Tx} {rest : List Expr}
end
end B
namespace B
open PySem L2 PySem.Spec PyProof.Rows
/-! ### more rules by values -/
section
variable {z : Zx} {k : Nat} {a b e : Expr} {es : List Expr} {ma mb m : Ev} {ms : List Ev} {pos : Pos}
/-! ### slices -/
/-! the ends of a slice -/
end
end B
/-! sorted of a tuple of ints -/
namespace PyProof.Rows
open PySem
section
variable {prog : Program} {w : World} {A : Around} {E : Value → Shared → Prop} {s : Shared}
end
end PyProof.Rows
namespace SrtO
open PySem PyProof.Rows Srt
section
variable {prog : Program} {w : World} {A : Around} {E : Value → Shared → Prop} {s : Shared}
end
end SrtO
namespace L2
open PySem PySem.Spec PyProof.Rows
end L2
namespace PySem.AutoSeq1
open PySem
open PySem.Sem (wp)
end PySem.AutoSeq1
namespace B
open PySem L2 PySem.Spec PyProof.Rows
section
variable {z : Zx} {k : Nat} {a b c e : Expr} {es : List Expr} {ma mb mc m : Ev} {ms : List Ev} {pos : Pos}
/-! ### argument lists, displays -/
/-! ### methods of lists -/
theorem RepL.get {K : PySem.W.Frag} {G : Hp} : ∀ {l : List D} {vs : List V} {i : Nat} {w : D}, RepL K G l vs → l[i]? = some w → ∃ v, vs[i]? = some v ∧ Rep K G w v
  | _, _, _, _, .nil, e => by simp at e
  | _, _, 0, _, .cons h _, e => by simp at e; subst e; exact ⟨_, rfl, h⟩
  | _, _, i + 1, _, .cons _ r, e => by
    obtain ⟨v, h1, h2⟩ := RepL.get (i := i) r (by simpa using e)
    exact ⟨v, by simpa using h1, h2⟩
variable {apos cpos : Pos}
end
end B
namespace B
open PySem L2 PySem.Spec PyProof.Rows
section
variable {z : Zx} {k : Nat} {a b c e : Expr} {es : List Expr} {ma mb mc m : Ev} {ms : List Ev} {pos p : Pos}
/-! ### bits -/
/-! ### built-ins -/
/-! len -/
/-! tuple, list -/
/-! sum, any, sorted -/
/-! str, int -/
/-! isinstance -/
/-! tuple(range(n)), list(range(n)) -/
end
end B
namespace B
open PySem L2
section
variable {z : Zx} {k : Nat} {a b c e : Expr} {es : List Expr} {ma mb mc m : Ev} {ms : List Ev} {pos p : Pos} {ta tb tc : Tx} {st : Stmt} {sts rest : List Stmt} {s1 s2 : Sx} {tg : Expr} {mg : Tg}
/-! ### targets -/
/-! a store to o[i] -/
/-! ### statements -/
/-! x += e -/
/-! ### what is walked -/
end
end B
namespace B
open PySem L2
/-! ### list comprehensions -/
section
variable {z : Zx} {k : Nat} {B : Bx} {Wi : WX}
/-- an address beside ours -/
theorem Rel.beside {ρ : List Addr} {G H : Hp} {S : Sto} {D : Addr} {o : HO} (R : Rel B ρ G S H) (hρ : D ∉ ρ) (hg : G D = none) : Rel B ρ G S (upd H D o) := by
  refine ⟨fun b x e => by rw [upd_ne (ne_of_none e hg)]; exact R.ex b x e, R.len, R.nd, R.off, fun n c hc => ?_⟩
  obtain ⟨b, h1, h2⟩ := R.cell n c hc
  exact ⟨b, h1, CellR.mono (fun _ _ h => h) (fun _ _ h => h) (upd_ne fun e => hρ (by rw [← e]; exact List.mem_of_getElem? h1)) h2⟩
theorem Le.beside {ρ ρ' : List Addr} {G H G' H' : Hp} {D : Addr} {o : HO} (l : Le ρ G H ρ' G' H') (hD : H D = none) : Le ρ G H ρ' G' (upd H' D o) := by
  refine ⟨l.pre, l.ex, l.fr, fun a h => ?_, fun a h1 x h2 => ?_⟩
  · by_cases e : a = D
    · subst e; rw [upd_same]; simp
    · rw [upd_ne e]; exact l.dom a h
  · rw [upd_ne (ne_of_none h2 hD)]; exact l.keep a h1 x h2
end
section
variable {z : Zx} {k : Nat}
end
end B
namespace B
open PySem L2 PySem.Spec PyProof.Rows
/-! ### defs -/
section
variable {P : Program} {w : World} {K : PySem.W.Frag} {mg : Str → Option Value} {base : Heap} {xc : Nat → Value} {oc : Nat → Addr} {x qual : Str} {params : Arguments} {body : List Stmt} {scope : Scope} {f : Addr} {fd : FuncData} {N ps : List Str} {k : Nat} {b : Sx}
end
/-! ### calls -/
section
variable {B : Bx}
end
section
variable {z : Zx} {j k : Nat} {x : Str} {ps : List Str} {f : Fn} {e : Expr} {es : List Expr} {m : Ev} {ms : List Ev} {p pos : Pos}
end
end B
namespace B
open PySem L2 PySem.Spec PyProof.Rows
end B
/-! Walks over a list of the store: it must lie there unchanged at each turn. -/
namespace B
open PySem L2
open Classical in
open Classical in
section
variable {z : Zx} {k : Nat} {B : Bx} {Wi : WX}
end
section
variable {z : Zx} {k : Nat}
end
end B
/-! further rules -/
namespace B
open PySem L2
end B
/-! Methods of texts; two comparisons in a row. -/
namespace B
open PySem L2 PySem.Spec PyProof.Rows TL
section
variable {z : Zx} {k : Nat} {a b c : Expr} {ma mb mc : Ev} {pos p apos cpos : Pos}
/-! join -/
/-! split -/
/-! chains -/
end
end B
/-! A tuple whose object is known, and dict(..) of it. -/
namespace B
open PySem L2 PySem.Spec PyProof.Rows
section
variable {X : Cx}
end
section
variable {z : Zx} {k : Nat} {a : Expr} {ma : Ev} {pos p : Pos}
end
end B
/-! enumerate over a tuple: the rule; walks with watched places. -/
namespace B
open PySem L2 PySem.Spec PyProof.Rows
open AutoSeq1 (wpAny_loadPart')
end B
/-! Walks with watched places: what a walk reads from the store must lie there unchanged at each turn. -/
namespace B
open PySem L2
open Classical in
open Classical in
/-! the iterators -/
/-- a thing's items, and whether it is a list or a tuple; what is to be watched -/
inductive Kd where
  | li | tu
section
variable {z : Zx} {k : Nat} {B : Bx} {Wi : WX}
/-! what the iterators read -/
end
section
open PySem.Spec PyProof.Rows
variable {z : Zx} {k : Nat}
end
end B
/-! zip of a tuple and a list; find, index, startswith of texts; index of lists; >>; max of three. -/
namespace B
open PySem L2 PySem.Spec PyProof.Rows
/-! ### zip of things of either kind -/
def ItK : Kd → Heap → Addr → Addr → Nat → Prop
  | .li => fun h i a n => h.IsListIter i a n
  | .tu => fun h i a n => h.IsTupleIter i a n
theorem ItK.at_ : ∀ {kd : Kd} {h h' : Heap} {i a : Addr} {n : Nat}, ItK kd h i a n → (∀ o, h.get? i = some o → h'.get? i = some o) → ItK kd h' i a n
  | .li, _, _, _, _, _, x, k => Heap.IsListIter.at x k
  | .tu, _, _, _, _, _, x, k => Heap.IsTupleIter.at x k
theorem ItK.ob : ∀ {kd : Kd} {h : Heap} {i a : Addr} {n : Nat}, ItK kd h i a n → ∃ o, h.get? i = some o ∧ ∃ fs, o.data = .fields fs
  | .li, _, _, _, _, ⟨o, ho, _, hd⟩ => ⟨o, ho, _, hd⟩
  | .tu, _, _, _, _, ⟨o, ho, _, hd⟩ => ⟨o, ho, _, hd⟩
section
variable {z : Zx} {k : Nat} {B : Bx} {Wi : WX}
end
section
variable {z : Zx} {k : Nat}
end
/-! ### texts: find, index, startswith -/
open StrLaws Builtin Builtin.Str in
open StrLaws Builtin Builtin.Str in
section
variable {z : Zx} {k : Nat} {a b c : Expr} {ma mb mc : Ev} {pos p apos cpos : Pos}
/-! ### >> -/
/-! ### max(a, b, c) -/
/-! ### list.index -/
end
end B
/-! Unpacking a list. -/
namespace B
open PySem L2 PySem.Spec PyProof.Rows
section
variable {B : Bx}
end
section
variable {z : Zx} {k : Nat} {pos : Pos}
end
/-! len(set(..)) of whole numbers that differ -/
section
variable {B : Bx} {Wi : WX}
end
section
variable {z : Zx} {k : Nat} {a : Expr} {ma : Ev} {p p2 q pos : Pos}
end
end B
/-! Lists of the store, walked in a comprehension that is given to a name. -/
namespace B
open PySem L2 PySem.Spec PyProof.Rows
section
variable {z : Zx} {k : Nat}
end
end B
/-! The largest and the smallest of a list. -/
namespace B
open PySem L2 PySem.Spec PyProof.Rows
section
variable {z : Zx} {k : Nat} {a : Expr} {ma : Ev} {p pos : Pos}
end
end B
/-! int of a text of figures. -/
namespace B
open PySem L2 PySem.Spec PyProof.Rows
section
variable {z : Zx} {a : Expr} {ma : Ev} {p pos : Pos}
end
end B
/-! list(d), d a dict: its keys. -/
namespace B
open PySem L2 PySem.Spec PyProof.Rows
open Classical in
section
variable {B : Bx}
end
section
variable {K : PySem.W.Frag} {G : Hp}
end
section
variable {z : Zx} {k : Nat} {a : Expr} {ma : Ev} {p pos : Pos}
end
end B
/-! raise, try. -/
namespace B
open PySem L2 PySem.Spec PyProof.Rows
/-! ### raise -/
section
variable {z : Zx} {k : Nat}
end
/-! ### try -/
section
variable {z : Zx} {k : Nat}
end
end B
/-! In an except suite: isinstance(e, ..), e.f. -/
namespace B
open PySem L2 PySem.Spec PyProof.Rows
section
variable {z : Zx} {i : Nat} {a : Addr} {oe : Obj} {pn : List (Addr × Obj)} {x : Exc} {d : Option Addr} {G0 : Hp} {n : Str} {p p1 p2 pos : Pos} {tb : List Bool}
end
/-! ### own facts of the written part -/
abbrev AlX : Type := He.AlD × Bool
def obsX (fa : List He.Fa) (fn : List He.DefD) (xs : List (PySem.W.Frag → Bool)) (K : PySem.W.Frag) : AlX := (He.obsD fa fn K, xs.all fun f => f K)
def valX (fn : List He.DefD) : AlX := (He.valD fn, true)
def obsXG (n : Nat) (fa : List He.Fa) (fn : List He.DefD) (xs : List (PySem.W.Frag → Bool)) (g : Addr → Option Obj) : AlX := obsX fa fn xs (He.frG g (He.asD g n))
def SaysX (fa : List He.Fa) (fn : List He.DefD) (xs : List (PySem.W.Frag → Bool)) (K : PySem.W.Frag) : Prop := obsX fa fn xs K = valX fn
def hookX (n : Nat) (fa : List He.Fa) (fn : List He.DefD) (xs : List (PySem.W.Frag → Bool)) : PySem.W.Hook where
  α := AlX
  obs := fun s => obsXG n fa fn xs s.heap.get?
  val := fun _ => valX fn
  says := fun _ h => ∃ K : PySem.W.Frag, K.In h ∧ SaysX fa fn xs K
  of := fun _ _ e => ⟨_, He.frG_in, e⟩
  keeps := fun _ _ _ ⟨K, hK, c⟩ k => ⟨K, PySem.W.Frag.In.keeps hK k, c⟩
theorem obsXG_eq {n : Nat} {fa : List He.Fa} {fn : List He.DefD} {xs : List (PySem.W.Frag → Bool)} {g : Addr → Option Obj} {s : Shared} (h : ∀ a, g a = s.heap.get? a) : obsXG n fa fn xs g = (hookX n fa fn xs).obs s := by
  have e : g = s.heap.get? := funext h
  rw [e] <;> rfl
section
variable {fa : List He.Fa} {fn : List He.DefD} {xs : List (PySem.W.Frag → Bool)} {K : PySem.W.Frag}
theorem SaysX.d (c : SaysX fa fn xs K) : He.SaysD fa fn K := congrArg (fun z : AlX => z.1) c
theorem SaysX.x (c : SaysX fa fn xs K) (i : Nat) {f : PySem.W.Frag → Bool} (h : xs[i]? = some f := by rfl) : f K = true := List.all_eq_true.mp (show (xs.all fun f => f K) = true from congrArg (fun z : AlX => z.2) c) f (List.mem_of_getElem? h)
end
end B
/-! list(it), it an iterator: a range from its end. -/
namespace B
open PySem L2 PySem.Spec PyProof.Rows
section
variable {prog : Program} {w : World} {A : Around} {E : Value → Shared → Prop} {s : Shared}
variable {T : String} {it : Addr} {ds : List Addr} {n : Nat} {P : Nat → Value → Prop} {St : Nat → Heap → Prop}
end
section
variable {z : Zx} {k : Nat} {a : Expr} {ma : Ev} {p pos : Pos}
end
end B
/-! Objects: fields, methods, C(..). -/
namespace B
open PySem L2 PySem.Spec PyProof.Rows
section
variable {B : Bx} {ρ : List Addr} {G H : Hp} {S : Sto}
end
section
variable {z : Zx} {j k c : Nat} {o e v : Expr} {es : List Expr} {mo mv m : Ev} {ms : List Ev} {pos tpos apos p : Pos}
end
section
variable {P : Program} {w : World} {K : PySem.W.Frag} {mg : Str → Option Value} {base : Heap} {xc : Nat → Value} {oc : Nat → Addr} {name qual : Str} {params : Arguments} {body : List Stmt} {scope : Scope} {f : Addr} {fd : FuncData} {N ps : List Str} {k : Nat} {b : Sx}
end
def clsBody : Stmt → List Stmt
  | .ClassDef (body := b) .. => b
  | _ => []
end B
/-! further rules -/
namespace B
open PySem L2
/-! list(d), d a dict of the store -/
section
variable {K : PySem.W.Frag} {G : Hp} {α : Type}
end
section
variable {z : Zx} {k : Nat} {a : Expr} {ma : Ev} {p pos : Pos}
end
end B
/-! Products of many bits; the end of a row with the script's bits told. -/
namespace B
open PySem L2 PySem.Spec PyProof.Rows
def CMulB (i j : Int) : Prop := i.natAbs.log2 + j.natAbs.log2 < 100000000
theorem CMulB.ok {i j : Int} (h : CMulB i j) : IntMulOk i j := by
  have b : ∀ x : Int, Builtin.Int.intBits x ≤ x.natAbs.log2 + 1 := fun x => by
    unfold Builtin.Int.intBits
    split <;> omega
  have h1 := b i
  have h2 := b j
  have h3 : i.natAbs.log2 + j.natAbs.log2 < 100000000 := h
  have e : bitsLine = 134217728 := by decide
  unfold IntMulOk
  intro z
  rw [Bool.and_eq_true] at z
  have z2 := z.2
  unfold Builtin.Int.intTooBig at z2
  have z3 := of_decide_eq_true z2
  rw [e] at z3
  omega
/-! len of a dict of the store -/
section
variable {z : Zx} {k : Nat} {a : Expr} {ma : Ev} {p pos : Pos}
end
end B
/-! a is True, a is False: truths. -/
namespace B
open PySem L2 PySem.Spec PyProof.Rows
end B
/-! x in T, T a tuple of texts of the module. -/
namespace B
open PySem L2 PySem.Spec PyProof.Rows
section
variable {z : Zx} {e : Expr} {m : Ev} {x : Str} {a : Addr} {pos : Pos}
end
end B
/-! Walks over a dict of data, locked meanwhile; a tail upon data. -/
namespace B
open PySem L2 PySem.Spec PyProof.Rows
def Dic (u : HO) : Prop := (∃ kv, u = .dK kv) ∨ ∃ kv, u = .dT kv
structure Sw (a : Addr) (G1 G2 : Hp) : Prop where
  ne : ∀ b, b ≠ a → G2 b = G1 b
  at_ : ∃ o u, Dic u ∧ ((G1 a = some u ∧ G2 a = some (.frz o u)) ∨ (G1 a = some (.frz o u) ∧ G2 a = some u))
section
variable {a : Addr} {G1 G2 : Hp} {K : PySem.W.Frag}
theorem Sw.tup (h : Sw a G1 G2) {b : Addr} {vs : List V} (e : G1 b = some (.tup vs)) : G2 b = some (.tup vs) := by
  by_cases c : b = a
  · subst c
    obtain ⟨o, u, hu, q | q⟩ := h.at_
    · rw [q.1] at e; cases e; rcases hu with ⟨_, h⟩ | ⟨_, h⟩ <;> cases h
    · rw [q.1] at e; cases e
  · rw [h.ne b c]; exact e
theorem Sw.lst (h : Sw a G1 G2) {b : Addr} {vs : List V} (e : G1 b = some (.lst vs)) : G2 b = some (.lst vs) := by
  by_cases c : b = a
  · subst c
    obtain ⟨o, u, hu, q | q⟩ := h.at_
    · rw [q.1] at e; cases e; rcases hu with ⟨_, h⟩ | ⟨_, h⟩ <;> cases h
    · rw [q.1] at e; cases e
  · rw [h.ne b c]; exact e
theorem Sw.exk (h : Sw a G1 G2) {b : Addr} {c : Value} {d : Option Addr} (e : G1 b = some (_root_.B.exk b c d)) : G2 b = some (_root_.B.exk b c d) := by
  unfold _root_.B.exk at e ⊢
  by_cases c : b = a
  · subst c
    obtain ⟨o, u, hu, q | q⟩ := h.at_
    · rw [q.1] at e; cases e; rcases hu with ⟨_, h⟩ | ⟨_, h⟩ <;> cases h
    · rw [q.1] at e; cases e
  · rw [h.ne b c]; exact e
theorem Sw.xd (h : Sw a G1 G2) {b : Addr} {vs : List (Str × V)} (e : G1 b = some (.xd vs)) : G2 b = some (.xd vs) := by
  by_cases c : b = a
  · subst c
    obtain ⟨o, u, hu, q | q⟩ := h.at_
    · rw [q.1] at e; cases e; rcases hu with ⟨_, h⟩ | ⟨_, h⟩ <;> cases h
    · rw [q.1] at e; cases e
  · rw [h.ne b c]; exact e
theorem Sw.frz (h : Sw a G1 G2) {b : Addr} {o : Obj} {v : HO} (hv : ¬ Dic v) (e : G1 b = some (.frz o v)) : G2 b = some (.frz o v) := by
  by_cases c : b = a
  · subst c
    obtain ⟨o, u, hu, q | q⟩ := h.at_
    · rw [q.1] at e; cases e; rcases hu with ⟨_, h⟩ | ⟨_, h⟩ <;> cases h
    · rw [q.1] at e; cases e; exact absurd hu hv
  · rw [h.ne b c]; exact e
theorem Sw.rd (h : Sw a G1 G2) {b : Addr} {v : HO} (hv : ∀ o x, v ≠ .frz o x) (r : Rd G1 b v) : Rd G2 b v := by
  by_cases c : b = a
  · subst c
    obtain ⟨o, u, hu, q | q⟩ := h.at_
    · rcases r with r | ⟨o', r⟩
      · rw [q.1] at r; cases r; exact .inr ⟨o, q.2⟩
      · rw [q.1] at r; cases r; rcases hu with ⟨_, h⟩ | ⟨_, h⟩ <;> cases h
    · rcases r with r | ⟨o', r⟩
      · rw [q.1] at r; cases r; exact absurd rfl (hv _ _)
      · rw [q.1] at r; cases r; exact .inl q.2
  · rcases r with r | ⟨o', r⟩
    · exact .inl (by rw [h.ne b c]; exact r)
    · exact .inr ⟨o', by rw [h.ne b c]; exact r⟩
theorem Sw.rdK (h : Sw a G1 G2) {b : Addr} {v : List (Key × V)} (r : Rd G1 b (.dK v)) : Rd G2 b (.dK v) := h.rd (fun _ _ q => (nomatch q)) r
theorem Sw.rdT (h : Sw a G1 G2) {b : Addr} {v : List (List Key × V)} (r : Rd G1 b (.dT v)) : Rd G2 b (.dT v) := h.rd (fun _ _ q => (nomatch q)) r
theorem Sw.inq (h : Sw a G1 G2) {b : Addr} {o : Obj} {vs : List V} (r : G1 b = some (.frz o (.tup vs)) ∧ o.dict = none) : G2 b = some (.frz o (.tup vs)) ∧ o.dict = none := ⟨h.frz (fun q => by rcases q with ⟨_, q⟩ | ⟨_, q⟩ <;> cases q) r.1, r.2⟩
theorem Sw.seq (h : Sw a G1 G2) {b : Addr} {vs : List V} (r : SqL K G1 b vs) : SqL K G2 b vs := by
  rcases r with r | r
  · exact .inl (h.rd (fun _ _ e => (nomatch e)) r)
  · exact .inr r
mutual
theorem Rep.sw (e : Sw a G1 G2) : ∀ {d : D} {v : V}, Rep K G1 d v → Rep K G2 d v
  | _, _, .non => .non
  | _, _, .bl b => .bl b
  | _, _, .int i => .int i
  | _, _, .str s => .str s
  | _, _, .tup h r => .tup (e.tup h) (RepL.sw e r)
  | _, _, .lst h r => .lst (e.lst h) (RepL.sw e r)
  | _, _, .inp h r => .inp (e.seq h) (RepL.sw e r)
  | _, _, .inq h r => .inq (e.inq h) (RepL.sw e r)
  | _, _, .dk h k r => .dk (e.rdK h) k (RepL.sw e r)
  | _, _, .dt h k r => .dt (e.rdT h) k (RepL.sw e r)
  | _, _, .xo0 h => .xo0 (e.exk h)
  | _, _, .xo h h2 k r => .xo (e.exk h) (e.xd h2) k (RepL.sw e r)
theorem RepL.sw (e : Sw a G1 G2) : ∀ {l : List D} {vs : List V}, RepL K G1 l vs → RepL K G2 l vs
  | _, _, .nil => .nil
  | _, _, .cons h r => .cons (Rep.sw e h) (RepL.sw e r)
end
variable {ρ : List Addr}
mutual
theorem RepW.sw (e : Sw a G1 G2) : ∀ {w : W} {v : V}, RepW K ρ G1 w v → RepW K ρ G2 w v
  | _, _, .d h => .d (Rep.sw e h)
  | _, _, .loc h => .loc h
  | _, _, .tw h r => .tw (e.tup h) (RepWs.sw e r)
theorem RepWs.sw (e : Sw a G1 G2) : ∀ {l : List W} {vs : List V}, RepWs K ρ G1 l vs → RepWs K ρ G2 l vs
  | _, _, .nil => .nil
  | _, _, .cons h r => .cons (RepW.sw e h) (RepWs.sw e r)
end
variable {B : Bx} {H1 H2 : Hp} {b : Addr}
theorem CellR.sw (e : Sw a G1 G2) (hh : H2 b = H1 b) : ∀ {c : C}, CellR B ρ G1 H1 b c → CellR B ρ G2 H2 b c
  | .l _, ⟨vs, h, r⟩ => ⟨vs, hh.trans h, RepL.sw e r⟩
  | .w _, ⟨vs, h, r⟩ => ⟨vs, hh.trans h, RepWs.sw e r⟩
  | .m false _, ⟨vs, h, k, r⟩ => ⟨vs, hh.trans h, k, RepL.sw e r⟩
  | .m true _, ⟨vs, h, k, r⟩ => ⟨vs, hh.trans h, k, RepL.sw e r⟩
  | .mw false _, ⟨vs, h, k, r⟩ => ⟨vs, hh.trans h, k, RepWs.sw e r⟩
  | .mw true _, ⟨vs, h, k, r⟩ => ⟨vs, hh.trans h, k, RepWs.sw e r⟩
  | .o _ _, ⟨dx, vs, h, k, r⟩ => ⟨dx, vs, hh.trans h, k, RepWs.sw e r⟩
/-- both heaps turned at one place -/
theorem Rel.sw {S : Sto} {x y : HO} (R : Rel B ρ G1 S H1) (hx : G1 a = some x) (e : Sw a G1 (upd G1 a y)) : Rel B ρ (upd G1 a y) S (upd H1 a y) := by
  have no : ∀ b ∈ ρ, b ≠ a := fun b hb q => by have := R.off b hb; rw [q, hx] at this; cases this
  refine ⟨fun b o h => ?_, R.len, R.nd, fun b hb => by rw [upd_ne (no b hb)]; exact R.off b hb, fun n c hc => ?_⟩
  · by_cases q : b = a
    · subst q; rw [upd_same] at h ⊢; exact h
    · rw [upd_ne q] at h ⊢; exact R.ex b o h
  · obtain ⟨b, h1, h2⟩ := R.cell n c hc
    exact ⟨b, h1, CellR.sw e (upd_ne (no b (List.mem_of_getElem? h1))) h2⟩
theorem EnvR.sw {env : Env} {σ : L2.St} (hp : B.pin = none) (e : Sw a G1 G2) (E : EnvR B ρ G1 env σ) : EnvR B ρ G2 env σ :=
  ⟨E.1, fun i w h => let ⟨v, h1, h2⟩ := E.2.1 i w h; ⟨v, h1, RepW.sw e h2⟩, fun p q => by rw [hp] at q; cases q⟩
end
section
variable {B : Bx} {Wi : WX} {ρ : List Addr} {G H : Hp} {S : Sto} {a : Addr} {o : Obj} {u : HO}
end
section
variable {z : Zx} {k : Nat}
end
/-! ### a tail upon data -/
end B
/-! setdefault, items, tails upon data with dicts of lists. -/
namespace B
open PySem L2 PySem.Spec PyProof.Rows
section
variable {B : Bx} {Wi : WX}
end
/-! ### for k, v in d.items() -/
section
variable {B : Bx} {Wi : WX} {ρ : List Addr} {G H : Hp} {S : Sto} {a : Addr} {o : Obj}
end
section
variable {z : Zx} {k : Nat}
end
/-! ### a tail upon data, dicts of lists too -/
end B
/-! defs with defaults, every parameter written -/
namespace B
open PySem L2 PySem.Spec PyProof.Rows
section
variable {P : Program} {w : World} {K : PySem.W.Frag} {mg : Str → Option Value} {base : Heap} {xc : Nat → Value} {oc : Nat → Addr} {x qual : Str} {params : Arguments} {body : List Stmt} {scope : Scope} {f : Addr} {fd : FuncData} {N ps : List Str} {k : Nat} {b : Sx} {dvs : List V}
end
end B
/-! d.get(k, x) -/
namespace B
open PySem L2 PySem.Spec PyProof.Rows
section
variable {B : Bx} {Wi : WX}
end
section
variable {z : Zx} {k : Nat}
end
end B
/-! sorted of pairs of a text and a whole number -/
namespace SrtO
open PySem PyProof.Rows Srt
section
variable {prog : Program} {w : World} {A : Around} {E : Value → Shared → Prop} {s : Shared}
def IsPairS (h : Heap) (v : Value) (x : List Nat) (y : Int) : Prop := ∃ a o z t u n, v = .ref a ∧ h.get? a = some o ∧ o.cls = .type "tuple" ∧ o.data = .seq #[.str z t, .int y u] n ∧ z.cps.toList = x
theorem IsPairS.keeps {h h' : Heap} {v : Value} {x : List Nat} {y : Int} (p : IsPairS h v x y) (k : ∀ b o, h.get? b = some o → o.cls = .type "tuple" → h'.get? b = some o) : IsPairS h' v x y := by
  obtain ⟨a, o, z, t, u, n, e, ho, hc, hd, hz⟩ := p
  exact ⟨a, o, z, t, u, n, e, k _ _ ho hc, hc, hd, hz⟩
end
end SrtO
namespace L2
open PySem PySem.Spec PyProof.Rows
section
variable {X : Cx}
end
end L2
/-! sorted of pairs of a text and a whole number: as a step of B -/
namespace B
open PySem L2 PySem.Spec PyProof.Rows
section
variable {z : Zx} {k : Nat} {ma : Ev} {a : Expr} {p pos : Pos}
end
end B
/-! tuple(reversed(a tuple)) -/
namespace RT
open PySem PySem.Spec PyProof.Rows
section
variable {prog : Program} {w : World} {A : Around} {E : Value → Shared → Prop} {s : Shared}
/-! ### tuple(reversed(a tuple)) -/
end
end RT
namespace RZ
open PySem PySem.Spec PyProof.Rows L2 RT
section
variable {X : Cx}
end
end RZ
namespace B
open PySem L2 PySem.Spec PyProof.Rows
section
variable {B : Bx} {Wi : WX}
end
section
variable {z : Zx} {k : Nat} {a : Expr} {ma : Ev} {p p2 q pos : Pos}
end
end B
/-! a[lo::st] of a list, st above 0. -/
namespace B
open PySem L2 PySem.Spec PyProof.Rows
/-! ### the B term -/
section
variable {z : Zx} {a : Expr} {ma : Ev} {pos : Pos}
end
end B
/-! sorted of a list of texts, fewer than 64 -/
namespace B
open PySem L2 PySem.Spec PyProof.Rows
section
variable {z : Zx} {k : Nat} {ma : Ev} {a : Expr} {p pos : Pos}
end
end B
/-! d.get(k, x) of a dict in the store or told as data; calls where defaults fill up -/
namespace B
open PySem L2 PySem.Spec PyProof.Rows
section
variable {B : Bx} {Wi : WX}
end
section
variable {z : Zx} {k : Nat}
end
/-! ### defaults fill up -/
section
variable {z : Zx} {j k : Nat} {x : Str} {ps : List Str} {f : Fn} {e : Expr} {es : List Expr} {m : Ev} {ms : List Ev} {p pos : Pos} {dvs : List V}
end
/-! ### a def that tells a dict of lists which it made -/
/-! ### tuples joined, the left one may be empty -/
end B
/-! raise C(e, ..) where C's own __init__ sets fields. -/
namespace B
open PySem L2 PySem.Spec PyProof.Rows
section
variable {X : Cx} {e : Expr} {es : List Expr} {ta : TA} {x : Str} {p1 p2 pos : Pos} {Bc : Addr}
end
/-! ### such an __init__ -/
/-! ### the raise -/
section
variable {z : Zx} {k j : Nat} {C fI : Addr} {x f1 : Str} {p pos pos' : Pos} {e : Expr} {es : List Expr} {m : Ev} {ms : List Ev} {ps : List Str}
end
section
variable {z : Zx} {k j : Nat} {C fI : Addr} {x f1 f2 : Str} {p pos pos' : Pos} {e : Expr} {es : List Expr} {m : Ev} {ms : List Ev} {ps : List Str}
end
/-! ### the hook with the interpreter's own statics -/
end B
/-! t[lo::st] of a tuple, st above 0. -/
namespace B
open PySem L2 PySem.Spec PyProof.Rows HT
section
variable {prog : Program} {w : World} {A : Around} {E : Value → Shared → Prop} {s : Shared}
end
section
variable {z : Zx} {a : Expr} {ma : Ev} {pos : Pos}
end
end B
/-! A caught exception kept: except X as e: y = e; later isinstance(y, ..), y.f. -/
namespace L2
open PySem PySem.Spec PyProof.Rows
section
variable {X : Cx} {pins : List (Addr × Obj)} {σ : St} {H : Hp} {s : Shared}
end
section
variable {X : Cx} {x n : Str} {c : Value} {i : Nat} {body suite : List Stmt} {b₀ : Stmt} {np pos pos' : Pos} {tb : WX → TS} {ts : Addr → Value → Option Addr → TS} {Wout : WX}
end
end L2
namespace B
open PySem L2 PySem.Spec PyProof.Rows
section
variable {z : Zx} {k : Nat}
end
/-! ### isinstance of such a value, or of None -/
section
variable {z : Zx} {p p2 pos : Pos} {tb : List (List Nat × Bool)} {a : Expr} {ma : Ev}
end
/-! ### y.f -/
end B
/-! try: b / except X: h / else: el. -/
namespace B
open PySem L2 PySem.Spec PyProof.Rows
section
variable {z : Zx} {k : Nat}
end
end B
/-! A tail for which the cells from m on are data, the ones ahead stay. -/
namespace B
open PySem L2
end B
/-! y = [a for t in d], d a dict that an expression yields: it is locked from then on until the list is done. -/
namespace L2
open PySem PySem.Spec PyProof.Rows
section
variable {X : Cx}
end
end L2
namespace B
open PySem L2
open L2 (It)
section
variable {B : Bx} {Wi : WX}
end
section
variable {z : Zx} {k : Nat}
end
end B
/-! list(reversed(x)), x a list: a new list of the store. -/
namespace RT
open PySem PySem.Spec PyProof.Rows
section
variable {prog : Program} {w : World} {A : Around} {E : Value → Shared → Prop} {s : Shared}
end
end RT
namespace RZ
open PySem PySem.Spec PyProof.Rows L2 RT
section
variable {X : Cx}
end
end RZ
namespace B
open PySem L2 PySem.Spec PyProof.Rows
section
variable {B : Bx} {Wi : WX}
end
section
variable {z : Zx} {k : Nat} {a : Expr} {ma : Ev} {p p2 q pos : Pos}
end
end B
/-! Unpacking a list of the store. -/
namespace B
open PySem L2 PySem.Spec PyProof.Rows
section
variable {B : Bx}
end
section
variable {z : Zx} {k : Nat} {pos : Pos}
end
end B
/-! isinstance(o, C) of an own object; C() of a class without an __init__ of its own. -/
namespace MkO
open PySem PySem.W PySem.Calls PySem.Spec PyProof.Rows Builtin L2
def mkbB (K : PySem.W.Frag) (C : Addr) : Bool := PySem.W.makesIn K C && (decide (PySem.W.findIn K (.ref C) "__init__" = some (some (.builtin "object.__init__"))) && (PySem.W.keepIn K (.ref C) && decide (PySem.W.mroIn K C (.type "object") = some true)))
end MkO
namespace B
open PySem L2 PySem.Spec PyProof.Rows MkO
def owcB (K : PySem.W.Frag) (C : Addr) : Bool := decide (PySem.W.findIn K (.ref C) "__class__" = some (some (.builtin "object.__class__"))) && (decide (PySem.W.specialIn K (.builtin "object.__class__") "__get__" = some (some (.builtin "getset_descriptor.__get__"))) && (decide (PySem.W.takesIn K (.builtin "object.__class__") = some true) && decide (PySem.W.mroIn K C (.type "object") = some true)))
section
variable {z : Zx} {c : Nat} {p p2 pos : Pos} {o : Expr} {mo : Ev}
end
end B
namespace B
open PySem L2 PySem.Spec PyProof.Rows
section
variable {B : Bx} {Wi : WX}
end
section
variable {z : Zx} {k : Nat} {a : Expr} {ma : Ev} {p p2 q pos : Pos}
end
end B
namespace Rw_bundlehouse_k26_walks
open PySem PySem.Spec PyProof.Rows L2 B
def top (i : Nat) : Stmt := PySem.Challenge.pw_bundlehouse_k26_walks.main.body.getD i (.Pass ⟨0, 0, 0, 0⟩)
def mth (i j : Nat) : Stmt := (clsBody (top i)).getD j (.Pass ⟨0, 0, 0, 0⟩)
def fn : List He.DefD := [⟨("_law_cell_at", none), "_law_cell_at", "_law_cell_at", defArgs (top 18), defBody (top 18), defScope (top 18), [], []⟩,
  ⟨("_law_name", none), "_law_name", "_law_name", defArgs (top 20), defBody (top 20), defScope (top 20), [], []⟩,
  ⟨("_law_parts", none), "_law_parts", "_law_parts", defArgs (top 22), defBody (top 22), defScope (top 22), [], []⟩,
  ⟨("PartsWalk", some "__init__"), "__init__", "PartsWalk.__init__", defArgs (mth 16 0), defBody (mth 16 0), defScope (mth 16 0), [], []⟩,
  ⟨("_law_number", none), "_law_number", "_law_number", defArgs (top 21), defBody (top 21), defScope (top 21), [], []⟩,
  ⟨("PartsWalk", some "rows_of"), "rows_of", "PartsWalk.rows_of", defArgs (mth 16 1), defBody (mth 16 1), defScope (mth 16 1), [], []⟩,
  ⟨("rows_of", none), "rows_of", "rows_of", defArgs (top 4), defBody (top 4), defScope (top 4), [], []⟩,
  ⟨("made_by", none), "made_by", "made_by", defArgs (top 5), defBody (top 5), defScope (top 5), [], []⟩,
  ⟨("made_in", none), "made_in", "made_in", defArgs (top 6), defBody (top 6), defScope (top 6), [], []⟩,
  ⟨("brought_from", none), "brought_from", "brought_from", defArgs (top 7), defBody (top 7), defScope (top 7), [], []⟩,
  ⟨("given_as", none), "given_as", "given_as", defArgs (top 8), defBody (top 8), defScope (top 8), [], []⟩,
  ⟨("onward", none), "onward", "onward", defArgs (top 9), defBody (top 9), defScope (top 9), [], []⟩,
  ⟨("maker", none), "maker", "maker", defArgs (top 10), defBody (top 10), defScope (top 10), [], []⟩,
  ⟨("PartsWalk", some "key_of"), "key_of", "PartsWalk.key_of", defArgs (mth 16 2), defBody (mth 16 2), defScope (mth 16 2), [], []⟩,
  ⟨("_law_whole", none), "_law_whole", "_law_whole", defArgs (top 19), defBody (top 19), defScope (top 19), [], []⟩,
  ⟨("PartsWalk", some "loads_of"), "loads_of", "Walk.loads_of", defArgs (mth 15 2), defBody (mth 15 2), defScope (mth 15 2), [], []⟩,
  ⟨("PartsWalk", some "ahead_of"), "ahead_of", "Walk.ahead_of", defArgs (mth 15 3), defBody (mth 15 3), defScope (mth 15 3), [], []⟩,
  ⟨("_law_told", none), "_law_told", "_law_told", defArgs (top 25), defBody (top 25), defScope (top 25), [], []⟩,
  ⟨("Walk", some "rows_of"), "rows_of", "Walk.rows_of", defArgs (mth 15 0), defBody (mth 15 0), defScope (mth 15 0), [], []⟩,
  ⟨("Walk", some "key_of"), "key_of", "Walk.key_of", defArgs (mth 15 1), defBody (mth 15 1), defScope (mth 15 1), [], []⟩,
  ⟨("Walk", some "loads_of"), "loads_of", "Walk.loads_of", defArgs (mth 15 2), defBody (mth 15 2), defScope (mth 15 2), [], []⟩,
  ⟨("Walk", some "ahead_of"), "ahead_of", "Walk.ahead_of", defArgs (mth 15 3), defBody (mth 15 3), defScope (mth 15 3), [], []⟩,
  ⟨("Trail", some "__init__"), "__init__", "Trail.__init__", defArgs (mth 12 0), defBody (mth 12 0), defScope (mth 12 0), [], []⟩,
  ⟨("Trail", some "load"), "load", "Trail.load", defArgs (mth 12 2), defBody (mth 12 2), defScope (mth 12 2), [], []⟩,
  ⟨("when_of", none), "when_of", "when_of", defArgs (top 14), defBody (top 14), defScope (top 14), [], []⟩,
  ⟨("sum_names", none), "sum_names", "sum_names", defArgs (top 1), defBody (top 1), defScope (top 1), [], []⟩,
  ⟨("read_names", none), "read_names", "read_names", defArgs (top 2), defBody (top 2), defScope (top 2), [], []⟩,
  ⟨("Walk", some "found_by"), "found_by", "Walk.found_by", defArgs (mth 15 6), defBody (mth 15 6), defScope (mth 15 6), [], []⟩,
  ⟨("value_of", none), "value_of", "value_of", defArgs (top 13), defBody (top 13), defScope (top 13), [], []⟩,
  ⟨("Trail", some "take"), "take", "Trail.take", defArgs (mth 12 1), defBody (mth 12 1), defScope (mth 12 1), [], []⟩,
  ⟨("Walk", some "done"), "done", "Walk.done", defArgs (mth 15 7), defBody (mth 15 7), defScope (mth 15 7), [], []⟩,
  ⟨("Walk", some "begin"), "begin", "Walk.begin", defArgs (mth 15 5), defBody (mth 15 5), defScope (mth 15 5), [], []⟩,
  ⟨("Walk", some "go"), "go", "Walk.go", defArgs (mth 15 4), defBody (mth 15 4), defScope (mth 15 4), [], []⟩,
  ⟨("_law_bare", none), "_law_bare", "_law_bare", defArgs (top 26), defBody (top 26), defScope (top 26), [], []⟩,
  ⟨("PartsWalk", some "found_by"), "found_by", "Walk.found_by", defArgs (mth 15 6), defBody (mth 15 6), defScope (mth 15 6), [], []⟩,
  ⟨("PartsWalk", some "done"), "done", "Walk.done", defArgs (mth 15 7), defBody (mth 15 7), defScope (mth 15 7), [], []⟩,
  ⟨("PartsWalk", some "begin"), "begin", "Walk.begin", defArgs (mth 15 5), defBody (mth 15 5), defScope (mth 15 5), [], []⟩,
  ⟨("PartsWalk", some "go"), "go", "Walk.go", defArgs (mth 15 4), defBody (mth 15 4), defScope (mth 15 4), [], []⟩,
  ⟨("_law_due", none), "_law_due", "_law_due", defArgs (top 23), defBody (top 23), defScope (top 23), [], []⟩,
  ⟨("_law_gone", none), "_law_gone", "_law_gone", defArgs (top 24), defBody (top 24), defScope (top 24), [], []⟩,
  ⟨("law", none), "law", "law", defArgs (top 27), defBody (top 27), defScope (top 27), [], []⟩]
def fa : List He.Fa := [.glo "_law_cell_at", .glo "_law_name", .glo "_law_parts", .glo "_law_number", .glo "rows_of", .glo "made_by", .glo "made_in", .glo "brought_from", .glo "given_as", .glo "onward", .glo "maker", .glo "_law_whole", .glo "_law_told", .glo "when_of", .glo "sum_names", .glo "read_names", .glo "value_of", .glo "_law_bare", .glo "_law_due", .glo "_law_gone", .glo "law", .free "len", .free "tuple", .free "range", .free "enumerate", .free "bool", .free "int", .free "isinstance", .free "list", .free "str", .free "reversed", .glo "Trail", .glo "PartsWalk", .glo "Walk", .cls "PartsWalk", .cls "Trail", .cls "Walk", .noat "PartsWalk" "parts", .noat "Trail" "numbers", .noat "Trail" "taken", .noat "Trail" "known", .noat "Trail" "begun", .noat "Trail" "loaded", .noat "Trail" "trace", .noat "Trail" "fault", .meth "PartsWalk" "rows_of", .meth "PartsWalk" "loads_of", .meth "PartsWalk" "ahead_of", .meth "PartsWalk" "key_of", .meth "Walk" "key_of", .meth "Trail" "take", .meth "Trail" "load", .meth "Walk" "loads_of", .meth "Walk" "begin", .meth "Walk" "found_by", .meth "Walk" "done", .meth "Walk" "rows_of", .meth "Walk" "ahead_of", .meth "Walk" "go", .meth "PartsWalk" "begin", .meth "PartsWalk" "found_by", .meth "PartsWalk" "done", .meth "PartsWalk" "go", .mkr "Trail", .mkr "PartsWalk"]
abbrev OC (K : PySem.W.Frag) : Nat → Addr := fun n => He.ga K (["Trail", "PartsWalk", "Walk"].getD n "")
def xs : List (PySem.W.Frag → Bool) := [fun K => MkO.mkbB K (He.ga K "Walk"),
  fun K => owcB K (He.ga K "PartsWalk"),
  fun K => decide (PySem.W.kitOne K (.ref (He.ga K "PartsWalk")) (.ref (He.ga K "Walk")) = some true)]
abbrev R : PySem.W.OpenRow := PySem.W.OpenLaw.row PySem.Challenge.rw_bundlehouse_k26_walks
abbrev hk : PySem.W.Hook := hookX 6 fa fn xs
def ob (s : PySem.W.SharedT) : AlX := obsXG 6 fa fn xs (HandSHeadRun.getT s)
theorem ob_eq (s : PySem.W.SharedT) : ob s = hk.obs s.abs := obsXG_eq (HandSHeadRun.getT_eq s)
def names0 : List PySem.Str := ["sum_names", "read_names", "rows_of", "made_by", "made_in", "brought_from", "given_as", "onward", "maker", "Trail", "value_of", "when_of", "Walk", "PartsWalk", "_law_cell_at", "_law_whole", "_law_name", "_law_number", "_law_parts", "_law_due", "_law_gone", "_law_told", "_law_bare"]
def names : List PySem.Str := names0
theorem run (w : World) : HandSHeadRun.RunEq R (PySem.W.view R.prog [27]) hk ob 6000 names w := by
  intro os
  kernel_rfl
end Rw_bundlehouse_k26_walks
/-! B: a small language of plain data: what a body computes, with no heap in sight. -/
namespace B

@[simp] theorem need_true {α : Type} (r : R α) : need true r = r := rfl
theorem need_of {α : Type} {b : Bool} (h : b = true) (r : R α) : need b r = r := by subst h; rfl

/-! ### data -/
/-- None, boolsD, intsD, texts -/
def flat : D → Bool
  | .non => true | .bl _ => true | .int _ => true | .str _ => true | _ => false
/-! ### from a value to data -/
/-- a new list in the store -/
def newL (xs : List W) (s : Sto) : VS := match asDs xs with
  | some l => .ok (.loc s.length, s ++ [.l l])
  | none => .ok (.loc s.length, s ++ [.w xs])

/-! ### closed under a line -/
def fin (n : Nat) (r : VS) : VS := match r with
  | .ok (w, s) => (match frz n s w with
    | some w' => if clS n (s.take n) then .ok (w', s.take n) else .stuck
    | none => .stuck)
  | .ex x s => if clS n (s.take n) then .ex x (s.take n) else .stuck
  | .stuck => .stuck
def outOf (r : R O) : VS := match r with
  | .ok (.rt w s) => .ok (w, s)
  | .ok (.nx _ s) => .ok (.d .non, s)
  | .ok (.xx x _ s) => .ex x s
  | _ => .stuck
def start (n : Nat) (a : List W) : Env := a.map some ++ List.replicate (n - a.length) none
/-- a def: what it makes in the store is gone behind it -/
def mkF (n : Nat) (b : Sx) : Fn := fun a s => fin s.length (outOf (b (start n a) s))
/-- a def: what it makes in the store stays -/
def mkK (n : Nat) (b : Sx) : Fn := fun a s => outOf (b (start n a) s)

/-! ### expressions -/
def eV (i : Nat) : Ev := fun e s => match e[i]? with
  | some (some w) => .ok (w, s)
  | _ => .stuck
def eK (x : D) : Ev := fun _ s => .ok (.d x, s)
def e3 (f : W → W → W → Sto → VS) (a b c : Ev) : Ev := fun e s => (a e s).bind fun p => (b e p.2).bind fun q => (c e q.2).bind fun r => f p.1 q.1 r.1 r.2
def eAs : List Ev → Env → Sto → R (List W × Sto)
  | [], _, s => .ok ([], s)
  | a :: r, e, s => (a e s).bind fun p => (eAs r e p.2).bind fun q => .ok (p.1 :: q.1, q.2)
def eN (f : Fn) (as : List Ev) : Ev := fun e s => (eAs as e s).bind fun p => f p.1 p.2
/-- a step upon data -/
def d1 (f : D → R D) : W → Sto → VS := fun x s => (dat s x).bind fun a => (f a).bind fun r => .ok (.d r, s)
def d2 (f : D → D → R D) : W → W → Sto → VS := fun x y s => (dat s x).bind fun a => (dat s y).bind fun b => (f a b).bind fun r => .ok (.d r, s)

/-! tests -/
def tB (a : Ev) : Tx := fun e s => (a e s).bind fun p => match p.1 with
  | .d (.bl b) => .ok (b, p.2)
  | _ => .stuck
def tAnd (a b : Tx) : Tx := fun e s => (a e s).bind fun p => if p.1 then b e p.2 else .ok (false, p.2)
def tOr (a b : Tx) : Tx := fun e s => (a e s).bind fun p => if p.1 then .ok (true, p.2) else b e p.2
def tNot (a : Tx) : Tx := fun e s => (a e s).bind fun p => .ok (!p.1, p.2)
def eAnd (a b : Ev) : Ev := fun e s => (a e s).bind fun p => match p.1 with
  | .d (.bl true) => b e p.2
  | .d (.bl false) => .ok (.d (.bl false), p.2)
  | _ => .stuck
def eOr (a b : Ev) : Ev := fun e s => (a e s).bind fun p => match p.1 with
  | .d (.bl true) => .ok (.d (.bl true), p.2)
  | .d (.bl false) => b e p.2
  | _ => .stuck
def eNot (a : Ev) : Ev := fun e s => (a e s).bind fun p => match p.1 with
  | .d (.bl b) => .ok (.d (.bl (!b)), p.2)
  | _ => .stuck
def eIf (t : Tx) (a b : Ev) : Ev := fun e s => (t e s).bind fun p => if p.1 then a e p.2 else b e p.2

/-! operators on data -/
def I2 (f : Int → Int → R D) : D → D → R D
  | .int i, .int j => f i j
  | _, _ => .stuck
def mulOk (i j : Int) : Bool := small i || small j || decide (i.natAbs.log2 + j.natAbs.log2 < 1000000)
def divOk (j : Int) : Bool := decide (0 < j) && decide (j.natAbs.log2 < 9000)
/-- lists and tuples joined: a new one, data -/
def oCat : W → W → Sto → VS := fun x y s => match x, y with
  | .d (.tup l), .d (.tup m) => need (decide (l.length + m.length ≤ sizeL) && decide (0 < l.length)) (.ok (.d (.tup (l ++ m)), s))
  | x, y => (lstOf s x).bind fun l => (lstOf s y).bind fun m => (ofO (asDs (l ++ m))).bind fun r => need (decide (r.length ≤ sizeL)) (.ok (.d (.lst r), s))
def oAdd : W → W → Sto → VS := fun x y s => match x, y with
  | .d (.int i), .d (.int j) => .ok (.d (.int (i + j)), s)
  | .d (.str x), .d (.str y) => need (decide (x.length + y.length ≤ sizeL)) (.ok (.d (.str (x ++ y)), s))
  | x, y => oCat x y s
def oAddI : D → D → R D := I2 fun i j => .ok (.int (i + j))
def oSub : D → D → R D := I2 fun i j => .ok (.int (i - j))
def oMul : D → D → R D
  | .int i, .int j => need (mulOk i j) (.ok (.int (i * j)))
  | .str z, .int j => need (decide (0 ≤ j) && decide (j ≤ 1000) && decide (z.length ≤ 1000)) (.ok (.str (List.replicate j.toNat z).flatten))
  | _, _ => .stuck
def oDiv : D → D → R D := I2 fun i j => need (divOk j) (.ok (.int (i / j)))
def oMod : D → D → R D := I2 fun i j => need (decide (0 < j)) (.ok (.int (i % j)))
def oPow : D → D → R D := I2 fun i j => need (decide (0 ≤ j) && decide (j ≤ 1000000) && decide (i.natAbs < 2 ^ 64)) (.ok (.int (i ^ j.toNat)))
def oNeg : D → R D
  | .int i => .ok (.int (-i)) | _ => .stuck
def cLt : D → D → R D := I2 fun i j => .ok (.bl (decide (i < j)))
def cLe : D → D → R D := I2 fun i j => .ok (.bl (decide (i ≤ j)))
def cGt : D → D → R D := I2 fun i j => .ok (.bl (decide (j < i)))
def cGe : D → D → R D := I2 fun i j => .ok (.bl (decide (j ≤ i)))
/-- None, intsD, boolsD, texts of one kind: == tells them apart as data does -/
def scalD : D → D → Bool
  | .non, .non => true | .non, .int _ => true | .int _, .non => true | .non, .bl _ => true | .bl _, .non => true | .non, .str _ => true | .str _, .non => true
  | .int _, .int _ => true | .bl _, .bl _ => true | .str _, .str _ => true
  | .int _, .str _ => true | .str _, .int _ => true | .bl _, .str _ => true | .str _, .bl _ => true
  | _, _ => false
def cEq : D → D → R D := fun a b => need (scalD a b || (okD 60 a && okD 60 b)) (.ok (.bl (eqv a b)))
def cNe : D → D → R D := fun a b => need (scalD a b || (okD 60 a && okD 60 b)) (.ok (.bl (!eqv a b)))
def isN : D → Bool
  | .non => true | _ => false
def cIsN : W → Sto → VS := fun x s => match x with
  | .d x => .ok (.d (.bl (isN x)), s)
  | _ => .ok (.d (.bl false), s)
def cNotN : W → Sto → VS := fun x s => match x with
  | .d x => .ok (.d (.bl (!isN x)), s)
  | _ => .ok (.d (.bl true), s)
/-- keys: intsD and texts; tuples of these -/
def key1 : D → Bool
  | .int _ => true | .str _ => true | _ => false
def keyOk (t : Bool) (x : D) : Bool := match x with
  | .tup l => t && l.all key1
  | x => !t && key1 x
def lookD {α : Type} (l : List (D × α)) (x : D) : Option α := (l.find? fun p => eqv p.1 x).map (·.2)
def putD {α : Type} (l : List (D × α)) (x : D) (v : α) : List (D × α) := if (l.any fun p => eqv p.1 x) = true then l.map (fun p => if eqv p.1 x = true then (p.1, v) else p) else l ++ [(x, v)]
/-- x in a list or a tuple -/
def inL (x : D) (l : List D) : Bool := l.any fun y => eqv y x
def seqOf : D → R (List D)
  | .lst l => .ok l | .tup l => .ok l | _ => .stuck
def oneOf (x : D) : D → R Bool
  | .lst l => need ((flat x && l.all flat) || (okD 60 x && okL 59 l)) (.ok (inL x l))
  | .tup l => need ((flat x && l.all flat) || (okD 60 x && okL 59 l)) (.ok (inL x l))
  | .dct t l => need (keyOk t x) (.ok (lookD l x).isSome)
  | .str z => (match x with
    | .str [c] => .ok (z.contains c)
    | _ => .stuck)
  | _ => .stuck
def cIn : D → D → R D := fun x y => (oneOf x y).bind fun b => .ok (.bl b)
def cNin : D → D → R D := fun x y => (oneOf x y).bind fun b => .ok (.bl (!b))
def ixN (n : Nat) (i : Int) : Option Nat := if 0 ≤ i then (if i < n then some i.toNat else none) else if -(n : Int) ≤ i then some (i + n).toNat else none
def atI {α : Type} (xs : List α) (i : Int) : Option α := (ixN xs.length i).bind fun j => xs[j]?
def ixW (l : List W) (y : W) (s : Sto) : VS := match y with
  | .d (.int i) => (ofO (atI l i)).bind fun w => .ok (w, s)
  | _ => .stuck
def ixM (t : Bool) (l : List (D × D)) (y : W) (s : Sto) : VS := (dat s y).bind fun k => need (keyOk t k) ((ofO (lookD l k)).bind fun v => .ok (.d v, s))
def ixMW (t : Bool) (l : List (D × W)) (y : W) (s : Sto) : VS := (dat s y).bind fun k => need (keyOk t k) ((ofO (lookD l k)).bind fun v => .ok (v, s))
def ixS (z : List Nat) (y : W) (s : Sto) : VS := match y with
  | .d (.int i) => need (decide (z.length ≤ sizeL)) ((ofO (atI z i)).bind fun c => .ok (.d (.str [c]), s))
  | _ => .stuck
/-- x[y] -/
def oIx : W → W → Sto → VS := fun x y s => match x with
  | .d (.str z) => ixS z y s
  | .d (.lst l) => ixW (ws l) y s
  | .d (.tup l) => ixW (ws l) y s
  | .d (.inp l) => ixW (ws l) y s
  | .d (.inq l) => ixW (ws l) y s
  | .d (.dct t l) => ixM t l y s
  | .tw l => ixW l y s
  | .loc n => (match s[n]? with
    | some (.l l) => ixW (ws l) y s
    | some (.w l) => ixW l y s
    | some (.m t l) => ixM t l y s
    | some (.mw t l) => ixMW t l y s
    | _ => .stuck)
  | _ => .stuck
def asI : W → R (Option Int)
  | .d (.int i) => .ok (some i) | _ => .stuck
def pt (o : Option Ev) (e : Env) (s : Sto) : R (Option Int × Sto) := match o with
  | none => .ok (none, s)
  | some b => (b e s).bind fun q => (asI q.1).bind fun i => .ok (i, q.2)
def eSl (a : Ev) (lo hi : Option Ev) : Ev := fun e s => (a e s).bind fun p => (pt lo e p.2).bind fun l => (pt hi e l.2).bind fun h => slice l.1 h.1 p.1 h.2
/-! displays -/
def tupW (l : List W) : W := match asDs l with
  | some l => .d (.tup l) | none => .tw l
def fTup : Fn := fun l s => need (decide (l.length ≤ sizeL)) (.ok (tupW l, s))
def fLst : Fn := fun l s => need (decide (l.length ≤ sizeL)) ((ofO (asDs l)).bind fun l => .ok (.d (.lst l), s))
def fLstC : Fn := fun l s => need (decide (l.length ≤ sizeL)) (newL l s)
/-! built-ins -/
def bLen : W → Sto → VS := fun x s => match x with
  | .d (.str z) => need (decide (z.length ≤ sizeL)) (.ok (.d (.int z.length), s))
  | .loc k => (match s[k]? with
    | some (.l l) => .ok (.d (.int l.length), s)
    | some (.w l) => .ok (.d (.int l.length), s)
    | _ => .stuck)
  | x => (items s x).bind fun l => .ok (.d (.int l.length), s)
/-- tuple(x) -/
def bTup : W → Sto → VS := fun x s => match x with
  | .d (.tup l) => .ok (.d (.tup l), s)
  | .tw l => .ok (.tw l, s)
  | .d (.inp l) => .ok (.d (.tup l), s)
  | x => (lstOf s x).bind fun l => .ok (tupW l, s)
/-- list(x): data; in the store -/
def bLst : W → Sto → VS := fun x s => (items s x).bind fun l => (ofO (asDs l)).bind fun l => .ok (.d (.lst l), s)
def bLstC : W → Sto → VS := fun x s => (items s x).bind fun l => newL l s
def intsD : List D → Option (List Int)
  | [] => some []
  | .int i :: r => (intsD r).map (i :: ·)
  | _ :: _ => none
def boolsD : List D → Option (List Bool)
  | [] => some []
  | .bl i :: r => (boolsD r).map (i :: ·)
  | _ :: _ => none
def listD : D → R (List D)
  | .lst l => .ok l | .inp l => .ok l | _ => .stuck
def bSum : D → R D := fun x => (listD x).bind fun l => (ofO (intsD l)).bind fun l => .ok (.int l.sum)
def bAny : D → R D := fun x => (listD x).bind fun l => (ofO (boolsD l)).bind fun l => .ok (.bl (l.any id))
/-- sorted(x), intsD -/
def bSortI : D → R D := fun x => (seqOf x).bind fun l => (ofO (intsD l)).bind fun l => .ok (.lst ((l.mergeSort (fun a b => decide (a ≤ b))).map .int))
def numL (n : Nat) : List Nat := (Nat.toDigits 10 n).map Char.toNat
def bStr : D → R D
  | .int i => need (decide (0 ≤ i) && decide (i.natAbs.log2 < 1920)) (.ok (.str (numL i.toNat)))
  | .str s => .ok (.str s)
  | _ => .stuck
/-- int(x) of an int, a bool -/
def bInt : D → R D
  | .int i => .ok (.int i)
  | .bl b => .ok (.int (if b then 1 else 0))
  | _ => .stuck
/-- isinstance(x, T) -/
inductive Ty where
  | str | int | bool | tuple | list
def tyD : Ty → D → Bool
  | .str, .str _ => true
  | .int, .int _ => true
  | .int, .bl _ => true
  | .bool, .bl _ => true
  | .tuple, .tup _ => true
  | .tuple, .inq _ => true
  | .list, .lst _ => true
  | .list, .inp _ => true
  | _, _ => false
def isTt : Ty → Bool
  | .tuple => true | _ => false
def isLt : Ty → Bool
  | .list => true | _ => false
def noDct : D → Bool
  | .dct _ _ => false | .xo _ _ => false | _ => true
def isI (t : Ty) : W → Sto → VS := fun x s => match x with
  | .d x => need (noDct x) (.ok (.d (.bl (tyD t x)), s))
  | .tw _ => .ok (.d (.bl (isTt t)), s)
  | .loc k => (match s[k]? with
    | some (.l _) => .ok (.d (.bl (isLt t)), s)
    | some (.w _) => .ok (.d (.bl (isLt t)), s)
    | _ => .stuck)
def bMax2 : D → D → R D := I2 fun i j => .ok (.int (if j > i then j else i))
def bMin2 : D → D → R D := I2 fun i j => .ok (.int (if j < i then j else i))
def bDivmod : W → W → Sto → VS := fun x y s => match x, y with
  | .d (.int i), .d (.int j) => need (divOk j) (.ok (.d (.tup [.int (i / j), .int (i % j)]), s))
  | _, _ => .stuck
def rngD (lo : Int) : Nat → List D
  | 0 => []
  | n + 1 => .int lo :: rngD (lo + 1) n
def small24 (i : Int) : Bool := decide (0 ≤ i) && decide (i ≤ 16777216)
/-- tuple(range(n)), list(range(n)) -/
def bTupR : W → Sto → VS := fun x s => match x with
  | .d (.int i) => need (small24 i) (.ok (.d (.tup (rngD 0 i.toNat)), s))
  | _ => .stuck
def bLstR : W → Sto → VS := fun x s => match x with
  | .d (.int i) => need (small24 i) (.ok (.d (.lst (rngD 0 i.toNat)), s))
  | _ => .stuck
/-! calls -/
/-- the call of a def upon data, in a store of its own -/
def callD (f : Fn) (ds : List D) (s : Sto) : VS := match f (ws ds) [] with
  | .ok (.d x, []) => .ok (.d x, s)
  | .ex x _ => .ex x s
  | _ => .stuck
def callP (f : Fn) : Fn := fun l s => match asDs l with
  | some ds => callD f ds s
  | none => match toDs FU (fun _ => true) s l with
    | some ds => (match callD f ds s with
      | .ok (.d x, s') => if noL x then .ok (.d x, s') else .stuck
      | _ => .stuck)
    | none => .stuck
/-- the call of a def that changes what it is handed -/
def callM (f : Fn) : Fn := f
/-! targets and statements -/
def gN (i : Nat) : Tg := fun w e s => .ok (e.set i (some w), s)
def gTs : List Tg → List W → Env → Sto → R (Env × Sto)
  | [], [], e, s => .ok (e, s)
  | g :: gs, w :: ws, e, s => (g w e s).bind fun p => gTs gs ws p.1 p.2
  | _, _, _, _ => .stuck
def tupItems : W → R (List W)
  | .d (.tup l) => .ok (ws l)
  | .tw l => .ok l
  | _ => .stuck
def gT (gs : List Tg) : Tg := fun w e s => (tupItems w).bind fun l => gTs gs l e s
def sSkip : Sx := fun e s => .ok (.nx e s)
def sNever : Sx := fun _ _ => .stuck
def sSeq (a b : Sx) : Sx := fun e s => (a e s).bind fun o => match o with
  | .nx e s => b e s
  | o => .ok o
def sAsg (g : Tg) (a : Ev) : Sx := fun e s => (a e s).bd e fun p => (g p.1 e p.2).bd e fun q => .ok (.nx q.1 q.2)
def sX (a : Ev) : Sx := fun e s => (a e s).bd e fun p => .ok (.nx e p.2)
def sRet (a : Ev) : Sx := fun e s => (a e s).bd e fun p => .ok (.rt p.1 p.2)
def sRetN : Sx := fun _ s => .ok (.rt (.d .non) s)
def sIf (t : Tx) (a b : Sx) : Sx := fun e s => (t e s).bd e fun p => if p.1 then a e p.2 else b e p.2
def sBrk : Sx := fun e s => .ok (.bk e s)
def sCnt : Sx := fun e s => .ok (.ct e s)
/-- names forgotten -/
def kill : List Nat → Env → Env
  | [], e => e
  | i :: r, e => kill r (e.set i none)
def sKill (ks : List Nat) (a : Sx) : Sx := fun e s => (a e s).bind fun o => match o with
  | .nx e s => .ok (.nx (kill ks e) s)
  | .ct e s => .ok (.ct (kill ks e) s)
  | .bk e s => .ok (.bk (kill ks e) s)
  | o => .ok o
/-- the turns of a for -/
def loop (g : Tg) (b : Sx) : List W → Env → Sto → R O
  | [], e, s => .ok (.nx e s)
  | x :: xs, e, s => (g x e s).bd e fun p => (b p.1 p.2).bind fun o => turn o (loop g b xs)
def rng (lo : Int) : Nat → List W
  | 0 => []
  | n + 1 => .d (.int lo) :: rng (lo + 1) n
abbrev Wk := Env → Sto → R (List W × Sto)
def iSeq (a : Ev) : Wk := fun e s => (a e s).bind fun p => match p.1 with
  | .d (.lst l) => .ok (ws l, p.2)
  | .d (.tup l) => .ok (ws l, p.2)
  | .d (.inp l) => .ok (ws l, p.2)
  | .d (.inq l) => .ok (ws l, p.2)
  | .tw l => .ok (l, p.2)
  | _ => .stuck
def small62 (i : Int) : Bool := decide (-(2 ^ 62) ≤ i) && decide (i < 2 ^ 62)
def iR1 (a : Ev) : Wk := fun e s => (a e s).bind fun p => match p.1 with
  | .d (.int i) => need (small62 i) (.ok (rng 0 i.toNat, p.2))
  | _ => .stuck
def rng2 : W → W → Sto → R (List W × Sto)
  | .d (.int i), .d (.int j), s => need (small62 i && small62 j) (.ok (rng i (j - i).toNat, s))
  | _, _, _ => .stuck
def iR2 (a b : Ev) : Wk := fun e s => (a e s).bind fun p => (b e p.2).bind fun q => rng2 p.1 q.1 q.2
def iStr (a : Ev) : Wk := fun e s => (a e s).bind fun p => match p.1 with
  | .d (.str z) => .ok (z.map (fun c => .d (.str [c])), p.2)
  | _ => .stuck
def sFor (i : Wk) (g : Tg) (b : Sx) : Sx := fun e s => (i e s).bd e fun p => loop g b p.1 e p.2
/-- the turns of a while -/
def whl (t : Tx) (b : Sx) : Nat → Env → Sto → R O
  | 0, _, _ => .stuck
  | n + 1, e, s => (t e s).bd e fun p => if p.1 then (b e p.2).bind fun o => turn o (whl t b n) else .ok (.nx e p.2)
def TURNS : Nat := 1000000
def sWhl (t : Tx) (b : Sx) : Sx := fun e s => whl t b TURNS e s
def qt {α : Type} : R α → R α
  | .ex _ _ => .stuck | r => r
/-- a list comprehension: its items -/
def comp (g : Tg) (t : Tx) (a : Ev) (own : List Nat) (e0 : Env) : List W → Sto → R (List W × Sto)
  | [], s => .ok ([], s)
  | x :: xs, s => (qt (g x (kill own e0) s)).bind fun p => (qt (t p.1 p.2)).bind fun q => if q.1 then
      (qt (a p.1 q.2)).bind fun r => (comp g t a own e0 xs r.2).bind fun z => .ok (r.1 :: z.1, z.2)
    else comp g t a own e0 xs q.2
def tYes : Tx := fun _ s => .ok (true, s)
/-- [a for ..]: data -/
def eComp (i : Wk) (g : Tg) (t : Tx) (a : Ev) (own : List Nat) : Ev := fun e s => (i e s).bind fun p => need (decide (p.1.length ≤ sizeL)) ((comp g t a own e p.1 p.2).bind fun q =>
  (ofO (asDs q.1)).bind fun l => .ok (.d (.lst l), q.2))
/-- [a for ..]: in the store -/
def eCompC (i : Wk) (g : Tg) (t : Tx) (a : Ev) (own : List Nat) : Ev := fun e s => (i e s).bind fun p => need (decide (p.1.length ≤ sizeL)) ((comp g t a own e p.1 p.2).bind fun q => newL q.1 q.2)
/-! lists in the store -/
def isL : W → Sto → Bool
  | .loc k, s => (match s[k]? with
    | some (.l _) => true
    | some (.w _) => true
    | _ => false)
  | .d (.lst _), _ => true
  | .d (.inp _), _ => true
  | _, _ => false
def isS : W → Sto → Bool
  | .d (.str _), _ => true
  | _, _ => false
/-- o.m(), o.m(a), o.m(a, b): the kind of o is asked first -/
def m0 (p : W → Sto → Bool) (f : W → Sto → VS) (a : Ev) : Ev := fun e s => (a e s).bind fun q => need (p q.1 q.2) (f q.1 q.2)
def m1 (p : W → Sto → Bool) (f : W → W → Sto → VS) (a b : Ev) : Ev := fun e s => (a e s).bind fun q => need (p q.1 q.2) ((b e q.2).bind fun r => f q.1 r.1 r.2)
def m2 (p : W → Sto → Bool) (f : W → W → W → Sto → VS) (a b c : Ev) : Ev := fun e s => (a e s).bind fun q => need (p q.1 q.2) ((b e q.2).bind fun r => (c e r.2).bind fun t => f q.1 r.1 t.1 t.2)
def wl (l : List D) (y : W) : C := match y with
  | .d v => .l (l ++ [v]) | y => .w (ws l ++ [y])
def lAppend : W → W → Sto → VS := fun x y s => match x with
  | .loc k => (match s[k]? with
    | some (.l l) => need (decide (l.length < sizeL)) (.ok (.d .non, s.set k (wl l y)))
    | some (.w l) => need (decide (l.length < sizeL)) (.ok (.d .non, s.set k (.w (l ++ [y]))))
    | _ => .stuck)
  | _ => .stuck
/-- list or tuple, but no dict -/
def seqW (s : Sto) : W → R (List W)
  | .d (.lst l) => .ok (ws l)
  | .d (.tup l) => .ok (ws l)
  | .tw l => .ok l
  | .loc k => match s[k]? with
    | some (.l l) => .ok (ws l)
    | some (.w l) => .ok l
    | _ => .stuck
  | _ => .stuck
def mkC (l : List W) : C := match asDs l with
  | some d => .l d | none => .w l
def lExtend : W → W → Sto → VS := fun x y s => match x with
  | .loc k => (lstOf s x).bind fun l => (seqW s y).bind fun m => need (decide (l.length + m.length ≤ sizeL)) (.ok (.d .non, s.set k (mkC (l ++ m))))
  | _ => .stuck
def lPop : W → Sto → VS := fun x s => match x with
  | .loc k => (match s[k]? with
    | some (.l l) => (ofO l.getLast?).bind fun v => .ok (.d v, s.set k (.l l.dropLast))
    | some (.w l) => (ofO l.getLast?).bind fun v => .ok (v, s.set k (.w l.dropLast))
    | _ => .stuck)
  | _ => .stuck
def lReverse : W → Sto → VS := fun x s => match x with
  | .loc k => (match s[k]? with
    | some (.l l) => .ok (.d .non, s.set k (.l l.reverse))
    | some (.w l) => .ok (.d .non, s.set k (.w l.reverse))
    | _ => .stuck)
  | _ => .stuck
def mapD (l : List (D × D)) : List (D × W) := l.map fun p => (p.1, .d p.2)
/-- o[i] = v -/
def setAny : W → W → W → Sto → R Sto := fun o i v s => match o with
  | .loc k => (match s[k]? with
    | some (.l l) => (match i with
      | .d (.int i) => (ofO (ixN l.length i)).bind fun j => .ok (s.set k (match v with
        | .d x => .l (l.set j x) | v => .w ((ws l).set j v)))
      | _ => .stuck)
    | some (.w l) => (match i with
      | .d (.int i) => (ofO (ixN l.length i)).bind fun j => .ok (s.set k (.w (l.set j v)))
      | _ => .stuck)
    | some (.m t l) => (dat s i).bind fun x => need (keyOk t x && decide (l.length < sizeL)) (.ok (s.set k (match v with
        | .d y => .m t (putD l x y) | v => .mw t (putD (mapD l) x v))))
    | some (.mw t l) => (dat s i).bind fun x => need (keyOk t x && decide (l.length < sizeL)) (.ok (s.set k (.mw t (putD l x v))))
    | _ => .stuck)
  | _ => .stuck
/-- the target o[i] -/
def gSb (o i : Ev) : Tg := fun w e s => qt ((o e s).bind fun p => (i e p.2).bind fun q => (setAny p.1 q.1 w q.2).bind fun s' => .ok (e, s'))
/-- {} -/
def eDct (t : Bool) : Ev := fun _ s => .ok (.loc s.length, s ++ [.m t []])
end B
/-! B over the layer: what the plain evaluators say is what the readings ask. -/
namespace B
open PySem L2

theorem sof_len (l : List Nat) : (sof l).length = l.length := by simp [sof, Str.length]
theorem sof_cps (l : List Nat) : (sof l).cps.toList = l := by simp [sof]

/-! ### data in a heap -/
/-- a tuple that is known to the object -/
theorem sqq {K : PySem.W.Frag} {G : Hp} {a : Addr} {o : Obj} {vs : List V} (h : G a = some (.frz o (.tup vs)) ∧ o.dict = none) : SqT K G a vs := .inl (.inr ⟨o, h.1⟩)
theorem Same.sqt {K : PySem.W.Frag} {H H' : Hp} (e : Same H H') {a : Addr} {xs : List V} (h : SqT K H a xs) : SqT K H' a xs := by
  rcases h with h | h
  · exact .inl (Same.rd e h)
  · exact .inr h
section
variable {K : PySem.W.Frag} {G G' : Hp}
theorem RepL.append : ∀ {l l' : List D} {vs vs' : List V}, RepL K G l vs → RepL K G l' vs' → RepL K G (l ++ l') (vs ++ vs')
  | _, _, _, _, .nil, s => s
  | _, _, _, _, .cons h r, s => .cons h (RepL.append r s)
end

/-! ### values over a store -/
section
variable {K : PySem.W.Frag} {ρ ρ' : List Addr} {G G' : Hp}
theorem RepWs.append : ∀ {l l' : List W} {vs vs' : List V}, RepWs K ρ G l vs → RepWs K ρ G l' vs' → RepWs K ρ G (l ++ l') (vs ++ vs')
  | _, _, _, _, .nil, s => s
  | _, _, _, _, .cons h r, s => .cons h (RepWs.append r s)
end

/-! ### the store -/
section
variable (B : Bx)
def RepX (G : Hp) (x : Exc) (c : Value) (d : Option Addr) (H : Hp) : Prop := c = B.xc x.cls ∧ ((x.fs = [] ∧ d = none) ∨ ∃ ad vs, d = some ad ∧ H ad = some (.xd vs) ∧ x.fs.map (fun p => sof p.1) = vs.map (·.1) ∧ RepL B.K G (x.fs.map (·.2)) (vs.map (·.2)))
end
theorem Le.refl (ρ : List Addr) (G H : Hp) : Le ρ G H ρ G H := ⟨⟨[], by simp, by simp⟩, fun _ _ h => h, fun _ h _ _ => h, fun _ h => h, fun _ _ _ h => h⟩
section
variable {B : Bx} {ρ ρ' : List Addr} {G G' H H' : Hp} {S : Sto} {a p : Addr}
theorem Rel.mem (R : Rel B ρ G S H) (h : a ∈ ρ) : H a ≠ none := by
  obtain ⟨n, hn⟩ := List.getElem?_of_mem h
  obtain ⟨c, _, r⟩ := R.at_ hn
  exact r.there
/-- a new thing that never changes -/
theorem Rel.froz (R : Rel B ρ G S H) (o : HO) (hp : H p = none) : Rel B ρ (upd G p o) S (upd H p o) ∧ Le ρ G H ρ (upd G p o) (upd H p o) := by
  have gp : G p = none := R.ex.free hp
  have sg : Same G (upd G p o) := fun b x e => by rw [upd_ne (ne_of_none e gp)]; exact e
  have npr : ∀ b ∈ ρ, b ≠ p := fun b hb e => R.mem hb (by rw [e]; exact hp)
  refine ⟨⟨fun b x e => ?_, R.len, R.nd, fun b hb => by rw [upd_ne (npr b hb)]; exact R.off b hb, fun n c hc => ?_⟩, ⟨⟨[], by simp, by simp⟩, sg, fun b h1 h2 _ => ?_, fun b h => ?_, fun b _ o ho => by rw [upd_ne (ne_of_none ho hp)]; exact ho⟩⟩
  · by_cases hb : b = p
    · subst hb; rw [upd_same] at e ⊢; exact e
    · rw [upd_ne hb] at e ⊢; exact R.ex b x e
  · obtain ⟨b, h1, h2⟩ := R.cell n c hc
    exact ⟨b, h1, CellR.mono (fun _ _ h => h) sg (upd_ne (npr b (List.mem_of_getElem? h1))) h2⟩
  · have hb : b ≠ p := fun e => h2 (by rw [e]; exact hp)
    rw [upd_ne hb]; exact h1
  · by_cases hb : b = p
    · subst hb; rw [upd_same]; simp
    · rw [upd_ne hb]; exact h
/-- the heap grows, nothing of ours is touched -/
theorem Rel.grow (R : Rel B ρ G S H) (o : HO) (hp : H p = none) : Rel B ρ G S (upd H p o) ∧ Le ρ G H ρ G (upd H p o) := by
  have npr : ∀ b ∈ ρ, b ≠ p := fun b hb e => R.mem hb (by rw [e]; exact hp)
  have sh : ∀ b x, H b = some x → upd H p o b = some x := fun b x e => by rw [upd_ne (ne_of_none e hp)]; exact e
  refine ⟨⟨fun b x e => sh _ _ (R.ex b x e), R.len, R.nd, R.off, fun n c hc => ?_⟩, ⟨⟨[], by simp, by simp⟩, fun _ _ h => h, fun b h1 _ _ => h1, fun b h => ?_, fun b _ o ho => by rw [upd_ne (ne_of_none ho hp)]; exact ho⟩⟩
  · obtain ⟨b, h1, h2⟩ := R.cell n c hc
    exact ⟨b, h1, CellR.mono (fun _ _ h => h) (fun _ _ h => h) (upd_ne (npr b (List.mem_of_getElem? h1))) h2⟩
  · by_cases hb : b = p
    · subst hb; rw [upd_same]; simp
    · rw [upd_ne hb]; exact h
theorem ix_app {ρ : List Addr} {p : Addr} (n : Nat) (x : Addr) (h : ρ[n]? = some x) : (ρ ++ [p])[n]? = some x := by
  obtain ⟨h1, _⟩ := List.getElem?_eq_some_iff.mp h
  rw [List.getElem?_append_left h1]; exact h
/-- a new place of the store -/
theorem Rel.cellNew (R : Rel B ρ G S H) {o : HO} (hp : H p = none) {c : C} (hc : CellR B (ρ ++ [p]) G (upd H p o) p c) : Rel B (ρ ++ [p]) G (S ++ [c]) (upd H p o) ∧ Le ρ G H (ρ ++ [p]) G (upd H p o) := by
  have npr : ∀ b ∈ ρ, b ≠ p := fun b hb e => R.mem hb (by rw [e]; exact hp)
  refine ⟨⟨fun b x e => ?_, by simp [R.len], ?_, fun b hb => ?_, fun n d hd => ?_⟩, ⟨⟨[p], rfl, fun b hb => ?_⟩, fun _ _ h => h, fun b h1 _ _ => h1, fun b h => ?_, fun b _ o ho => by rw [upd_ne (ne_of_none ho hp)]; exact ho⟩⟩
  · rw [upd_ne (ne_of_none (R.ex b x e) hp)]; exact R.ex b x e
  · rw [List.nodup_append]
    refine ⟨R.nd, by simp, fun x hx y hy => ?_⟩
    have : y = p := by simpa using hy
    subst this
    exact npr x hx
  · rcases List.mem_append.mp hb with h | h
    · exact R.off b h
    · have : b = p := by simpa using h
      subst this
      exact R.ex.free hp
  · by_cases hn : n < S.length
    · rw [List.getElem?_append_left hn] at hd
      obtain ⟨b, h1, h2⟩ := R.cell n d hd
      exact ⟨b, ix_app _ _ h1, CellR.mono ix_app (fun _ _ h => h) (upd_ne (npr b (List.mem_of_getElem? h1))) h2⟩
    · have hl : n = S.length := by
        obtain ⟨h1, _⟩ := List.getElem?_eq_some_iff.mp hd
        simp at h1; omega
      subst hl
      simp at hd
      subst hd
      exact ⟨p, by rw [← R.len]; simp, hc⟩
  · have : b = p := by simpa using hb
    subst this; exact hp
  · by_cases hb : b = p
    · subst hb; rw [upd_same]; simp
    · rw [upd_ne hb]; exact h
/-- a place of the store changes -/
theorem Rel.cellSet (R : Rel B ρ G S H) {n : Nat} (ha : ρ[n]? = some a) {o : HO} {c : C} (hc : CellR B ρ G (upd H a o) a c) : Rel B ρ G (S.set n c) (upd H a o) ∧ Le ρ G H ρ G (upd H a o) := by
  have gp : G a = none := R.off a (List.mem_of_getElem? ha)
  refine ⟨⟨fun b x e => ?_, by simp [R.len], R.nd, R.off, fun k d hd => ?_⟩, ⟨⟨[], by simp, by simp⟩, fun _ _ h => h, fun b h1 _ _ => h1, fun b h => ?_, fun b hb o ho => by rw [upd_ne (fun e => hb (by rw [e]; exact List.mem_of_getElem? ha))]; exact ho⟩⟩
  · rw [upd_ne (ne_of_none e gp)]; exact R.ex b x e
  · by_cases hk : n = k
    · subst hk
      obtain ⟨h1, _⟩ := List.getElem?_eq_some_iff.mp hd
      rw [List.getElem?_set_self (by simpa using h1)] at hd
      cases hd
      exact ⟨a, ha, hc⟩
    · rw [List.getElem?_set_ne hk] at hd
      obtain ⟨b, h1, h2⟩ := R.cell k d hd
      refine ⟨b, h1, CellR.mono (fun _ _ h => h) (fun _ _ h => h) (upd_ne ?_) h2⟩
      intro e
      subst e
      obtain ⟨l2, e2⟩ := List.getElem?_eq_some_iff.mp ha
      exact hk ((List.getElem?_inj l2 R.nd).mp (ha.trans h1.symm))
  · by_cases hb : b = a
    · subst hb; rw [upd_same]; simp
    · rw [upd_ne hb]; exact h
end

/-! ### what is simulated -/
section
variable (B : Bx)
def Post (Wi : XK) (ρ : List Addr) (G H : Hp) (r : VS) (Q : VK) : Prop := match r with
  | .ok (w, S') => ∀ ρ' G' H' v, Le ρ G H ρ' G' H' → Rel B ρ' G' S' H' → RepW B.K ρ' G' w v → Q v H'
  | .ex x S' => ∀ ρ' G' H' c d, Le ρ G H ρ' G' H' → Rel B ρ' G' S' H' → RepX B G' x c d H' → Wi c d H'
  | .stuck => False
def atS (Wi : WX) (σ : St) : XK := fun c d H => Wi c d σ H
def SimE (Wi : WX) (t : TE) (m : Ev) : Prop := ∀ ρ G S H env σ Q, Rel B ρ G S H → EnvR B ρ G env σ → Post B (atS Wi σ) ρ G H (m env S) Q → t σ H Q
def PostT (Wi : XK) (ρ : List Addr) (G H : Hp) (r : R (Bool × Sto)) (Q : Bool → Hp → Prop) : Prop := match r with
  | .ok (b, S') => ∀ ρ' G' H', Le ρ G H ρ' G' H' → Rel B ρ' G' S' H' → Q b H'
  | .ex x S' => ∀ ρ' G' H' c d, Le ρ G H ρ' G' H' → Rel B ρ' G' S' H' → RepX B G' x c d H' → Wi c d H'
  | .stuck => False
def SimT (Wi : WX) (t : TT) (m : Tx) : Prop := ∀ ρ G S H env σ Q, Rel B ρ G S H → EnvR B ρ G env σ → PostT B (atS Wi σ) ρ G H (m env S) Q → t σ H Q
def PostA (Wi : XK) (ρ : List Addr) (G H : Hp) (r : R (List W × Sto)) (Q : List V → Hp → Prop) : Prop := match r with
  | .ok (w, S') => ∀ ρ' G' H' v, Le ρ G H ρ' G' H' → Rel B ρ' G' S' H' → RepWs B.K ρ' G' w v → Q v H'
  | .ex x S' => ∀ ρ' G' H' c d, Le ρ G H ρ' G' H' → Rel B ρ' G' S' H' → RepX B G' x c d H' → Wi c d H'
  | .stuck => False
def SimA (Wi : WX) (t : TA) (m : List Ev) : Prop := ∀ ρ G S H env σ Q, Rel B ρ G S H → EnvR B ρ G env σ → PostA B (atS Wi σ) ρ G H (eAs m env S) Q → t σ H Q
def PostG (ρ : List Addr) (G H : Hp) (r : R (Env × Sto)) (Q : St → Hp → Prop) : Prop := match r with
  | .ok (env', S') => ∀ ρ' G' H' σ', Le ρ G H ρ' G' H' → Rel B ρ' G' S' H' → EnvR B ρ' G' env' σ' → Q σ' H'
  | _ => False
def SimG (g : TG) (m : Tg) : Prop := ∀ ρ G S H env σ w v Q, Rel B ρ G S H → EnvR B ρ G env σ → RepW B.K ρ G w v → PostG B ρ G H (m w env S) Q → g v σ H Q
def PostS (Wi : WX) (ρ : List Addr) (G H : Hp) (r : R O) (D : Ends) : Prop := match r with
  | .ok (.nx env' S') => ∀ ρ' G' H' σ', Le ρ G H ρ' G' H' → Rel B ρ' G' S' H' → EnvR B ρ' G' env' σ' → D.nx σ' H'
  | .ok (.bk env' S') => ∀ ρ' G' H' σ', Le ρ G H ρ' G' H' → Rel B ρ' G' S' H' → EnvR B ρ' G' env' σ' → D.bk σ' H'
  | .ok (.ct env' S') => ∀ ρ' G' H' σ', Le ρ G H ρ' G' H' → Rel B ρ' G' S' H' → EnvR B ρ' G' env' σ' → D.ct σ' H'
  | .ok (.rt w S') => ∀ ρ' G' H' v, Le ρ G H ρ' G' H' → Rel B ρ' G' S' H' → RepW B.K ρ' G' w v → D.rt v H'
  | .ok (.xx x env' S') => ∀ ρ' G' H' σ' c d, Le ρ G H ρ' G' H' → Rel B ρ' G' S' H' → EnvR B ρ' G' env' σ' → RepX B G' x c d H' → Wi c d σ' H'
  | _ => False
def SimS (Wi : WX) (t : TS) (m : Sx) : Prop := ∀ ρ G S H env σ D, Rel B ρ G S H → EnvR B ρ G env σ → PostS B Wi ρ G H (m env S) D → t D σ H
end
end B
namespace B
open PySem L2
section
variable {B : Bx} {Wi : WX}

/-! ### from a value to data -/
theorem dat_rep {ρ : List Addr} {G H : Hp} {S : Sto} (R : Rel B ρ G S H) {w : W} {v : V} {x : D} (e : dat S w = .ok x) (h : RepW B.K ρ G w v) : Rep B.K H x v := by
  cases w with
  | d y =>
    cases e
    cases h with
    | d h => exact h.mono R.ex
  | loc k =>
    simp only [dat] at e
    cases q : toD FU (fun _ => true) S (.loc k) with
    | none => rw [q] at e; cases e
    | some y =>
      rw [q] at e
      cases e
      exact toD_rep (Gs := H) R R.ex (fun _ _ _ _ => rfl) _ _ _ _ q h
  | tw l =>
    simp only [dat] at e
    cases q : toD FU (fun _ => true) S (.tw l) with
    | none => rw [q] at e; cases e
    | some y =>
      rw [q] at e
      cases e
      exact toD_rep (Gs := H) R R.ex (fun _ _ _ _ => rfl) _ _ _ _ q h
theorem dat_cases (S : Sto) (w : W) : (∃ x, dat S w = .ok x) ∨ dat S w = .stuck := by
  have go : ∀ o : Option D, (∃ x, ofO o = .ok x) ∨ ofO o = .stuck := fun o => by
    cases o with
    | none => exact .inr rfl
    | some x => exact .inl ⟨x, rfl⟩
  cases w with
  | d x => exact .inl ⟨x, rfl⟩
  | loc k => exact go _
  | tw l => exact go _
theorem items_cases (S : Sto) (w : W) : (∃ x, items S w = .ok x) ∨ items S w = .stuck := by
  unfold items
  split <;> first | exact .inl ⟨_, rfl⟩ | exact .inr rfl | (split <;> first | exact .inl ⟨_, rfl⟩ | exact .inr rfl)
/-- a list or tuple that is read -/
theorem items_rep {ρ : List Addr} {G H : Hp} {S : Sto} (R : Rel B ρ G S H) {w : W} {v : V} {l : List W} (e : items S w = .ok l) (h : RepW B.K ρ G w v) : ∃ a vs, v = .ref a ∧ (SqL B.K H a vs ∨ SqT B.K H a vs) ∧ RepWs B.K ρ G l vs := by
  unfold items at e
  split at e
  · cases e
    cases h with
    | d h =>
      cases h with
      | lst q r => exact ⟨_, _, rfl, .inl (.inl (.inl (R.ex _ _ q))), r.ws⟩
  · cases e
    cases h with
    | d h =>
      cases h with
      | tup q r => exact ⟨_, _, rfl, .inr (.inl (.inl (R.ex _ _ q))), r.ws⟩
  · cases e
    cases h with
    | d h =>
      cases h with
      | inp q r => exact ⟨_, _, rfl, .inl (R.ex.seq q), r.ws⟩
  · cases e
    cases h with
    | d h =>
      cases h with
      | inq q r => exact ⟨_, _, rfl, .inr (Same.sqt R.ex (sqq q)), r.ws⟩
  · cases e
    cases h with
    | tw q r => exact ⟨_, _, rfl, .inr (.inl (.inl (R.ex _ _ q))), r⟩
  · cases h with
    | loc ha =>
      obtain ⟨c, hc, hr⟩ := R.at_ ha
      rw [hc] at e
      cases c with
      | l xs =>
        obtain ⟨vs, h1, h2⟩ := hr
        cases e
        exact ⟨_, _, rfl, .inl (.inl (.inl h1)), h2.ws⟩
      | w xs =>
        obtain ⟨vs, h1, h2⟩ := hr
        cases e
        exact ⟨_, _, rfl, .inl (.inl (.inl h1)), h2⟩
      | _ => cases e
  · cases e

/-! ### expressions -/
theorem post_ex {Wi : XK} {ρ ρ1 : List Addr} {G H G1 H1 : Hp} {x : Exc} {S : Sto} {Q Q' : VK} (le : Le ρ G H ρ1 G1 H1) (h : Post B Wi ρ G H (.ex x S) Q) : Post B Wi ρ1 G1 H1 (.ex x S) Q' :=
  fun ρ' G' H' c d l r q => h ρ' G' H' c d (le.trans l) r q
theorem post_le {Wi : XK} {ρ ρ1 : List Addr} {G H G1 H1 : Hp} {r : VS} {Q : VK} (le : Le ρ G H ρ1 G1 H1) (h : Post B Wi ρ G H r Q) : Post B Wi ρ1 G1 H1 r Q := by
  cases r with
  | stuck => exact h
  | ok p => exact fun ρ' G' H' v l r q => h ρ' G' H' v (le.trans l) r q
  | ex x S => exact post_ex le h
/-- two steps in a row -/
theorem post_bind {Wi : XK} {ρ : List Addr} {G H : Hp} {r : VS} {f : W × Sto → VS} {Q Q' : VK} (h : Post B Wi ρ G H (r.bind f) Q)
    (k : ∀ w S' ρ' G' H' v, Le ρ G H ρ' G' H' → Rel B ρ' G' S' H' → RepW B.K ρ' G' w v → Post B Wi ρ' G' H' (f (w, S')) Q → Q' v H') : Post B Wi ρ G H r Q' := by
  cases r with
  | stuck => exact h
  | ex x S => exact h
  | ok p => exact fun ρ' G' H' v l r q => k p.1 p.2 ρ' G' H' v l r q (post_le l h)
theorem se_var {i : Nat} : SimE B Wi (tVar i) (eV i) := by
  intro ρ G S H env σ Q R E h
  unfold eV at h
  split at h
  · rename_i w e
    obtain ⟨v, h1, h2⟩ := E.2.1 i w e
    exact ⟨v, h1, h _ _ _ _ (Le.refl _ _ _) R h2⟩
  · exact False.elim h
theorem se_c {x : D} {v : V} (h : ∀ K G, Rep K G x v) : SimE B Wi (tC v) (eK x) := by
  intro ρ G S H env σ Q R E q
  exact q _ _ _ _ (Le.refl _ _ _) R (.d (h _ _))
theorem se_int {i : Int} : SimE B Wi (tC (.int i)) (eK (.int i)) := se_c fun _ _ => .int i
theorem se_bl {i : Bool} : SimE B Wi (tC (.bl i)) (eK (.bl i)) := se_c fun _ _ => .bl i
theorem se_non : SimE B Wi (tC .non) (eK .non) := se_c fun _ _ => .non
theorem se_str {x : Str} (l : List Nat) (h : x = sof l) : SimE B Wi (tC (.str x)) (eK (.str l)) := by
  subst h
  exact se_c fun _ _ => .str l

def SimR (B : Bx) (r : R2) (f : W → W → Sto → VS) : Prop := ∀ Wi ρ G S H x y v u Q, Rel B ρ G S H → RepW B.K ρ G x v → RepW B.K ρ G y u → Post B Wi ρ G H (f x y S) Q → r v u H Q
theorem se_op {ta tb : TE} {ma mb : Ev} {r : R2} {f : W → W → Sto → VS} (hr : SimR B r f) (ha : SimE B Wi ta ma) (hb : SimE B Wi tb mb) : SimE B Wi (tOp r ta tb) (e2 f ma mb) := by
  intro ρ G S H env σ Q R E h
  refine ha ρ G S H env σ _ R E (post_bind h fun w S1 ρ1 G1 H1 v l1 R1 r1 h1 => ?_)
  refine hb ρ1 G1 S1 H1 env σ _ R1 (l1.env E) (post_bind h1 fun w2 S2 ρ2 G2 H2 v2 l2 R2 r2 h2 => ?_)
  exact hr _ ρ2 G2 S2 H2 w w2 v v2 Q R2 (l2.w r1) r2 h2
/-! arguments -/
theorem sa_nil : SimA B Wi tNil [] := by
  intro ρ G S H env σ Q R E h
  exact h _ _ _ _ (Le.refl _ _ _) R .nil
theorem sa_cons {te : TE} {ta : TA} {m : Ev} {ms : List Ev} (he : SimE B Wi te m) (ha : SimA B Wi ta ms) : SimA B Wi (tCons te ta) (m :: ms) := by
  intro ρ G S H env σ Q R E h
  refine he ρ G S H env σ _ R E ?_
  have h' : PostA B (atS Wi σ) ρ G H ((m env S).bind fun p => (eAs ms env p.2).bind fun q => .ok (p.1 :: q.1, q.2)) Q := h
  cases e1 : m env S with
  | stuck => rw [e1] at h'; exact h'
  | ex x S1 => rw [e1] at h'; exact h'
  | ok p =>
    rw [e1] at h'
    intro ρ1 G1 H1 v l1 R1 r1
    refine ha ρ1 G1 p.2 H1 env σ _ R1 (l1.env E) ?_
    cases e2 : eAs ms env p.2 with
    | stuck => rw [_root_.B.R.bind_ok, e2] at h'; exact h'
    | ex x S2 =>
      rw [_root_.B.R.bind_ok, e2] at h'
      exact fun ρ' G' H' c d l r q => h' ρ' G' H' c d (l1.trans l) r q
    | ok q =>
      rw [_root_.B.R.bind_ok, e2, _root_.B.R.bind_ok] at h'
      exact fun ρ2 G2 H2 vs l2 R2 r2 => h' ρ2 G2 H2 (v :: vs) (l1.trans l2) R2 (.cons (l2.w r1) r2)
def SimN (B : Bx) (Wi : XK) (r : List V → Hp → VK → Prop) (f : Fn) : Prop := ∀ ρ G S H l vs Q, Rel B ρ G S H → RepWs B.K ρ G l vs → Post B Wi ρ G H (f l S) Q → r vs H Q
theorem sa_run {ta : TA} {ms : List Ev} {f : Fn} (ha : SimA B Wi ta ms) {ρ : List Addr} {G : Hp} {S : Sto} {H : Hp} {env : Env} {σ : St} {Q : VK} {Q' : List V → Hp → Prop} (R : Rel B ρ G S H) (E : EnvR B ρ G env σ)
    (h : Post B (atS Wi σ) ρ G H (eN f ms env S) Q) (k : ∀ l S' ρ' G' H' vs, Le ρ G H ρ' G' H' → Rel B ρ' G' S' H' → RepWs B.K ρ' G' l vs → Post B (atS Wi σ) ρ' G' H' (f l S') Q → Q' vs H') : ta σ H Q' := by
  refine ha ρ G S H env σ _ R E ?_
  have h' : Post B (atS Wi σ) ρ G H ((eAs ms env S).bind fun p => f p.1 p.2) Q := h
  cases e1 : eAs ms env S with
  | stuck => rw [e1] at h'; exact h'
  | ex x S1 => rw [e1] at h'; exact h'
  | ok p =>
    rw [e1] at h'
    exact fun ρ1 G1 H1 vs l1 R1 r1 => k p.1 p.2 ρ1 G1 H1 vs l1 R1 r1 (post_le l1 h')
theorem sa_one {te : TE} {m : Ev} {f : W → Sto → VS} (he : SimE B Wi te m) {ρ : List Addr} {G : Hp} {S : Sto} {H : Hp} {env : Env} {σ : St} {Q : VK} {Q' : List V → Hp → Prop} (R : Rel B ρ G S H) (E : EnvR B ρ G env σ)
    (h : Post B (atS Wi σ) ρ G H (e1 f m env S) Q) (k : ∀ w S' ρ' G' H' v, Le ρ G H ρ' G' H' → Rel B ρ' G' S' H' → RepW B.K ρ' G' w v → Post B (atS Wi σ) ρ' G' H' (f w S') Q → Q' [v] H') : tCons te tNil σ H Q' := by
  refine he ρ G S H env σ _ R E (post_bind h fun w S1 ρ1 G1 H1 v l1 R1 r1 h1 => ?_)
  exact k w S1 ρ1 G1 H1 v l1 R1 r1 h1
/-- f(e), f(e, e2), f(..) of a built-in -/
def SimC1 (B : Bx) (r : List V → Hp → VK → Prop) (f : W → Sto → VS) : Prop := ∀ Wi ρ G S H x v Q, Rel B ρ G S H → RepW B.K ρ G x v → Post B Wi ρ G H (f x S) Q → r [v] H Q
theorem se_cb1 {te : TE} {m : Ev} {r : List V → Hp → VK → Prop} {f : W → Sto → VS} (hr : SimC1 B r f) (he : SimE B Wi te m) : SimE B Wi (tCB r (tCons te tNil)) (e1 f m) := fun ρ G S H env σ Q R E h =>
  sa_one he R E h fun w S1 ρ1 G1 H1 v l1 R1 r1 h1 => hr _ ρ1 G1 S1 H1 w v Q R1 r1 h1
/-! ### tests -/
theorem postT_le {Wi : XK} {ρ ρ1 : List Addr} {G H G1 H1 : Hp} {r : R (Bool × Sto)} {Q : Bool → Hp → Prop} (le : Le ρ G H ρ1 G1 H1) (h : PostT B Wi ρ G H r Q) : PostT B Wi ρ1 G1 H1 r Q := by
  cases r with
  | stuck => exact h
  | ok p => exact fun ρ' G' H' l r => h ρ' G' H' (le.trans l) r
  | ex x S => exact fun ρ' G' H' c d l r q => h ρ' G' H' c d (le.trans l) r q
theorem postT_bind {Wi : XK} {ρ : List Addr} {G H : Hp} {r : VS} {f : W × Sto → R (Bool × Sto)} {Q : Bool → Hp → Prop} {Q' : VK} (h : PostT B Wi ρ G H (r.bind f) Q)
    (k : ∀ w S' ρ' G' H' v, Le ρ G H ρ' G' H' → Rel B ρ' G' S' H' → RepW B.K ρ' G' w v → PostT B Wi ρ' G' H' (f (w, S')) Q → Q' v H') : Post B Wi ρ G H r Q' := by
  cases r with
  | stuck => exact h
  | ex x S => exact h
  | ok p => exact fun ρ' G' H' v l r q => k p.1 p.2 ρ' G' H' v l r q (postT_le l h)
theorem postTT_bind {Wi : XK} {ρ : List Addr} {G H : Hp} {r : R (Bool × Sto)} {f : Bool × Sto → R (Bool × Sto)} {Q Q' : Bool → Hp → Prop} (h : PostT B Wi ρ G H (r.bind f) Q)
    (k : ∀ b S' ρ' G' H', Le ρ G H ρ' G' H' → Rel B ρ' G' S' H' → PostT B Wi ρ' G' H' (f (b, S')) Q → Q' b H') : PostT B Wi ρ G H r Q' := by
  cases r with
  | stuck => exact h
  | ex x S => exact h
  | ok p => exact fun ρ' G' H' l r => k p.1 p.2 ρ' G' H' l r (postT_le l h)
theorem rep_bl {K : PySem.W.Frag} {ρ : List Addr} {G : Hp} {b : Bool} {v : V} (h : RepW K ρ G (.d (.bl b)) v) : v = .bl b := by
  cases h with
  | d h => cases h; rfl
theorem st_B0 {te : TE} {m : Ev} (he : SimE B Wi te m) {ρ : List Addr} {G : Hp} {S : Sto} {H : Hp} {env : Env} {σ : St} {Q : Bool → Hp → Prop} (R : Rel B ρ G S H) (E : EnvR B ρ G env σ) (h : PostT B (atS Wi σ) ρ G H (tB m env S) Q) :
    te σ H fun x H1 => ∃ c, x = .bl c ∧ Q c H1 := by
  refine he ρ G S H env σ _ R E (postT_bind (f := fun p => match p.1 with | .d (.bl b) => .ok (b, p.2) | _ => .stuck) h fun w S1 ρ1 G1 H1 v l1 R1 r1 h1 => ?_)
  simp only at h1
  split at h1
  · rename_i b
    exact ⟨b, rep_bl r1, h1 _ _ _ (Le.refl _ _ _) R1⟩
  · exact False.elim h1
theorem st_test {te : TE} {m : Ev} (he : SimE B Wi te m) : SimT B Wi (tTest te) (tB m) := fun ρ G S H env σ Q R E h => st_B0 he R E h
theorem st_B {te : TE} {m : Ev} (he : SimE B Wi te m) : SimT B Wi (L2.tB te) (tB m) := fun ρ G S H env σ Q R E h => st_B0 he R E h
theorem st_and {t u : TT} {a b : Tx} (h1 : SimT B Wi t a) (h2 : SimT B Wi u b) : SimT B Wi (L2.tAnd t u) (tAnd a b) := by
  intro ρ G S H env σ Q R E h
  refine h1 ρ G S H env σ _ R E (postTT_bind h fun c S1 ρ1 G1 H1 l1 R1 q => ?_)
  cases c with
  | true => exact (if_pos rfl).mpr (h2 ρ1 G1 S1 H1 env σ Q R1 (l1.env E) q)
  | false => exact (if_neg Bool.false_ne_true).mpr (q _ _ _ (Le.refl _ _ _) R1)
theorem st_or {t u : TT} {a b : Tx} (h1 : SimT B Wi t a) (h2 : SimT B Wi u b) : SimT B Wi (L2.tOr t u) (tOr a b) := by
  intro ρ G S H env σ Q R E h
  refine h1 ρ G S H env σ _ R E (postTT_bind h fun c S1 ρ1 G1 H1 l1 R1 q => ?_)
  cases c with
  | true => exact (if_pos rfl).mpr (q _ _ _ (Le.refl _ _ _) R1)
  | false => exact (if_neg Bool.false_ne_true).mpr (h2 ρ1 G1 S1 H1 env σ Q R1 (l1.env E) q)
theorem st_not {t : TT} {a : Tx} (h1 : SimT B Wi t a) : SimT B Wi (L2.tNot t) (tNot a) := by
  intro ρ G S H env σ Q R E h
  exact h1 ρ G S H env σ _ R E (postTT_bind h fun c S1 ρ1 G1 H1 l1 R1 q => q _ _ _ (Le.refl _ _ _) R1)
theorem st_yes : SimT B Wi L2.tYes tYes := fun ρ G S H env σ Q R E h => h _ _ _ (Le.refl _ _ _) R
theorem post_bl {Wi : XK} {ρ : List Addr} {G H : Hp} {S : Sto} {b : Bool} {Q : VK} (R : Rel B ρ G S H) (h : Post B Wi ρ G H (.ok (.d (.bl b), S)) Q) : Q (.bl b) H := h _ _ _ _ (Le.refl _ _ _) R (.d (.bl b))
theorem se_and {ta tb : TE} {ma mb : Ev} (ha : SimE B Wi ta ma) (hb : SimE B Wi tb mb) : SimE B Wi (tAndV ta tb) (eAnd ma mb) := by
  intro ρ G S H env σ Q R E h
  refine ha ρ G S H env σ _ R E (post_bind (f := fun p => match p.1 with | .d (.bl true) => mb env p.2 | .d (.bl false) => .ok (.d (.bl false), p.2) | _ => .stuck) h fun w S1 ρ1 G1 H1 v l1 R1 r1 h1 => ?_)
  simp only at h1
  split at h1
  · exact ⟨true, rep_bl r1, (if_pos rfl).mpr (hb ρ1 G1 S1 H1 env σ Q R1 (l1.env E) h1)⟩
  · exact ⟨false, rep_bl r1, (if_neg Bool.false_ne_true).mpr (post_bl R1 h1)⟩
  · exact False.elim h1
theorem se_not {ta : TE} {ma : Ev} (ha : SimE B Wi ta ma) : SimE B Wi (tNotV ta) (eNot ma) := by
  intro ρ G S H env σ Q R E h
  refine ha ρ G S H env σ _ R E (post_bind (f := fun p => match p.1 with | .d (.bl b) => .ok (.d (.bl (!b)), p.2) | _ => .stuck) h fun w S1 ρ1 G1 H1 v l1 R1 r1 h1 => ?_)
  simp only at h1
  split at h1
  · rename_i b
    exact ⟨b, rep_bl r1, post_bl R1 h1⟩
  · exact False.elim h1
end
end B
namespace B
open PySem L2
section
variable {B : Bx} {Wi : WX}

/-! ### targets -/
/-- a slot that is not pinned -/
def PinFree (B : Bx) (i : Nat) : Prop := ∀ p, B.pin = some p → p.1 ≠ i
theorem pin_none {i : Nat} (h : B.pin = none) : PinFree B i := fun p q => by rw [h] at q; cases q
theorem envSet {ρ : List Addr} {G : Hp} {env : Env} {σ : St} {i : Nat} {w : W} {v : V} (hp : PinFree B i) (E : EnvR B ρ G env σ) (r : RepW B.K ρ G w v) : EnvR B ρ G (env.set i (some w)) (σ.set i (some v)) := by
  refine ⟨by simp [E.1], fun j u e => ?_, fun p h => ⟨by rw [List.getElem?_set_ne (fun e => hp p h e.symm)]; exact (E.2.2 p h).1, (E.2.2 p h).2⟩⟩
  by_cases hj : i = j
  · subst hj
    obtain ⟨h1, _⟩ := List.getElem?_eq_some_iff.mp e
    have h1' : i < env.length := by simpa using h1
    rw [List.getElem?_set_self h1'] at e
    cases e
    exact ⟨v, List.getElem?_set_self (by rw [← E.1]; exact h1'), r⟩
  · rw [List.getElem?_set_ne hj] at e ⊢
    exact E.2.1 j u e
theorem sg_name {i : Nat} (hp : PinFree B i) : SimG B (gName i) (gN i) := by
  intro ρ G S H env σ w v Q R E r h
  exact h _ _ _ _ (Le.refl _ _ _) R (envSet hp E r)
def SimGs (B : Bx) (g : TGs) (m : List Tg) : Prop := ∀ ρ G S H env σ l vs Q, Rel B ρ G S H → EnvR B ρ G env σ → RepWs B.K ρ G l vs → PostG B ρ G H (gTs m l env S) Q → g vs σ H Q
theorem postG_le {ρ ρ1 : List Addr} {G H G1 H1 : Hp} {r : R (Env × Sto)} {Q : St → Hp → Prop} (le : Le ρ G H ρ1 G1 H1) (h : PostG B ρ G H r Q) : PostG B ρ1 G1 H1 r Q := by
  cases r with
  | stuck => exact h
  | ok p => exact fun ρ' G' H' σ' l r => h ρ' G' H' σ' (le.trans l) r
  | ex x S => exact h
theorem sg_nil : SimGs B gNil [] := by
  intro ρ G S H env σ l vs Q R E r h
  cases r with
  | nil => exact ⟨rfl, h _ _ _ _ (Le.refl _ _ _) R E⟩
  | cons _ _ => exact False.elim h
theorem sg_cons {g : TG} {m : Tg} {gs : TGs} {ms : List Tg} (h1 : SimG B g m) (h2 : SimGs B gs ms) : SimGs B (gCons g gs) (m :: ms) := by
  intro ρ G S H env σ l vs Q R E r h
  cases r with
  | nil => exact False.elim h
  | cons r1 r2 =>
    rename_i w v l' vs'
    refine ⟨v, vs', rfl, h1 ρ G S H env σ w v _ R E r1 ?_⟩
    have h' : PostG B ρ G H ((m w env S).bind fun p => gTs ms l' p.1 p.2) Q := h
    cases e : m w env S with
    | stuck => rw [e] at h'; exact h'
    | ex x S1 => rw [e] at h'; exact h'
    | ok p =>
      rw [e] at h'
      exact fun ρ1 G1 H1 σ1 l1 R1 E1 => h2 ρ1 G1 p.2 H1 p.1 σ1 l' vs' Q R1 E1 (l1.ws r2) (postG_le l1 h')
theorem tupItems_rep {ρ : List Addr} {G : Hp} {w : W} {v : V} {l : List W} (e : tupItems w = .ok l) (h : RepW B.K ρ G w v) : ∃ a vs, v = .ref a ∧ G a = some (.tup vs) ∧ RepWs B.K ρ G l vs := by
  unfold tupItems at e
  split at e
  · cases e
    cases h with
    | d h =>
      cases h with
      | tup q r => exact ⟨_, _, rfl, q, r.ws⟩
  · cases e
    cases h with
    | tw q r => exact ⟨_, _, rfl, q, r⟩
  · cases e
theorem tupItems_ex (w : W) (x : Exc) (S : Sto) : tupItems w ≠ .ex x S := by
  unfold tupItems
  split <;> intro h <;> cases h
theorem gTs_len {ρ : List Addr} {G H : Hp} {Q : St → Hp → Prop} : ∀ (ms : List Tg) (l : List W) (env : Env) (S : Sto), PostG B ρ G H (gTs ms l env S) Q → l.length = ms.length
  | [], [], _, _, _ => rfl
  | [], _ :: _, _, _, h => False.elim h
  | _ :: _, [], _, _, h => False.elim h
  | m :: ms, w :: l, env, S, h => by
    have h' : PostG B ρ G H ((m w env S).bind fun p => gTs ms l p.1 p.2) Q := h
    cases e : m w env S with
    | stuck => rw [e] at h'; exact False.elim h'
    | ex x S1 => rw [e] at h'; exact False.elim h'
    | ok p =>
      rw [e] at h'
      exact congrArg (· + 1) (gTs_len ms l p.1 p.2 h')
theorem sg_tup {gs : TGs} {ms : List Tg} {n : Nat} (hn : ms.length = n) (h1 : SimGs B gs ms) : SimG B (gTup B.K n gs) (gT ms) := by
  intro ρ G S H env σ w v Q R E r h
  have h' : PostG B ρ G H ((tupItems w).bind fun l => gTs ms l env S) Q := h
  cases e : tupItems w with
  | stuck => rw [e] at h'; exact False.elim h'
  | ex x S1 => rw [e] at h'; exact False.elim h'
  | ok l =>
    rw [e] at h'
    obtain ⟨a, vs, rfl, q, rs⟩ := tupItems_rep e r
    exact ⟨a, vs, rfl, .inl (.inl (R.ex _ _ q)), by rw [← rs.length, ← hn]; exact gTs_len ms l env S h', h1 ρ G S H env σ l vs Q R E rs h'⟩

/-! ### statements -/
theorem postS_le {ρ ρ1 : List Addr} {G H G1 H1 : Hp} {r : R O} {D : Ends} (le : Le ρ G H ρ1 G1 H1) (h : PostS B Wi ρ G H r D) : PostS B Wi ρ1 G1 H1 r D := by
  cases r with
  | stuck => exact h
  | ex x S => exact h
  | ok o =>
    cases o with
    | nx e s => exact fun ρ' G' H' σ' l r => h ρ' G' H' σ' (le.trans l) r
    | rt w s => exact fun ρ' G' H' v l r => h ρ' G' H' v (le.trans l) r
    | bk e s => exact fun ρ' G' H' σ' l r => h ρ' G' H' σ' (le.trans l) r
    | ct e s => exact fun ρ' G' H' σ' l r => h ρ' G' H' σ' (le.trans l) r
    | xx x e s => exact fun ρ' G' H' σ' c d l r => h ρ' G' H' σ' c d (le.trans l) r
/-- an expression at the head of a statement -/
theorem postS_bd {ρ : List Addr} {G H : Hp} {r : VS} {env : Env} {σ : St} {f : W × Sto → R O} {D : Ends} {Q : VK} (E : EnvR B ρ G env σ) (h : PostS B Wi ρ G H (r.bd env f) D)
    (k : ∀ w S' ρ' G' H' v, Le ρ G H ρ' G' H' → Rel B ρ' G' S' H' → RepW B.K ρ' G' w v → PostS B Wi ρ' G' H' (f (w, S')) D → Q v H') : Post B (atS Wi σ) ρ G H r Q := by
  cases r with
  | stuck => exact h
  | ex x S => exact fun ρ' G' H' c d l r q => h ρ' G' H' σ c d l r (l.env E) q
  | ok p => exact fun ρ' G' H' v l r q => k p.1 p.2 ρ' G' H' v l r q (postS_le l h)
theorem postST_bd {ρ : List Addr} {G H : Hp} {r : R (Bool × Sto)} {env : Env} {σ : St} {f : Bool × Sto → R O} {D : Ends} {Q : Bool → Hp → Prop} (E : EnvR B ρ G env σ) (h : PostS B Wi ρ G H (r.bd env f) D)
    (k : ∀ w S' ρ' G' H', Le ρ G H ρ' G' H' → Rel B ρ' G' S' H' → PostS B Wi ρ' G' H' (f (w, S')) D → Q w H') : PostT B (atS Wi σ) ρ G H r Q := by
  cases r with
  | stuck => exact h
  | ex x S => exact fun ρ' G' H' c d l r q => h ρ' G' H' σ c d l r (l.env E) q
  | ok p => exact fun ρ' G' H' l r => k p.1 p.2 ρ' G' H' l r (postS_le l h)
theorem postSG_bd {ρ : List Addr} {G H : Hp} {r : R (Env × Sto)} {env : Env} {f : Env × Sto → R O} {D : Ends} {Q : St → Hp → Prop} (hx : ∀ x S, r ≠ .ex x S) (h : PostS B Wi ρ G H (r.bd env f) D)
    (k : ∀ e' S' ρ' G' H' σ', Le ρ G H ρ' G' H' → Rel B ρ' G' S' H' → EnvR B ρ' G' e' σ' → PostS B Wi ρ' G' H' (f (e', S')) D → Q σ' H') : PostG B ρ G H r Q := by
  cases r with
  | stuck => exact h
  | ex x S => exact absurd rfl (hx x S)
  | ok p => exact fun ρ' G' H' σ' l r q => k p.1 p.2 ρ' G' H' σ' l r q (postS_le l h)
/-- a target that raises nothing -/
def Quiet (m : Tg) : Prop := ∀ w e s x S, m w e s ≠ .ex x S
theorem quiet_N {i : Nat} : Quiet (gN i) := fun w e s x S h => by cases h
theorem quiet_Ts : ∀ {ms : List Tg}, (∀ m ∈ ms, Quiet m) → ∀ l e s x S, gTs ms l e s ≠ .ex x S
  | [], _, [], e, s, x, S => fun h => by cases h
  | [], _, _ :: _, e, s, x, S => fun h => by cases h
  | _ :: _, _, [], e, s, x, S => fun h => by cases h
  | m :: ms, q, w :: l, e, s, x, S => fun h => by
    have h' : (m w e s).bind (fun p => gTs ms l p.1 p.2) = .ex x S := h
    cases e1 : m w e s with
    | stuck => rw [e1] at h'; cases h'
    | ex x1 S1 => exact q m List.mem_cons_self _ _ _ _ _ e1
    | ok p =>
      rw [e1] at h'
      exact quiet_Ts (fun m hm => q m (List.mem_cons_of_mem _ hm)) l p.1 p.2 x S h'
theorem quiet_T {ms : List Tg} (q : ∀ m ∈ ms, Quiet m) : Quiet (gT ms) := fun w e s x S h => by
  have h' : (tupItems w).bind (fun l => gTs ms l e s) = .ex x S := h
  cases e1 : tupItems w with
  | stuck => rw [e1] at h'; cases h'
  | ex x1 S1 => exact tupItems_ex _ _ _ e1
  | ok l => rw [e1] at h'; exact quiet_Ts q l e s x S h'
theorem ss_skip : SimS B Wi tNext sSkip := fun ρ G S H env σ D R E h => h _ _ _ _ (Le.refl _ _ _) R E
theorem ss_seq {t u : TS} {a b : Sx} (h1 : SimS B Wi t a) (h2 : SimS B Wi u b) : SimS B Wi (tSeq t u) (sSeq a b) := by
  intro ρ G S H env σ D R E h
  refine h1 ρ G S H env σ _ R E ?_
  have h' : PostS B Wi ρ G H ((a env S).bind fun o => match o with | .nx e s => b e s | o => .ok o) D := h
  cases e : a env S with
  | stuck => rw [e] at h'; exact h'
  | ex x S1 => rw [e] at h'; exact h'
  | ok o =>
    rw [e] at h'
    cases o with
    | nx e1 s1 => exact fun ρ1 G1 H1 σ1 l1 R1 E1 => h2 ρ1 G1 s1 H1 e1 σ1 D R1 E1 (postS_le l1 h')
    | _ => exact h'
theorem ss_asg {te : TE} {g : TG} {m : Ev} {mg : Tg} (hq : Quiet mg) (he : SimE B Wi te m) (hg : SimG B g mg) : SimS B Wi (tAsg te g) (sAsg mg m) := by
  intro ρ G S H env σ D R E h
  refine he ρ G S H env σ _ R E (postS_bd E h fun w S1 ρ1 G1 H1 v l1 R1 r1 h1 => ?_)
  exact hg ρ1 G1 S1 H1 env σ w v _ R1 (l1.env E) r1 (postSG_bd (fun x S => hq _ _ _ _ _) h1 fun e2 S2 ρ2 G2 H2 σ2 l2 R2 E2 h2 => h2 _ _ _ _ (Le.refl _ _ _) R2 E2)
theorem ss_set {te : TE} {m : Ev} {i : Nat} (hp : PinFree B i) (he : SimE B Wi te m) : SimS B Wi (tAsg te (gName i)) (sAsg (gN i) m) := ss_asg quiet_N he (sg_name hp)
theorem ss_x {te : TE} {m : Ev} (he : SimE B Wi te m) : SimS B Wi (tDrop te) (sX m) := by
  intro ρ G S H env σ D R E h
  exact he ρ G S H env σ _ R E (postS_bd E h fun w S1 ρ1 G1 H1 v l1 R1 r1 h1 => h1 _ _ _ _ (Le.refl _ _ _) R1 (l1.env E))
theorem ss_ret {te : TE} {m : Ev} (he : SimE B Wi te m) : SimS B Wi (tRet te) (sRet m) := by
  intro ρ G S H env σ D R E h
  exact he ρ G S H env σ _ R E (postS_bd E h fun w S1 ρ1 G1 H1 v l1 R1 r1 h1 => h1 _ _ _ _ (Le.refl _ _ _) R1 r1)
theorem ss_retN : SimS B Wi tRetN sRetN := fun ρ G S H env σ D R E h => h _ _ _ _ (Le.refl _ _ _) R (.d .non)
theorem ss_if {c : TT} {m : Tx} {t u : TS} {a b : Sx} (hc : SimT B Wi c m) (h1 : SimS B Wi t a) (h2 : SimS B Wi u b) : SimS B Wi (tIfS c t u) (sIf m a b) := by
  intro ρ G S H env σ D R E h
  refine hc ρ G S H env σ _ R E (postST_bd E h fun w S1 ρ1 G1 H1 l1 R1 q => ?_)
  cases w with
  | true => exact (if_pos rfl).mpr (h1 ρ1 G1 S1 H1 env σ D R1 (l1.env E) q)
  | false => exact (if_neg Bool.false_ne_true).mpr (h2 ρ1 G1 S1 H1 env σ D R1 (l1.env E) q)
theorem envKill {ρ : List Addr} {G : Hp} {σ : St} : ∀ (ks : List Nat) {env : Env}, EnvR B ρ G env σ → EnvR B ρ G (kill ks env) σ
  | [], _, E => E
  | i :: r, env, E => envKill r ⟨by simp [E.1], (fun j u e => by
      by_cases hj : i = j
      · subst hj
        obtain ⟨h1, _⟩ := List.getElem?_eq_some_iff.mp e
        rw [List.getElem?_set_self (by simpa using h1)] at e
        cases e
      · rw [List.getElem?_set_ne hj] at e
        exact E.2.1 j u e), E.2.2⟩
theorem ss_kill {t : TS} {a : Sx} (ks : List Nat) (h1 : SimS B Wi t a) : SimS B Wi t (sKill ks a) := by
  intro ρ G S H env σ D R E h
  refine h1 ρ G S H env σ D R E ?_
  have h' : PostS B Wi ρ G H ((a env S).bind fun o => match o with | .nx e s => .ok (.nx (kill ks e) s) | .ct e s => .ok (.ct (kill ks e) s) | .bk e s => .ok (.bk (kill ks e) s) | o => .ok o) D := h
  cases e : a env S with
  | stuck => rw [e] at h'; exact h'
  | ex x S1 => rw [e] at h'; exact h'
  | ok o =>
    rw [e] at h'
    cases o with
    | nx e1 s1 => exact fun ρ1 G1 H1 σ1 l1 R1 E1 => h' ρ1 G1 H1 σ1 l1 R1 (envKill ks E1)
    | bk e1 s1 => exact fun ρ1 G1 H1 σ1 l1 R1 E1 => h' ρ1 G1 H1 σ1 l1 R1 (envKill ks E1)
    | ct e1 s1 => exact fun ρ1 G1 H1 σ1 l1 R1 E1 => h' ρ1 G1 H1 σ1 l1 R1 (envKill ks E1)
    | _ => exact h'

/-! ### the places from n on are gone -/
/-! ### loops -/
def PostI (B : Bx) (Wi : XK) (ρ : List Addr) (G H : Hp) (r : R (List W × Sto)) (Q : L2.It → Hp → Prop) : Prop := match r with
  | .ok (xs, S') => ∀ ρ' G' H' J, Le ρ G H ρ' G' H' → Rel B ρ' G' S' H' → Walks B ρ' G' J xs → Q J H'
  | .ex x S' => ∀ ρ' G' H' c d, Le ρ G H ρ' G' H' → Rel B ρ' G' S' H' → RepX B G' x c d H' → Wi c d H'
  | .stuck => False
def SimI (B : Bx) (Wi : WX) (wi : TI) (m : Wk) : Prop := ∀ ρ G S H env σ Q, Rel B ρ G S H → EnvR B ρ G env σ → PostI B (atS Wi σ) ρ G H (m env S) Q → wi σ H Q
theorem postI_le {Wi : XK} {ρ ρ1 : List Addr} {G H G1 H1 : Hp} {r : R (List W × Sto)} {Q : L2.It → Hp → Prop} (le : Le ρ G H ρ1 G1 H1) (h : PostI B Wi ρ G H r Q) : PostI B Wi ρ1 G1 H1 r Q := by
  cases r with
  | stuck => exact h
  | ok p => exact fun ρ' G' H' J l r => h ρ' G' H' J (le.trans l) r
  | ex x S => exact fun ρ' G' H' c d l r q => h ρ' G' H' c d (le.trans l) r q
theorem postI_bind {Wi : XK} {ρ : List Addr} {G H : Hp} {r : VS} {f : W × Sto → R (List W × Sto)} {Q : L2.It → Hp → Prop} {Q' : VK} (h : PostI B Wi ρ G H (r.bind f) Q)
    (k : ∀ w S' ρ' G' H' v, Le ρ G H ρ' G' H' → Rel B ρ' G' S' H' → RepW B.K ρ' G' w v → PostI B Wi ρ' G' H' (f (w, S')) Q → Q' v H') : Post B Wi ρ G H r Q' := by
  cases r with
  | stuck => exact h
  | ex x S => exact h
  | ok p => exact fun ρ' G' H' v l r q => k p.1 p.2 ρ' G' H' v l r q (postI_le l h)
/-- a list or a tuple that is walked -/
def iSeqT (K : PySem.W.Frag) (tl : TE) : TI := fun σ H R => tl σ H fun x H1 => ∃ a, x = .ref a ∧ (((∃ xs, SqL K H1 a xs) ∧ R (Itl K a) H1) ∨ ((∃ xs, SqT K H1 a xs) ∧ R (Itt K a) H1))
theorem pi_seq {X : Cx} {tg l : Expr} {tl : TE} (hl : PE X l tl) : PI X tg l (iSeqT X.K tl) := by
  refine ⟨fun pins s σ H R I h => ?_⟩
  refine thn (hl.run pins s σ H _ I h) fun v s1 ⟨x, H1, I1, r1, q1⟩ => ?_
  obtain ⟨a, e, q1⟩ := q1
  subst e
  cases r1
  rcases q1 with ⟨⟨xs, hq⟩, q⟩ | ⟨⟨xs, hq⟩, q⟩
  · obtain ⟨its, rv, p, hz⟩ := I1.list hq
    refine wpAny_pyIter_list p.isList ?_
    refine ⟨s1.heap.objs.size, [s1.heap.objs.size], _, _, H1, rfl, I1.kept (t' := s1.toks) fun b o e => Heap.get?_push_of_some _ e, turn_list a _, ⟨_, Heap.get?_push_size _ rfl, rfl, rfl⟩, fun b hb => ?_, q⟩
    have e : b = s1.heap.objs.size := by simpa using hb
    subst e
    exact I1.fpOk (Nat.le_refl _) (I1.hok.fresh (Nat.le_refl _))
  · obtain ⟨its, rv, p, hz⟩ := I1.tuple hq
    refine wpAny_pyIter_tuple (show s1.heap.IsTuple a its.toArray from p) ?_
    refine ⟨s1.heap.objs.size, [s1.heap.objs.size], _, _, H1, rfl, I1.kept (t' := s1.toks) fun b o e => Heap.get?_push_of_some _ e, turn_tuple a _, ⟨_, Heap.get?_push_size _ rfl, rfl, rfl⟩, fun b hb => ?_, q⟩
    have e : b = s1.heap.objs.size := by simpa using hb
    subst e
    exact I1.fpOk (Nat.le_refl _) (I1.hok.fresh (Nat.le_refl _))
theorem walks_list {ρ : List Addr} {G : Hp} {a : Addr} {vs : List V} {l : List W} (q : SqL B.K G a vs) (r : RepWs B.K ρ G l vs) : Walks B ρ G (Itl B.K a) l := by
  intro i ρ2 G2 S2 H2 p e R
  have q2 : SqL B.K H2 a vs := R.ex.seq (e.seq q)
  refine ⟨fun h => ⟨vs, q2, by rw [← r.length]; exact h⟩, fun w hw => ?_⟩
  obtain ⟨v, hv, rv⟩ := r.get hw
  refine ⟨⟨vs, v, q2, hv⟩, fun x H3 y => ?_⟩
  obtain ⟨rfl, y⟩ := y
  have := (y vs q2).symm.trans hv
  cases this
  exact ⟨G2, R, Le.refl _ _ _, RepW.mono p e rv⟩
theorem walks_tup {ρ : List Addr} {G : Hp} {a : Addr} {vs : List V} {l : List W} (q : SqT B.K G a vs) (r : RepWs B.K ρ G l vs) : Walks B ρ G (Itt B.K a) l := by
  intro i ρ2 G2 S2 H2 p e R
  have q2 : SqT B.K H2 a vs := Same.sqt R.ex (Same.sqt e q)
  refine ⟨fun h => ⟨vs, q2, by rw [← r.length]; exact h⟩, fun w hw => ?_⟩
  obtain ⟨v, hv, rv⟩ := r.get hw
  refine ⟨⟨vs, v, q2, hv⟩, fun x H3 y => ?_⟩
  obtain ⟨rfl, y⟩ := y
  have := (y vs q2).symm.trans hv
  cases this
  exact ⟨G2, R, Le.refl _ _ _, RepW.mono p e rv⟩
theorem si_seq {te : TE} {m : Ev} (he : SimE B Wi te m) : SimI B Wi (iSeqT B.K te) (iSeq m) := by
  intro ρ G S H env σ Q R E h
  refine he ρ G S H env σ _ R E (postI_bind (f := fun p => match p.1 with | .d (.lst l) => .ok (ws l, p.2) | .d (.tup l) => .ok (ws l, p.2) | .d (.inp l) => .ok (ws l, p.2) | .d (.inq l) => .ok (ws l, p.2) | .tw l => .ok (l, p.2) | _ => .stuck) h fun w S1 ρ1 G1 H1 v l1 R1 r1 h1 => ?_)
  simp only at h1
  split at h1
  · cases r1 with
    | d r1 =>
      cases r1 with
      | lst q r => exact ⟨_, rfl, .inl ⟨⟨_, .inl (.inl (R1.ex _ _ q))⟩, h1 _ _ _ _ (Le.refl _ _ _) R1 (walks_list (.inl (.inl q)) r.ws)⟩⟩
  · cases r1 with
    | d r1 =>
      cases r1 with
      | tup q r => exact ⟨_, rfl, .inr ⟨⟨_, .inl (.inl (R1.ex _ _ q))⟩, h1 _ _ _ _ (Le.refl _ _ _) R1 (walks_tup (.inl (.inl q)) r.ws)⟩⟩
  · cases r1 with
    | d r1 =>
      cases r1 with
      | inp q r => exact ⟨_, rfl, .inl ⟨⟨_, R1.ex.seq q⟩, h1 _ _ _ _ (Le.refl _ _ _) R1 (walks_list q r.ws)⟩⟩
  · cases r1 with
    | d r1 =>
      cases r1 with
      | inq q r => exact ⟨_, rfl, .inr ⟨⟨_, Same.sqt R1.ex (sqq q)⟩, h1 _ _ _ _ (Le.refl _ _ _) R1 (walks_tup (sqq q) r.ws)⟩⟩
  · cases r1 with
    | tw q r => exact ⟨_, rfl, .inr ⟨⟨_, .inl (.inl (R1.ex _ _ q))⟩, h1 _ _ _ _ (Le.refl _ _ _) R1 (walks_tup (.inl (.inl q)) r)⟩⟩
  · exact False.elim h1
theorem rng_get : ∀ (n : Nat) (lo : Int) (i : Nat) (w : W), (rng lo n)[i]? = some w → i < n ∧ w = .d (.int (lo + i))
  | 0, _, _, _, h => by simp [rng] at h
  | n + 1, lo, 0, w, h => by
    simp [rng] at h; subst h; exact ⟨Nat.succ_pos _, by simp⟩
  | n + 1, lo, i + 1, w, h => by
    obtain ⟨h1, h2⟩ := rng_get n (lo + 1) i w (by simpa [rng] using h)
    exact ⟨Nat.succ_lt_succ h1, by rw [h2]; congr 2; omega⟩
theorem rng_len : ∀ (n : Nat) (lo : Int), (rng lo n).length = n
  | 0, _ => rfl
  | n + 1, lo => congrArg (· + 1) (rng_len n (lo + 1))
theorem walks_rng {ρ : List Addr} {G : Hp} {lo : Int} {n : Nat} : Walks B ρ G (Itr lo n) (rng lo n) := by
  intro i ρ2 G2 S2 H2 p e R
  rw [rng_len]
  refine ⟨fun h => h, fun w hw => ?_⟩
  obtain ⟨h1, h2⟩ := rng_get _ _ _ _ hw
  subst h2
  refine ⟨h1, fun x H3 y => ?_⟩
  obtain ⟨rfl, rfl⟩ := y
  exact ⟨G2, R, Le.refl _ _ _, .d (.int _)⟩
theorem rep_int {K : PySem.W.Frag} {ρ : List Addr} {G : Hp} {i : Int} {v : V} (h : RepW K ρ G (.d (.int i)) v) : v = .int i := by
  cases h with
  | d h => cases h; rfl
theorem rep_str {K : PySem.W.Frag} {ρ : List Addr} {G : Hp} {i : List Nat} {v : V} (h : RepW K ρ G (.d (.str i)) v) : v = .str (sof i) := by
  cases h with
  | d h => cases h; rfl
theorem si_r1 {te : TE} {m : Ev} (he : SimE B Wi te m) : SimI B Wi (iRng1 (tCons te tNil)) (iR1 m) := by
  intro ρ G S H env σ Q R E h
  refine he ρ G S H env σ _ R E (postI_bind (f := fun p => match p.1 with | .d (.int i) => need (small62 i) (.ok (rng 0 i.toNat, p.2)) | _ => .stuck) h fun w S1 ρ1 G1 H1 v l1 R1 r1 h1 => ?_)
  simp only at h1
  split at h1
  · rename_i i
    cases c : small62 i with
    | false => rw [c] at h1; exact False.elim h1
    | true =>
      rw [c, need_true] at h1
      rw [small62, Bool.and_eq_true] at c
      exact ⟨i, by rw [rep_int r1], of_decide_eq_true c.1, of_decide_eq_true c.2, h1 _ _ _ _ (Le.refl _ _ _) R1 walks_rng⟩
  · exact False.elim h1
theorem postSI_bd {ρ : List Addr} {G H : Hp} {r : R (List W × Sto)} {env : Env} {σ : St} {f : List W × Sto → R O} {D : Ends} {Q : L2.It → Hp → Prop} (E : EnvR B ρ G env σ) (h : PostS B Wi ρ G H (r.bd env f) D)
    (k : ∀ xs S' ρ' G' H' J, Le ρ G H ρ' G' H' → Rel B ρ' G' S' H' → Walks B ρ' G' J xs → PostS B Wi ρ' G' H' (f (xs, S')) D → Q J H') : PostI B (atS Wi σ) ρ G H r Q := by
  cases r with
  | stuck => exact h
  | ex x S => exact fun ρ' G' H' c d l r q => h ρ' G' H' σ c d l r (l.env E) q
  | ok p => exact fun ρ' G' H' J l r q => k p.1 p.2 ρ' G' H' J l r q (postS_le l h)
/-- a turn's end -/
theorem turn_end {t : TS} {b : Sx} (hb : SimS B Wi t b) {ρ : List Addr} {G H : Hp} {S : Sto} {env : Env} {σ : St} {D : Ends} {N : St → Hp → Prop} {k : Env → Sto → R O} (R : Rel B ρ G S H) (E : EnvR B ρ G env σ) (h : PostS B Wi ρ G H ((b env S).bind fun o => turn o k) D)
    (hN : ∀ e s ρ' G' H' σ', Le ρ G H ρ' G' H' → Rel B ρ' G' s H' → EnvR B ρ' G' e σ' → PostS B Wi ρ' G' H' (k e s) D → N σ' H') : t { D with nx := N, ct := N, bk := D.nx } σ H := by
  refine hb ρ G S H env σ _ R E ?_
  cases e : b env S with
  | stuck => rw [e] at h; exact h
  | ex x S1 => rw [e] at h; exact h
  | ok o =>
    rw [e] at h
    cases o with
    | nx e1 s1 => exact fun ρ' G' H' σ' l R' E' => hN e1 s1 ρ' G' H' σ' l R' E' (postS_le l h)
    | ct e1 s1 => exact fun ρ' G' H' σ' l R' E' => hN e1 s1 ρ' G' H' σ' l R' E' (postS_le l h)
    | bk e1 s1 => exact h
    | rt w s1 => exact h
    | xx x e1 s1 => exact h
theorem ss_for {wi : TI} {it : Wk} {g : TG} {mg : Tg} {t : TS} {b : Sx} (hi : SimI B Wi wi it) (hq : Quiet mg) (hg : SimG B g mg) (hb : SimS B Wi t b) : SimS B Wi (tFor wi g t) (sFor it mg b) := by
  intro ρ G S H env σ D R E h
  refine hi ρ G S H env σ _ R E (postSI_bd E h fun xs S1 ρ1 G1 H1 J l1 R1 w1 h1 => ?_)
  refine ⟨fun i m σ H => m = xs.length - i ∧ i ≤ xs.length ∧ ∃ ρ2 G2 S2 env2, Le ρ1 G1 H1 ρ2 G2 H ∧ Rel B ρ2 G2 S2 H ∧ EnvR B ρ2 G2 env2 σ ∧ PostS B Wi ρ2 G2 H (loop mg b (xs.drop i) env2 S2) D,
    ⟨xs.length, by simp, Nat.zero_le _, ρ1, G1, S1, env, Le.refl _ _ _, R1, l1.env E, h1⟩, ?_⟩
  rintro i m σ2 H2 ⟨rfl, hle, ρ2, G2, S2, env2, l2, R2, E2, h2⟩
  obtain ⟨hstop, hgo⟩ := w1 i ρ2 G2 S2 H2 l2.ix l2.ex R2
  by_cases hlt : i < xs.length
  · obtain ⟨go, step⟩ := hgo _ (List.getElem?_eq_getElem hlt)
    refine .inr ⟨go, fun σ' H' => ∃ ρ3 G3 S3 env3, Le ρ1 G1 H1 ρ3 G3 H' ∧ Rel B ρ3 G3 S3 H' ∧ EnvR B ρ3 G3 env3 σ' ∧ PostS B Wi ρ3 G3 H' (loop mg b (xs.drop (i + 1)) env3 S3) D,
      fun σ' H' q => ⟨xs.length - (i + 1), by omega, rfl, hlt, q⟩, fun x H3 y => ?_⟩
    obtain ⟨G3, R3, l3, r3⟩ := step x H3 y
    rw [List.drop_eq_getElem_cons hlt] at h2
    have h3 : PostS B Wi ρ2 G3 H3 ((mg xs[i] env2 S2).bd env2 fun p => (b p.1 p.2).bind fun o => turn o (loop mg b (xs.drop (i + 1)))) D := postS_le l3 h2
    refine hg ρ2 G3 S2 H3 env2 σ2 _ x _ R3 (l3.env E2) r3 (postSG_bd (fun _ _ => hq _ _ _ _ _) h3 fun e4 S4 ρ4 G4 H4 σ4 l4 R4 E4 h4 => ?_)
    exact turn_end hb R4 E4 h4 fun e s ρ' G' H' σ' l' R' E' h' => ⟨ρ', G', s, e, (l2.trans (l3.trans l4)).trans l', R', E', h'⟩
  · have e : xs.drop i = [] := List.drop_eq_nil_of_le (by omega)
    rw [e] at h2
    exact .inl ⟨hstop (by omega), h2 _ _ _ _ (Le.refl _ _ _) R2 E2⟩
theorem ss_whl0 {c : TT} {t : TS} {a : Tx} {b : Sx} {n : Nat} (hc : SimT B Wi c a) (hb : SimS B Wi t b) : SimS B Wi (tWhile c t) (whl a b n) := by
  intro ρ G S H env σ D R E h
  refine ⟨fun m σ H => ∃ ρ2 G2 S2 env2, Rel B ρ2 G2 S2 H ∧ EnvR B ρ2 G2 env2 σ ∧ PostS B Wi ρ2 G2 H (whl a b m env2 S2) D, ⟨n, ρ, G, S, env, R, E, h⟩, ?_⟩
  rintro m σ2 H2 ⟨ρ2, G2, S2, env2, R2, E2, h2⟩
  cases m with
  | zero => exact False.elim h2
  | succ m =>
    refine hc ρ2 G2 S2 H2 env2 σ2 _ R2 E2 (postST_bd E2 h2 fun w S3 ρ3 G3 H3 l3 R3 h3 => ?_)
    cases w with
    | true =>
      refine (if_pos rfl).mpr ⟨fun σ' H' => ∃ ρ4 G4 S4 env4, Rel B ρ4 G4 S4 H' ∧ EnvR B ρ4 G4 env4 σ' ∧ PostS B Wi ρ4 G4 H' (whl a b m env4 S4) D, fun σ' H' q => ⟨m, Nat.lt_succ_self m, q⟩, ?_⟩
      exact turn_end hb R3 (l3.env E2) h3 fun e s ρ' G' H' σ' l' R' E' h' => ⟨ρ', G', s, e, R', E', h'⟩
    | false => exact (if_neg Bool.false_ne_true).mpr (h3 _ _ _ _ (Le.refl _ _ _) R3 (l3.env E2))
theorem ss_whl {c : TT} {t : TS} {a : Tx} {b : Sx} (hc : SimT B Wi c a) (hb : SimS B Wi t b) : SimS B Wi (tWhile c t) (sWhl a b) := ss_whl0 hc hb

/-! ### defs and their calls -/
def spM (B : Bx) (n : Nat) (m : Fn) : Sp := fun vs H Q E => vs.length = n ∧ ∃ ρ G S l, Rel B ρ G S H ∧ RepWs B.K ρ G l vs ∧ Post B E ρ G H (m l S) Q
theorem frz_at {ρ : List Addr} {n k : Nat} {a : Addr} (nd : ρ.Nodup) (h : ρ[k]? = some a) : a ∈ ρ.drop n ↔ n ≤ k := by
  obtain ⟨hk, _⟩ := List.getElem?_eq_some_iff.mp h
  constructor
  · intro hm
    obtain ⟨j, hj⟩ := List.getElem?_of_mem hm
    rw [List.getElem?_drop] at hj
    have : k = n + j := (List.getElem?_inj hk nd).mp (h.trans hj.symm)
    omega
  · intro hn
    refine List.mem_of_getElem? (i := k - n) ?_
    rw [List.getElem?_drop, Nat.add_sub_cancel' hn]
    exact h
open Classical in
/-- a body is a def -/
theorem spM_body {t : TS} {b : Sx} {N : List Str} {n : Nat} {vs : List V} {H : Hp} {Q : VK} {E : XK} (hs : SimS B (fun c d _ H => E c d H) t b) (hpn : B.pin = none) (hn : n ≤ N.length) (h : spM B n (mkF N.length b) vs H Q E) :
    t { nx := fun _ H' => Q .non H', rt := Q } (L2.start N vs) H := by
  obtain ⟨hl, ρ, G, S, l, R, rs, h⟩ := h
  have hll : l.length = vs.length := rs.length
  have E0 : EnvR B ρ G (_root_.B.start N.length l) (L2.start N vs) := by
    refine ⟨by simp [_root_.B.start, L2.start, hll], fun i w e => ?_, fun p hp => by rw [hpn] at hp; cases hp⟩
    have hi : i < l.length := by
      by_cases hi : i < l.length
      · exact hi
      · unfold _root_.B.start at e
        rw [List.getElem?_append_right (by simpa using hi), List.getElem?_replicate] at e
        split at e <;> cases e
    have e' : l[i]? = some w := by
      unfold _root_.B.start at e
      rw [List.getElem?_append_left (by simpa using hi), List.getElem?_map] at e
      cases q : l[i]? with
      | none => rw [q] at e; cases e
      | some a => rw [q] at e; cases e; rfl
    obtain ⟨v, h1, h2⟩ := rs.get e'
    refine ⟨v, ?_, h2⟩
    unfold L2.start
    rw [List.getElem?_append_left (by rw [List.length_map, ← hll]; exact hi), List.getElem?_map, h1]
    rfl
  refine hs ρ G S H _ _ _ R E0 ?_
  have h' : Post B E ρ G H (fin S.length (outOf (b (_root_.B.start N.length l) S))) Q := h
  -- a value comes out
  have val : ∀ (w : W) (s : Sto), Post B E ρ G H (fin S.length (.ok (w, s))) Q → ∀ ρ' G' H' v, Le ρ G H ρ' G' H' → Rel B ρ' G' s H' → RepW B.K ρ' G' w v → Q v H' := fun w s q ρ' G' H' v le R' r => by
    have q' : Post B E ρ G H (match frz S.length s w with | some w' => if clS S.length (s.take S.length) then .ok (w', s.take S.length) else .stuck | none => .stuck) Q := q
    cases e1 : frz S.length s w with
    | none => rw [e1] at q'; exact False.elim q'
    | some w' =>
      rw [e1] at q'
      simp only at q'
      cases c : clS S.length (s.take S.length) with
      | false => rw [c] at q'; exact False.elim q'
      | true =>
        rw [c, if_pos rfl] at q'
        obtain ⟨p1, p2⟩ := le.cut R.len.symm
        obtain ⟨R2, sg⟩ := R'.frz c
        rw [p1] at R2
        have le2 : Le ρ G H ρ (frzG S.length ρ' G' H') H' := by
          refine ⟨⟨[], by simp, by simp⟩, le.ex.trans sg, fun a h1 h2 h3 => ?_, le.dom, le.keep⟩
          unfold frzG
          by_cases hm : a ∈ ρ'.drop S.length
          · obtain ⟨t, e, f⟩ := le.pre
            rw [e, ← R.len, List.drop_left] at hm
            exact absurd (f a hm) h2
          · rw [if_neg hm]; exact le.fr a h1 h2 h3
        have low : cl S.length w = true → RepW B.K ρ (frzG S.length ρ' G' H') w v := fun hc => by
          have := cl_rep hc r
          rw [p1] at this
          exact RepW.mono (fun _ _ h => h) sg this
        refine q' ρ _ H' v le2 R2 ?_
        cases w with
        | d x =>
          cases (Option.some.inj (show some (W.d x) = some w' from e1))
          exact low rfl
        | loc k =>
          simp only [frz] at e1
          cases hc : cl S.length (.loc k) with
          | true => rw [hc, if_pos rfl] at e1; cases e1; exact low hc
          | false =>
            rw [hc, if_neg Bool.false_ne_true] at e1
            obtain ⟨x, e2, e3⟩ := Option.map_eq_some_iff.mp e1
            subst e3
            refine .d (toD_rep R' sg (fun k a hk ha => ?_) _ _ _ _ e2 r)
            unfold frzG
            rw [if_pos ((frz_at R'.nd ha).mpr (of_decide_eq_true hk))]
        | tw l =>
          simp only [frz] at e1
          cases hc : cl S.length (.tw l) with
          | true => rw [hc, if_pos rfl] at e1; cases e1; exact low hc
          | false =>
            rw [hc, if_neg Bool.false_ne_true] at e1
            obtain ⟨x, e2, e3⟩ := Option.map_eq_some_iff.mp e1
            subst e3
            refine .d (toD_rep R' sg (fun k a hk ha => ?_) _ _ _ _ e2 r)
            unfold frzG
            rw [if_pos ((frz_at R'.nd ha).mpr (of_decide_eq_true hk))]
  cases e : b (_root_.B.start N.length l) S with
  | stuck => rw [e] at h'; exact h'
  | ex x s => rw [e] at h'; exact False.elim h'
  | ok o =>
    rw [e] at h'
    cases o with
    | nx e1 s1 => exact fun ρ' G' H' σ' le R' E' => val _ _ h' ρ' G' H' .non le R' (.d .non)
    | rt w s1 => exact fun ρ' G' H' v le R' r => val w s1 h' ρ' G' H' v le R' r
    | bk e1 s1 => exact False.elim h'
    | ct e1 s1 => exact False.elim h'
    | xx x e1 s1 =>
      have q' : Post B E ρ G H (if clS S.length (s1.take S.length) then .ex x (s1.take S.length) else .stuck) Q := h'
      cases c : clS S.length (s1.take S.length) with
      | false => rw [c] at q'; exact False.elim q'
      | true =>
        rw [c, if_pos rfl] at q'
        intro ρ' G' H' σ' cc d le R' E' rx
        obtain ⟨p1, p2⟩ := le.cut R.len.symm
        have R2 := R'.cut c
        rw [p1] at R2
        exact q' ρ G' H' cc d p2 R2 rx
/-- .. whose makings stay -/
theorem spM_bodyK {t : TS} {b : Sx} {N : List Str} {n : Nat} {vs : List V} {H : Hp} {Q : VK} {E : XK} (hs : SimS B (fun c d _ H => E c d H) t b) (hpn : B.pin = none) (hn : n ≤ N.length) (h : spM B n (mkK N.length b) vs H Q E) :
    t { nx := fun _ H' => Q .non H', rt := Q } (L2.start N vs) H := by
  obtain ⟨hl, ρ, G, S, l, R, rs, h⟩ := h
  have hll : l.length = vs.length := rs.length
  have E0 : EnvR B ρ G (_root_.B.start N.length l) (L2.start N vs) := by
    refine ⟨by simp [_root_.B.start, L2.start, hll], fun i w e => ?_, fun p hp => by rw [hpn] at hp; cases hp⟩
    have hi : i < l.length := by
      by_cases hi : i < l.length
      · exact hi
      · unfold _root_.B.start at e
        rw [List.getElem?_append_right (by simpa using hi), List.getElem?_replicate] at e
        split at e <;> cases e
    have e' : l[i]? = some w := by
      unfold _root_.B.start at e
      rw [List.getElem?_append_left (by simpa using hi), List.getElem?_map] at e
      cases q : l[i]? with
      | none => rw [q] at e; cases e
      | some a => rw [q] at e; cases e; rfl
    obtain ⟨v, h1, h2⟩ := rs.get e'
    refine ⟨v, ?_, h2⟩
    unfold L2.start
    rw [List.getElem?_append_left (by rw [List.length_map, ← hll]; exact hi), List.getElem?_map, h1]
    rfl
  refine hs ρ G S H _ _ _ R E0 ?_
  have h' : Post B E ρ G H (outOf (b (_root_.B.start N.length l) S)) Q := h
  cases e : b (_root_.B.start N.length l) S with
  | stuck => rw [e] at h'; exact h'
  | ex x s => rw [e] at h'; exact False.elim h'
  | ok o =>
    rw [e] at h'
    cases o with
    | nx e1 s1 => exact fun ρ' G' H' σ' le R' E' => h' ρ' G' H' .non le R' (.d .non)
    | rt w s1 => exact h'
    | bk e1 s1 => exact False.elim h'
    | ct e1 s1 => exact False.elim h'
    | xx x e1 s1 => exact fun ρ' G' H' σ' cc d le R' E' rx => h' ρ' G' H' cc d le R' rx
theorem CellR.notTup {ρ : List Addr} {G H : Hp} {a : Addr} {o : HO} (h : H a = some o) : ∀ {c : C}, CellR B ρ G H a c → (∀ vs, o ≠ .tup vs) ∧ ∀ z vs, o ≠ .frz z (.tup vs)
  | .l _, ⟨vs, h', _⟩ => by rw [h] at h'; cases h'; exact ⟨fun _ e => (nomatch e), fun _ _ e => (nomatch e)⟩
  | .w _, ⟨vs, h', _⟩ => by rw [h] at h'; cases h'; exact ⟨fun _ e => (nomatch e), fun _ _ e => (nomatch e)⟩
  | .m false _, ⟨vs, h', _⟩ => by rw [h] at h'; cases h'; exact ⟨fun _ e => (nomatch e), fun _ _ e => (nomatch e)⟩
  | .m true _, ⟨vs, h', _⟩ => by rw [h] at h'; cases h'; exact ⟨fun _ e => (nomatch e), fun _ _ e => (nomatch e)⟩
  | .mw false _, ⟨vs, h', _⟩ => by rw [h] at h'; cases h'; exact ⟨fun _ e => (nomatch e), fun _ _ e => (nomatch e)⟩
  | .mw true _, ⟨vs, h', _⟩ => by rw [h] at h'; cases h'; exact ⟨fun _ e => (nomatch e), fun _ _ e => (nomatch e)⟩
  | .o _ _, ⟨dx, vs, h', _⟩ => by rw [h] at h'; cases h'; exact ⟨fun _ e => (nomatch e), fun _ _ e => (nomatch e)⟩
theorem Rel.noTup {ρ : List Addr} {G H : Hp} {S : Sto} (R : Rel B ρ G S H) {a : Addr} (h : a ∈ ρ) : ∀ vs, H a ≠ some (.tup vs) := fun vs hv => by
  obtain ⟨n, hn⟩ := List.getElem?_of_mem h
  obtain ⟨c, _, r⟩ := R.at_ hn
  exact (CellR.notTup hv r).1 vs rfl
theorem CellR.notXd {ρ : List Addr} {G H : Hp} {a : Addr} {o : HO} (h : H a = some o) : ∀ {c : C}, CellR B ρ G H a c → ∀ fs, o ≠ .xd fs
  | .l _, ⟨vs, h', _⟩ => by rw [h] at h'; cases h'; exact fun _ e => (nomatch e)
  | .w _, ⟨vs, h', _⟩ => by rw [h] at h'; cases h'; exact fun _ e => (nomatch e)
  | .m false _, ⟨vs, h', _⟩ => by rw [h] at h'; cases h'; exact fun _ e => (nomatch e)
  | .m true _, ⟨vs, h', _⟩ => by rw [h] at h'; cases h'; exact fun _ e => (nomatch e)
  | .mw false _, ⟨vs, h', _⟩ => by rw [h] at h'; cases h'; exact fun _ e => (nomatch e)
  | .mw true _, ⟨vs, h', _⟩ => by rw [h] at h'; cases h'; exact fun _ e => (nomatch e)
  | .o _ _, ⟨dx, vs, h', _⟩ => by rw [h] at h'; cases h'; exact fun _ e => (nomatch e)
theorem Rel.noTX {ρ : List Addr} {G H : Hp} {S : Sto} (R : Rel B ρ G S H) {a : Addr} (h : a ∈ ρ) : NTX (H a) := ⟨R.noTup h, fun fs hv => by
  obtain ⟨n, hn⟩ := List.getElem?_of_mem h
  obtain ⟨c, _, r⟩ := R.at_ hn
  exact CellR.notXd hv r fs rfl⟩
theorem fr_all {ρ ρ0 : List Addr} {G H G' : Hp} {S : Sto} (R : Rel B ρ G S H) (fr : ∀ a, G a = none → H a ≠ none → (a ∈ ρ0 ∨ NTX (H a)) → G' a = none) : ∀ a, G a = none → H a ≠ none → (a ∈ ρ ∨ NTX (H a)) → G' a = none :=
  fun a h1 h2 h3 => fr a h1 h2 (.inr (h3.elim (fun hm => R.noTX hm) id))
/-- what a callee upon data leaves, seen by the caller -/
theorem after_call {ρ : List Addr} {G H G' H' : Hp} {ρ' : List Addr} {S : Sto} (R : Rel B ρ G S H) (R' : Rel B ρ' G' [] H') (le : Le [] G H ρ' G' H') : Rel B ρ G' S H' ∧ Le ρ G H ρ G' H' := by
  refine ⟨⟨R'.ex, R.len, R.nd, fun a ha => le.fr a (R.off a ha) (R.mem ha) (.inr (R.noTX ha)), fun n c hc => ?_⟩, ⟨⟨[], by simp, by simp⟩, le.ex, fr_all R le.fr, le.dom, fun a _ o h => le.keep a (by simp) o h⟩⟩
  obtain ⟨a, h1, h2⟩ := R.cell n c hc
  refine ⟨a, h1, h2.mono (fun _ _ h => h) le.ex ?_⟩
  cases e : H a with
  | none => exact absurd e h2.there
  | some o => exact le.keep a (by simp) o e
theorem rel_nil {G H : Hp} (h : Same G H) : Rel B [] G [] H := ⟨h, rfl, List.nodup_nil, fun _ h => (nomatch h), fun n c h => by simp at h⟩
theorem callD_post {f : Fn} {n : Nat} {ρ : List Addr} {G H : Hp} {S : Sto} {ds : List D} {vs : List V} {Q : VK} {E : XK} (R : Rel B ρ G S H) (r : RepL B.K G ds vs) (hn : vs.length = n) (h : Post B E ρ G H (callD f ds S) Q) : spM B n f vs H Q E := by
  refine ⟨hn, [], G, [], ws ds, rel_nil R.ex, r.ws, ?_⟩
  unfold callD at h
  cases e : f (ws ds) [] with
  | stuck => rw [e] at h; exact h
  | ex x t =>
    rw [e] at h
    intro ρ' G' H' c d le R' rx
    cases t with
    | nil =>
      obtain ⟨q1, q2⟩ := after_call R R' le
      exact h ρ G' H' c d q2 q1 rx
    | cons c0 t0 =>
      have R2 : Rel B ρ' G' [] H' → True := fun _ => trivial
      have q1 : Rel B ρ G' S H' ∧ Le ρ G H ρ G' H' := by
        refine ⟨⟨R'.ex, R.len, R.nd, fun a ha => le.fr a (R.off a ha) (R.mem ha) (.inr (R.noTX ha)), fun n c hc => ?_⟩, ⟨⟨[], by simp, by simp⟩, le.ex, fr_all R le.fr, le.dom, fun a _ o h => le.keep a (by simp) o h⟩⟩
        obtain ⟨a, h1, h2⟩ := R.cell n c hc
        refine ⟨a, h1, h2.mono (fun _ _ h => h) le.ex ?_⟩
        cases e : H a with
        | none => exact absurd e h2.there
        | some o => exact le.keep a (by simp) o e
      exact h ρ G' H' c d q1.2 q1.1 rx
  | ok p =>
    rw [e] at h
    obtain ⟨w, t⟩ := p
    cases w with
    | d x =>
      cases t with
      | nil =>
        intro ρ' G' H' v le R' rx
        obtain ⟨q1, q2⟩ := after_call R R' le
        refine h ρ G' H' v q2 q1 ?_
        cases rx with
        | d rx => exact .d rx
      | cons _ _ => exact False.elim h
    | loc k => exact False.elim h
    | tw l => exact False.elim h
open Classical in
noncomputable def borG (ρ : List Addr) (G H : Hp) : Hp := fun a => if a ∈ ρ then H a else G a
open Classical in
noncomputable def offG (ρ : List Addr) (G : Hp) : Hp := fun a => if a ∈ ρ then none else G a
theorem callP_post {f : Fn} {n : Nat} {ρ : List Addr} {G H : Hp} {S : Sto} {l : List W} {vs : List V} {Q : VK} {E : XK} (R : Rel B ρ G S H) (r : RepWs B.K ρ G l vs) (hn : vs.length = n) (h : Post B E ρ G H (callP f l S) Q) : spM B n f vs H Q E := by
  unfold callP at h
  cases e : asDs l with
  | some ds =>
    rw [e] at h
    exact callD_post R (r.asDs e) hn h
  | none =>
    rw [e] at h
    simp only at h
    cases e2 : toDs FU (fun _ => true) S l with
    | none => rw [e2] at h; exact False.elim h
    | some ds =>
      rw [e2] at h
      simp only at h
      -- the places are lent as data
      have sg : Same G (borG ρ G H) := fun a o ea => by
        unfold borG
        by_cases hm : a ∈ ρ
        · rw [if_pos hm]; exact R.ex a o ea
        · rw [if_neg hm]; exact ea
      have sh : Same (borG ρ G H) H := fun a o ea => by
        unfold borG at ea
        by_cases hm : a ∈ ρ
        · rw [if_pos hm] at ea; exact ea
        · rw [if_neg hm] at ea; exact R.ex a o ea
      have rd : RepL B.K (borG ρ G H) ds vs := toDs_rep R sg (fun k a _ ha => by unfold borG; rw [if_pos (List.mem_of_getElem? ha)]) _ _ _ _ e2 r
      refine ⟨hn, [], borG ρ G H, [], ws ds, rel_nil sh, rd.ws, ?_⟩
      -- behind it
      have back : ∀ {ρ' : List Addr} {G' H' : Hp} {t : Sto}, Le [] (borG ρ G H) H ρ' G' H' → Rel B ρ' G' t H' → Rel B ρ (offG ρ G') S H' ∧ Le ρ G H ρ (offG ρ G') H' := fun {ρ' G' H' t} le R' => by
        have le1 : Same G (offG ρ G') := fun a o ea => by
          unfold offG
          have hm : a ∉ ρ := fun hm => by rw [R.off a hm] at ea; cases ea
          rw [if_neg hm]
          exact le.ex a o (sg a o ea)
        refine ⟨⟨fun a o ea => ?_, R.len, R.nd, fun a ha => by unfold offG; rw [if_pos ha], fun n c hc => ?_⟩, ⟨⟨[], by simp, by simp⟩, le1, fun a h1 h2 h3 => ?_, le.dom, fun a _ o h => le.keep a (by simp) o h⟩⟩
        · unfold offG at ea
          by_cases hm : a ∈ ρ
          · rw [if_pos hm] at ea; cases ea
          · rw [if_neg hm] at ea; exact R'.ex a o ea
        · obtain ⟨a, h1, h2⟩ := R.cell n c hc
          refine ⟨a, h1, h2.mono (fun _ _ h => h) le1 ?_⟩
          cases ea : H a with
          | none => exact absurd ea h2.there
          | some o => exact le.keep a (by simp) o ea
        · unfold offG
          by_cases hm : a ∈ ρ
          · rw [if_pos hm]
          · rw [if_neg hm]
            exact le.fr a (by unfold borG; rw [if_neg hm]; exact h1) h2 (.inr (h3.resolve_left hm))
      unfold callD at h
      cases e3 : f (ws ds) [] with
      | stuck => rw [e3] at h; exact h
      | ex x t => rw [e3] at h; exact False.elim h
      | ok p =>
        rw [e3] at h
        obtain ⟨w, t⟩ := p
        cases w with
        | d x =>
          cases t with
          | nil =>
            simp only at h
            cases hx : noL x with
            | false => rw [hx] at h; exact False.elim h
            | true =>
              rw [hx, if_pos rfl] at h
              intro ρ' G' H' v le R' rx
              obtain ⟨q1, q2⟩ := back le R'
              refine h ρ (offG ρ G') H' v q2 q1 (.d ?_)
              cases rx with
              | d rx =>
                refine noL_rep (fun a o ea => ?_) rx hx
                by_cases hm : a ∈ ρ
                · left
                  obtain ⟨k, hk⟩ := List.getElem?_of_mem hm
                  obtain ⟨c, hc, hr⟩ := R.at_ hk
                  cases eh : H a with
                  | none => exact absurd eh hr.there
                  | some o' =>
                    have : G' a = some o' := le.ex a o' (by unfold borG; rw [if_pos hm]; exact eh)
                    rw [ea] at this
                    cases this
                    exact hr.notTup eh
                · right
                  unfold offG
                  rw [if_neg hm]; exact ea
          | cons _ _ => exact False.elim h
        | loc k => exact False.elim h
        | tw l => exact False.elim h
end
end B
namespace B
open PySem L2
/-! ### one rule or another -/
theorem opR_or {X : Cx} {f : Value → Value → Sem Value} {r r' : R2} (h : OpR X f r) (h' : OpR X f r') : OpR X f (fun x y H Q => r x y H Q ∨ r' x y H Q) := by
  intro pins s σ H x y v u Q I rx ry q
  rcases q with q | q
  · exact h pins s σ H x y v u Q I rx ry q
  · exact h' pins s σ H x y v u Q I rx ry q
section
variable {B : Bx} {Wi : WX}
theorem sizeL_le {n : Nat} (h : n ≤ sizeL) : n ≤ sizeLine := by rw [sizeLine_eq]; exact h
theorem sizeL_lt {n : Nat} (h : n < sizeL) : n < sizeLine := by rw [sizeLine_eq]; exact h
theorem postN {Wi : XK} {ρ : List Addr} {G H : Hp} {b : Bool} {r : VS} {Q : VK} (h : Post B Wi ρ G H (need b r) Q) : b = true ∧ Post B Wi ρ G H r Q := by
  cases b with
  | true => exact ⟨rfl, h⟩
  | false => exact False.elim h
theorem post_d {Wi : XK} {ρ : List Addr} {G H : Hp} {S : Sto} {x : D} {v : V} {Q : VK} (R : Rel B ρ G S H) (r : Rep B.K G x v) (h : Post B Wi ρ G H (.ok (.d x, S)) Q) : Q v H := h _ _ _ _ (Le.refl _ _ _) R (.d r)
theorem simR_d2 {r : R2} {g : D → D → R D} (hx : ∀ a b x s, g a b ≠ .ex x s) (h : ∀ H a b c v u Q, Rep B.K H a v → Rep B.K H b u → g a b = .ok c → (∀ z, (∀ G, Rep B.K G c z) → Q z H) → r v u H Q) : SimR B r (d2 g) := by
  intro Wi ρ G S H x y v u Q R rx ry q
  have q' : Post B Wi ρ G H ((dat S x).bind fun a => (dat S y).bind fun b => (g a b).bind fun r => .ok (.d r, S)) Q := q
  rcases dat_cases S x with ⟨a, e1⟩ | e1
  · rcases dat_cases S y with ⟨b, e2⟩ | e2
    · rw [e1, _root_.B.R.bind_ok, e2, _root_.B.R.bind_ok] at q'
      cases e3 : g a b with
      | stuck => rw [e3] at q'; exact False.elim q'
      | ex z s => exact absurd e3 (hx _ _ _ _)
      | ok c =>
        rw [e3] at q'
        exact h H a b c v u Q (dat_rep R e1 rx) (dat_rep R e2 ry) e3 fun z hz => post_d R (hz G) q'
    · rw [e1, _root_.B.R.bind_ok, e2] at q'; exact False.elim q'
  · rw [e1] at q'; exact False.elim q'
theorem need_ex {α : Type} {b : Bool} {a : α} {x : Exc} {s : Sto} : need b (R.ok a) ≠ .ex x s := by
  cases b <;> intro h <;> cases h
theorem need_ok {α : Type} {b : Bool} {a c : α} (h : need b (R.ok a) = .ok c) : b = true ∧ a = c := by
  cases b with
  | true => exact ⟨rfl, by cases h; rfl⟩
  | false => cases h
theorem I2_ex {f : Int → Int → R D} (hx : ∀ a b x s, f a b ≠ .ex x s) : ∀ a b x s, I2 f a b ≠ .ex x s := by
  intro a b x s
  unfold I2
  split
  · exact hx _ _ _ _
  · intro h; cases h
theorem I2_ok {f : Int → Int → R D} {a b c : D} (h : I2 f a b = .ok c) : ∃ i j, a = .int i ∧ b = .int j ∧ f i j = .ok c := by
  unfold I2 at h
  split at h
  · exact ⟨_, _, rfl, rfl, h⟩
  · cases h
/-- an operator upon two ints -/
theorem simR_I {C : Int → Int → Prop} {k : Int → Int → V} {f : Int → Int → R D} (hx : ∀ a b x s, f a b ≠ .ex x s) (h : ∀ i j c, f i j = .ok c → C i j ∧ ∀ K G, Rep K G c (k i j)) : SimR B (rI C k) (d2 (I2 f)) := by
  refine simR_d2 (I2_ex hx) fun H a b c v u Q ra rb e q => ?_
  obtain ⟨i, j, rfl, rfl, e2⟩ := I2_ok e
  obtain ⟨hc, hr⟩ := h i j c e2
  cases ra; cases rb
  exact ⟨i, j, rfl, rfl, hc, q _ fun G => hr _ G⟩
theorem simR_I0 {k : Int → Int → V} {f : Int → Int → R D} (hx : ∀ a b x s, f a b ≠ .ex x s) (h : ∀ i j c, f i j = .ok c → ∀ K G, Rep K G c (k i j)) : SimR B (rI0 k) (d2 (I2 f)) := by
  refine simR_d2 (I2_ex hx) fun H a b c v u Q ra rb e q => ?_
  obtain ⟨i, j, rfl, rfl, e2⟩ := I2_ok e
  have hr := h i j c e2
  cases ra; cases rb
  exact ⟨i, j, rfl, rfl, q _ fun G => hr _ G⟩
theorem so_sub : SimR B (rI0 fun i j => .int (i - j)) (d2 oSub) := simR_I0 (fun _ _ _ _ h => by cases h) fun i j c h K G => by cases h; exact .int _
theorem so_lt : SimR B (rI0 fun i j => .bl (decide (i < j))) (d2 cLt) := simR_I0 (fun _ _ _ _ h => by cases h) fun i j c h K G => by cases h; exact .bl _
theorem so_le : SimR B (rI0 fun i j => .bl (decide (i ≤ j))) (d2 cLe) := simR_I0 (fun _ _ _ _ h => by cases h) fun i j c h K G => by cases h; exact .bl _
theorem so_gt : SimR B (rI0 fun i j => .bl (decide (j < i))) (d2 cGt) := simR_I0 (fun _ _ _ _ h => by cases h) fun i j c h K G => by cases h; exact .bl _
theorem so_ge : SimR B (rI0 fun i j => .bl (decide (j ≤ i))) (d2 cGe) := simR_I0 (fun _ _ _ _ h => by cases h) fun i j c h K G => by cases h; exact .bl _
theorem so_mod : SimR B (rI (fun _ j => 0 < j) fun i j => .int (i % j)) (d2 oMod) := simR_I (fun _ _ _ _ => need_ex) fun i j c h => by
  obtain ⟨h1, rfl⟩ := need_ok h
  exact ⟨of_decide_eq_true h1, fun K G => .int _⟩
theorem divOk_of {j : Int} (h : divOk j = true) : 0 < j ∧ j.natAbs.log2 < 9000 := by
  rw [divOk, Bool.and_eq_true] at h
  exact ⟨of_decide_eq_true h.1, of_decide_eq_true h.2⟩
theorem so_div : SimR B (rI CDivW fun i j => .int (i / j)) (d2 oDiv) := simR_I (fun _ _ _ _ => need_ex) fun i j c h => by
  obtain ⟨h1, rfl⟩ := need_ok h
  exact ⟨divOk_of h1, fun K G => .int _⟩
theorem so_pow : SimR B (rI CPow fun i j => .int (i ^ j.toNat)) (d2 oPow) := simR_I (fun _ _ _ _ => need_ex) fun i j c h => by
  obtain ⟨h1, rfl⟩ := need_ok h
  rw [Bool.and_eq_true, Bool.and_eq_true] at h1
  exact ⟨⟨of_decide_eq_true h1.1.1, of_decide_eq_true h1.1.2, of_decide_eq_true h1.2⟩, fun K G => .int _⟩
/-! + -/
def rPlus : R2 := fun x y H Q => (rI0 (fun i j => .int (i + j)) x y H Q ∨ (∃ i j, x = .str i ∧ y = .str j ∧ i.length + j.length ≤ sizeLine ∧ Q (.str (i ++ j)) H)) ∨ rCat x y H Q
def rPlusT (K : PySem.W.Frag) : R2 := fun x y H Q => rPlus x y H Q ∨ rCatT K x y H Q
theorem op_plus {X : Cx} : OpR X (binaryOp .Add) (rPlusT X.K) := opR_or (opR_or (opR_or op_add op_add_str) op_cat) op_catT
theorem sof_app (a b : List Nat) : sof a ++ sof b = sof (a ++ b) := by
  show (⟨(sof a).cps ++ (sof b).cps⟩ : Str) = _
  simp [sof]
theorem lstOf_cases (S : Sto) (w : W) : (∃ x, lstOf S w = .ok x) ∨ lstOf S w = .stuck := by
  unfold lstOf
  split <;> first | exact .inl ⟨_, rfl⟩ | exact .inr rfl | (split <;> first | exact .inl ⟨_, rfl⟩ | exact .inr rfl)
theorem lstOf_rep {ρ : List Addr} {G : Hp} {S : Sto} {H : Hp} {w : W} {v : V} {l : List W} (R : Rel B ρ G S H) (e : lstOf S w = .ok l) (r : RepW B.K ρ G w v) : ∃ a vs, v = .ref a ∧ H a = some (.lst vs) ∧ RepWs B.K ρ G l vs := by
  unfold lstOf at e
  split at e
  · cases e
    cases r with
    | d r =>
      cases r with
      | lst q r => exact ⟨_, _, rfl, R.ex _ _ q, r.ws⟩
  · cases r with
    | loc ha =>
      obtain ⟨c, hc, hr⟩ := R.at_ ha
      rw [hc] at e
      cases c with
      | l xs =>
        obtain ⟨vs, h1, h2⟩ := hr
        cases e
        exact ⟨_, vs, rfl, h1, h2.ws⟩
      | w xs =>
        obtain ⟨vs, h1, h2⟩ := hr
        cases e
        exact ⟨_, vs, rfl, h1, h2⟩
      | _ => cases e
  · cases e
theorem so_cat {Wi : XK} {ρ : List Addr} {G : Hp} {S : Sto} {H : Hp} {x y : W} {v u : V} {Q : VK} (R : Rel B ρ G S H) (rx : RepW B.K ρ G x v) (ry : RepW B.K ρ G y u) (h : Post B Wi ρ G H (oCat x y S) Q) : rCat v u H Q ∨ rCatT B.K v u H Q := by
  unfold oCat at h
  split at h
  · obtain ⟨h1, h2⟩ := postN h
    rw [Bool.and_eq_true] at h1
    have c1 := of_decide_eq_true h1.1
    have c2 := of_decide_eq_true h1.2
    cases rx with
    | d rx =>
      cases ry with
      | d ry =>
        cases rx with
        | tup q1 r1 =>
          cases ry with
          | tup q2 r2 =>
            rename_i a vs b us
            have l1 := r1.length
            have l2 := r2.length
            refine .inr ⟨a, b, vs, us, rfl, rfl, .inl (.inl (R.ex _ _ q1)), .inl (.inl (R.ex _ _ q2)), fun e => by rw [e] at l1; simp at l1; rw [l1] at c2; simp at c2, sizeL_le (by rw [← l1, ← l2]; exact c1), ?_⟩
            refine ⟨fun e => ?_, fun _ p hp => ?_⟩
            · subst e
              have e2 := List.eq_nil_of_length_eq_zero l2
              rw [e2, List.append_nil] at h2
              exact post_d R (.tup q1 r1) h2
            · obtain ⟨R2, le2⟩ := R.froz (.tup (vs ++ us)) hp
              exact h2 _ _ _ _ le2 R2 (.d (.tup upd_same ((r1.append r2).mono le2.ex)))
  · left
    rcases lstOf_cases S x with ⟨l, e1⟩ | e1
    · rcases lstOf_cases S y with ⟨m, e2⟩ | e2
      · rw [e1, _root_.B.R.bind_ok, e2, _root_.B.R.bind_ok] at h
        cases e3 : asDs (l ++ m) with
        | none => rw [e3] at h; exact False.elim h
        | some r =>
          rw [e3, ofO_some, _root_.B.R.bind_ok] at h
          obtain ⟨h1, h2⟩ := postN h
          obtain ⟨a, vs, rfl, ha, r1⟩ := lstOf_rep R e1 rx
          obtain ⟨b, us, rfl, hb, r2⟩ := lstOf_rep R e2 ry
          have rr := (r1.append r2).asDs e3
          have hl : vs.length + us.length ≤ sizeLine := by
            have := rr.length
            rw [List.length_append] at this
            rw [← this]
            exact sizeL_le (of_decide_eq_true h1)
          refine ⟨a, b, vs, us, rfl, rfl, ha, hb, hl, fun p hp => ?_⟩
          obtain ⟨R2, l2⟩ := R.froz (.lst (vs ++ us)) hp
          exact h2 _ _ _ _ l2 R2 (.d (.lst upd_same (rr.mono l2.ex)))
      · rw [e1, _root_.B.R.bind_ok, e2] at h; exact False.elim h
    · rw [e1] at h; exact False.elim h
theorem so_add : SimR B (rPlusT B.K) oAdd := by
  intro Wi ρ G S H x y v u Q R rx ry q
  unfold oAdd at q
  split at q
  · refine .inl (.inl (.inl ⟨_, _, rep_int rx, rep_int ry, post_d R (.int _) q⟩))
  · rename_i a b
    obtain ⟨h1, h2⟩ := postN q
    refine .inl (.inl (.inr ⟨_, _, rep_str rx, rep_str ry, ?_, ?_⟩))
    · rw [sof_len, sof_len]; exact sizeL_le (of_decide_eq_true h1)
    · rw [sof_app]; exact post_d R (.str _) h2
  · rcases so_cat R rx ry q with h | h
    · exact .inl (.inr h)
    · exact .inr h
/-! * -/
def CMulA (i j : Int) : Prop := CMul i j ∨ CMulW i j
theorem op_mulA {X : Cx} : OpR X (binaryOp .Mult) (rI CMulA fun i j => .int (i * j)) := opI fun _ _ _ _ _ _ _ hc q => PyProof.Rows.mul_int q (by
  rcases hc with hc | hc
  · exact hc.ok
  · exact hc.ok)
theorem mulOk_of {i j : Int} (h : mulOk i j = true) : CMulA i j := by
  rw [mulOk, Bool.or_eq_true, Bool.or_eq_true] at h
  rcases h with (h | h) | h
  · rw [small, Bool.and_eq_true] at h
    exact .inl (.inl ⟨of_decide_eq_true h.1, of_decide_eq_true h.2⟩)
  · rw [small, Bool.and_eq_true] at h
    exact .inl (.inr ⟨of_decide_eq_true h.1, of_decide_eq_true h.2⟩)
  · exact .inr (show i.natAbs.log2 + j.natAbs.log2 < 1000000 from of_decide_eq_true h)
/-- a text, so many times -/
theorem fold_rep (z : Array Nat) : ∀ (n : Nat) (acc : Array Nat), (List.foldl (· ++ ·) acc (List.replicate n z)).toList = acc.toList ++ (List.replicate n z.toList).flatten
  | 0, acc => by simp
  | n + 1, acc => by
    rw [List.replicate_succ, List.foldl_cons, fold_rep z n, List.replicate_succ, List.flatten_cons, Array.toList_append, List.append_assoc]
theorem op_mulS {X : Cx} : OpR X (binaryOp .Mult) (fun x y H Q => ∃ (z : List Nat) (j : Int), x = .str (sof z) ∧ y = .int j ∧ 0 ≤ j ∧ j ≤ 1000 ∧ z.length ≤ 1000 ∧ Q (.str (sof (List.replicate j.toNat z).flatten)) H) := by
  intro pins s σ H x y v u Q I rx ry h
  obtain ⟨z, j, rfl, rfl, h0, h1, hz, q⟩ := h
  obtain ⟨t, rfl⟩ := rx
  obtain ⟨t', rfl⟩ := ry
  have fin : ∀ (y : Str) (t : Tok) (k : Nat), y = sof (List.replicate j.toNat z).flatten → EP X pins σ Q (.str y t) { s with toks := k } := fun y t k e => ⟨.str y, H, I.tok k, ⟨_, rfl⟩, by rw [e]; exact q⟩
  have hl : (sof z).length = z.length := sof_len z
  have hm : (sof z).length * j.toNat ≤ 1000 * 1000 := Nat.mul_le_mul (by omega) (by omega)
  refine PySem.P.mul_str (by rw [decide_eq_false (by omega), decide_eq_false (by omega)]; rfl) (fun c1 c2 c3 => ?_) (fun c1 c2 => ?_) ?_
  · have h2 : ((2 : Int) ^ 63 - 1) / j ≥ 1000 := by
      have hj : 0 < j := by omega
      exact (Int.le_ediv_iff_mul_le hj).mpr (by
        have : 1000 * j ≤ 1000 * 1000 := by omega
        omega)
    omega
  · unfold Builtin.Str.tooLong
    rw [sizeLine_eq]
    exact decide_eq_false (by omega)
  · by_cases c : j < 1
    · have : j = 0 := by omega
      subst this
      rw [if_pos (by decide)]
      exact ⟨by decide, fin _ _ _ rfl⟩
    · rw [if_neg c]
      by_cases c2 : (j == 1 || (sof z).length == 0) = true
      · rw [if_pos c2]
        refine fin _ _ s.toks ?_
        rw [Bool.or_eq_true] at c2
        rcases c2 with c2 | c2
        · have : j = 1 := by simpa using c2
          subst this
          simp
        · have : z.length = 0 := by rw [← hl]; simpa using c2
          have : z = [] := List.eq_nil_of_length_eq_zero this
          subst this
          simp
      · rw [if_neg c2]
        have e : (⟨(List.replicate j.toNat (sof z).cps).foldl (· ++ ·) #[]⟩ : Str) = sof (List.replicate j.toNat z).flatten := by
          have := fold_rep z.toArray j.toNat #[]
          unfold sof
          congr 1
          apply Array.toList_inj.mp
          rw [this]
          simp
        rw [e]
        refine ⟨?_, fin _ _ _ rfl⟩
        first
          | (rw [sof_len]; simp; rw [sizeLine_eq]; rw [hl] at hm; rw [Nat.mul_comm]; omega)
          | (simp [sof_len]; omega)
def rMulA : R2 := fun x y H Q => rI CMulA (fun i j => .int (i * j)) x y H Q ∨ ∃ (z : List Nat) (j : Int), x = .str (sof z) ∧ y = .int j ∧ 0 ≤ j ∧ j ≤ 1000 ∧ z.length ≤ 1000 ∧ Q (.str (sof (List.replicate j.toNat z).flatten)) H
theorem op_mulAll {X : Cx} : OpR X (binaryOp .Mult) rMulA := opR_or op_mulA op_mulS
theorem so_mul : SimR B rMulA (d2 oMul) := by
  refine simR_d2 (fun a b x s h => ?_) fun H a b c v u Q ra rb e q => ?_
  · unfold oMul at h
    split at h
    · exact need_ex h
    · exact need_ex h
    · cases h
  · unfold oMul at e
    split at e
    · obtain ⟨h1, rfl⟩ := need_ok e
      cases ra; cases rb
      exact .inl ⟨_, _, rfl, rfl, mulOk_of h1, q _ fun G => .int _⟩
    · obtain ⟨h1, rfl⟩ := need_ok e
      rw [Bool.and_eq_true, Bool.and_eq_true] at h1
      cases ra; cases rb
      exact .inr ⟨_, _, rfl, rfl, of_decide_eq_true h1.1.1, of_decide_eq_true h1.1.2, of_decide_eq_true h1.2, q _ fun G => .str _⟩
    · cases e
end
end B
namespace B
open PySem L2
/-! ### == -/
section
variable {K : PySem.W.Frag} {H : Hp}
end
theorem shaped_of {n : Nat} {d : D} (c : okD n d = true) (hn : n ≤ 64) : SeqAt.shaped (toP d) = true := by
  obtain ⟨h1, h2⟩ := lay_of c
  unfold SeqAt.shaped
  rw [h1, Bool.true_and]
  exact decide_eq_true (Nat.le_trans h2 hn)
section
variable {B : Bx} {Wi : WX}
def rEqA (K : PySem.W.Frag) : R2 := fun x y H Q => rEq x y H Q ∨ rEqD K x y H Q
def rNeA (K : PySem.W.Frag) : R2 := fun x y H Q => rNe x y H Q ∨ rNeD K x y H Q
theorem op_eqA {X : Cx} (hu : X.A.units + 64 < cLine) : OpR X (compareOp .Eq) (rEqA X.K) := opR_or op_eq (op_eqD hu)
theorem op_neA {X : Cx} (hu : X.A.units + 64 < cLine) : OpR X (compareOp .NotEq) (rNeA X.K) := opR_or op_ne (op_neD hu)
theorem scal_of {K : PySem.W.Frag} {H : Hp} {a b : D} {v u : V} (c : scalD a b = true) (ra : Rep K H a v) (rb : Rep K H b u) : L2.scal v u = true ∧ decide (v = u) = eqv a b := by
  cases ra <;> cases rb <;> simp only [scalD, Bool.false_eq_true] at c <;> refine ⟨rfl, ?_⟩ <;> simp [eqv, sof, Bool.beq_eq_decide_eq]
theorem so_eq : SimR B (rEqA B.K) (d2 cEq) := by
  refine simR_d2 (fun _ _ _ _ => need_ex) fun H a b c v u Q ra rb e q => ?_
  obtain ⟨h1, rfl⟩ := need_ok e
  rw [Bool.or_eq_true] at h1
  rcases h1 with h1 | h1
  · obtain ⟨s1, s2⟩ := scal_of h1 ra rb
    exact .inl ⟨s1, by rw [s2]; exact q _ fun G => .bl _⟩
  · rw [Bool.and_eq_true] at h1
    refine .inr ⟨_, _, dp_of h1.1 ra, dp_of h1.2 rb, shaped_of h1.1 (by decide), shaped_of h1.2 (by decide), ?_⟩
    rw [eqv_of h1.1 h1.2]
    exact q _ fun G => .bl _
theorem so_ne : SimR B (rNeA B.K) (d2 cNe) := by
  refine simR_d2 (fun _ _ _ _ => need_ex) fun H a b c v u Q ra rb e q => ?_
  obtain ⟨h1, rfl⟩ := need_ok e
  rw [Bool.or_eq_true] at h1
  rcases h1 with h1 | h1
  · obtain ⟨s1, s2⟩ := scal_of h1 ra rb
    exact .inl ⟨s1, by rw [s2]; exact q _ fun G => .bl _⟩
  · rw [Bool.and_eq_true] at h1
    refine .inr ⟨_, _, dp_of h1.1 ra, dp_of h1.2 rb, shaped_of h1.1 (by decide), shaped_of h1.2 (by decide), ?_⟩
    rw [eqv_of h1.1 h1.2]
    exact q _ fun G => .bl _
/-! is None -/
theorem isN_of {K : PySem.W.Frag} {ρ : List Addr} {G : Hp} {w : W} {v : V} (r : RepW K ρ G w v) : decide (v = .non) = (match w with | .d x => isN x | _ => false) := by
  cases r with
  | d r => cases r <;> rfl
  | loc _ => rfl
  | tw _ _ => rfl
theorem se_isN {ta : TE} {m : Ev} (ha : SimE B Wi ta m) : SimE B Wi (tIsN ta) (e1 cIsN m) := by
  intro ρ G S H env σ Q R E h
  refine ha ρ G S H env σ _ R E (post_bind h fun w S1 ρ1 G1 H1 v l1 R1 r1 h1 => ?_)
  rw [isN_of r1]
  cases w with
  | d x => exact post_d R1 (.bl _) h1
  | loc _ => exact post_d R1 (.bl _) h1
  | tw _ => exact post_d R1 (.bl _) h1
theorem se_notN {ta : TE} {m : Ev} (ha : SimE B Wi ta m) : SimE B Wi (tNotN ta) (e1 cNotN m) := by
  intro ρ G S H env σ Q R E h
  refine ha ρ G S H env σ _ R E (post_bind h fun w S1 ρ1 G1 H1 v l1 R1 r1 h1 => ?_)
  rw [isN_of r1]
  cases w with
  | d x => exact post_d R1 (.bl _) h1
  | loc _ => exact post_d R1 (.bl _) h1
  | tw _ => exact post_d R1 (.bl _) h1
/-! ### in -/
theorem flat_of {K : PySem.W.Frag} {H : Hp} {a : D} {v : V} (c : flat a = true) (r : Rep K H a v) : flatV v = true := by
  cases r <;> first | rfl | (simp [flat] at c)
theorem eqV_of {K : PySem.W.Frag} {H : Hp} {a b : D} {v u : V} (ra : Rep K H a v) (rb : Rep K H b u) (c : flat a = true) (d : flat b = true) : eqV v u = eqv a b := by
  cases ra <;> first | (simp [flat] at c; done) | (cases rb <;> first | (simp [flat] at d; done) | simp [eqV, eqv, sof_beq])
theorem inV_of {K : PySem.W.Frag} {H : Hp} {x : D} {v : V} (rx : Rep K H x v) (c : flat x = true) : ∀ {l : List D} {vs : List V}, RepL K H l vs → l.all flat = true → vs.all flatV = true ∧ inV v vs = inL x l
  | _, _, .nil, _ => ⟨rfl, rfl⟩
  | _, _, .cons h r, d => by
    rw [List.all_cons, Bool.and_eq_true] at d
    obtain ⟨h1, h2⟩ := inV_of rx c r d.2
    refine ⟨by rw [List.all_cons, flat_of d.1 h, h1]; rfl, ?_⟩
    unfold inV inL at *
    rw [List.any_cons, List.any_cons, eqV_of h rx d.1 c, h2]
theorem anyP_of {n m : Nat} {x : D} (c : okD n x = true) : ∀ {l : List D}, okL m l = true → ((toPs l).any fun z => PyData.eqv z (toP x)) = inL x l
  | [], _ => rfl
  | y :: l, d => by
    have d' : okD m y = true ∧ okL m l = true := by cases m <;> (rw [okL, Bool.and_eq_true] at d; exact d)
    have ih := anyP_of c d'.2
    unfold inL at *
    rw [toPs, List.any_cons, List.any_cons, ih, eqv_of d'.1 c]
def rInDT (K : PySem.W.Frag) : R2 := fun x y H Q => ∃ d ds, Dp K H x d ∧ Dp K H y (.tuple ds) ∧ SeqAt.shaped d = true ∧ SeqAt.shaped (.tuple ds) = true ∧ Q (.bl (ds.any fun z => PyData.eqv z d)) H
def rNinDT (K : PySem.W.Frag) : R2 := fun x y H Q => ∃ d ds, Dp K H x d ∧ Dp K H y (.tuple ds) ∧ SeqAt.shaped d = true ∧ SeqAt.shaped (.tuple ds) = true ∧ Q (.bl (!ds.any fun z => PyData.eqv z d)) H
theorem op_inDT {X : Cx} (hu : X.A.units + 65 < cLine) : OpR X (compareOp .In) (rInDT X.K) := by
  intro pins s σ H x y v u Q I rx ry h
  obtain ⟨d, ds, hd, he, sd, se, q⟩ := h
  obtain ⟨as, r1⟩ := Dp.reads I d x v hd rx
  obtain ⟨bs, r2⟩ := Dp.reads I (.tuple ds) y u he ry
  exact SeqAt.in_tuple_reads r2 r1 (SeqAt.canLay_of_shaped se) (SeqAt.canLay_of_shaped sd) (PyProof.Rows.room_in_shaped sd hu) ⟨.bl _, H, I, rfl, q⟩
theorem op_notInDT {X : Cx} (hu : X.A.units + 65 < cLine) : OpR X (compareOp .NotIn) (rNinDT X.K) := by
  intro pins s σ H x y v u Q I rx ry h
  obtain ⟨d, ds, hd, he, sd, se, q⟩ := h
  obtain ⟨as, r1⟩ := Dp.reads I d x v hd rx
  obtain ⟨bs, r2⟩ := Dp.reads I (.tuple ds) y u he ry
  exact SeqAt.notIn_tuple_reads r2 r1 (SeqAt.canLay_of_shaped se) (SeqAt.canLay_of_shaped sd) (PyProof.Rows.room_in_shaped sd hu) ⟨.bl _, H, I, rfl, q⟩
def rInA (K : PySem.W.Frag) : R2 := fun x y H Q => (rIn K false x y H Q ∨ rInD K x y H Q) ∨ ((∃ (c : Nat) (z : Str), x = .str ⟨#[c]⟩ ∧ y = .str z ∧ Q (.bl (decide (c ∈ z.cps.toList))) H) ∨ ((∃ a o, y = .ref a ∧ DGet H a x o ∧ Q (.bl o.isSome) H) ∨ rInDT K x y H Q))
def rNinA (K : PySem.W.Frag) : R2 := fun x y H Q => (rIn K true x y H Q ∨ rNotInD K x y H Q) ∨ ((∃ (c : Nat) (z : Str), x = .str ⟨#[c]⟩ ∧ y = .str z ∧ Q (.bl (!decide (c ∈ z.cps.toList))) H) ∨ ((∃ a o, y = .ref a ∧ DGet H a x o ∧ Q (.bl (!o.isSome)) H) ∨ rNinDT K x y H Q))
theorem op_inDct {X : Cx} (hu : X.A.units + 1 < cLine) : OpR X (compareOp .In) (fun x y H Q => ∃ a o, y = .ref a ∧ DGet H a x o ∧ Q (.bl o.isSome) H) := by
  intro pins s σ H x y v u Q I rx ry h
  obtain ⟨a, o, rfl, g, q⟩ := h
  cases ry
  exact d_in hu I g rx fun s' I' => ⟨.bl _, H, I', rfl, q⟩
theorem op_ninDct {X : Cx} (hu : X.A.units + 1 < cLine) : OpR X (compareOp .NotIn) (fun x y H Q => ∃ a o, y = .ref a ∧ DGet H a x o ∧ Q (.bl (!o.isSome)) H) := by
  intro pins s σ H x y v u Q I rx ry h
  obtain ⟨a, o, rfl, g, q⟩ := h
  cases ry
  exact d_notIn hu I g rx fun s' I' => ⟨.bl _, H, I', rfl, q⟩
theorem op_inA {X : Cx} (hu : X.A.units + 65 < cLine) : OpR X (compareOp .In) (rInA X.K) := opR_or (opR_or op_in_seq (op_inD hu)) (opR_or op_in_sign (opR_or (op_inDct (by omega)) (op_inDT hu)))
theorem op_ninA {X : Cx} (hu : X.A.units + 65 < cLine) : OpR X (compareOp .NotIn) (rNinA X.K) := opR_or (opR_or op_notIn_seq (op_notInD hu)) (opR_or op_notIn_sign (opR_or (op_ninDct (by omega)) (op_notInDT hu)))
end
end B
namespace B
open PySem L2
/-! ### dicts -/
inductive Al {α : Type} (P : α → V → Prop) : List α → List V → Prop
  | nil : Al P [] []
  | cons {x : α} {v : V} {l : List α} {vs : List V} : P x v → Al P l vs → Al P (x :: l) (v :: vs)
theorem RepL.al {K : PySem.W.Frag} {G : Hp} : ∀ {l : List D} {vs : List V}, RepL K G l vs → Al (Rep K G) l vs
  | _, _, .nil => .nil
  | _, _, .cons h r => .cons h (RepL.al r)
theorem RepL.of_al {K : PySem.W.Frag} {G : Hp} : ∀ {l : List D} {vs : List V}, Al (Rep K G) l vs → RepL K G l vs
  | _, _, .nil => .nil
  | _, _, .cons h r => .cons h (RepL.of_al r)
theorem RepWs.al {K : PySem.W.Frag} {ρ : List Addr} {G : Hp} : ∀ {l : List W} {vs : List V}, RepWs K ρ G l vs → Al (RepW K ρ G) l vs
  | _, _, .nil => .nil
  | _, _, .cons h r => .cons h (RepWs.al r)
theorem RepWs.of_al {K : PySem.W.Frag} {ρ : List Addr} {G : Hp} : ∀ {l : List W} {vs : List V}, Al (RepW K ρ G) l vs → RepWs K ρ G l vs
  | _, _, .nil => .nil
  | _, _, .cons h r => .cons h (RepWs.of_al r)
theorem keyK_eqv {a b : D} {k j : Key} (h : keyK a = some k) (h' : keyK b = some j) : eqv a b = decide (k = j) := by
  cases a <;> simp only [keyK, reduceCtorEq] at h <;> cases b <;> simp only [keyK, reduceCtorEq] at h' <;> cases h <;> cases h'
  · simp [eqv, Bool.beq_eq_decide_eq]
  · simp [eqv]
  · simp [eqv]
  · rename_i x y
    show (x == y) = _
    rw [← sof_beq, Bool.beq_eq_decide_eq]
    simp
theorem keyKs_eqv : ∀ {a b : List D} {k j : List Key}, keyKs a = some k → keyKs b = some j → eqvL a b = decide (k = j)
  | [], [], _, _, h, h' => by cases h; cases h'; rfl
  | [], b :: bs, _, _, h, h' => by
    cases h
    simp only [keyKs] at h'
    split at h'
    · obtain ⟨z, e1, e2⟩ := Option.map_eq_some_iff.mp h'
      subst e2; simp [eqvL]
    · cases h'
  | a :: as, [], _, _, h, h' => by
    cases h'
    simp only [keyKs] at h
    split at h
    · obtain ⟨z, e1, e2⟩ := Option.map_eq_some_iff.mp h
      subst e2; simp [eqvL]
    · cases h
  | a :: as, b :: bs, _, _, h, h' => by
    simp only [keyKs] at h h'
    cases q1 : keyK a with
    | none => rw [q1] at h; cases h
    | some k =>
      cases q2 : keyK b with
      | none => rw [q2] at h'; cases h'
      | some j =>
        rw [q1] at h
        rw [q2] at h'
        obtain ⟨z, e1, e2⟩ := Option.map_eq_some_iff.mp h
        obtain ⟨z', e1', e2'⟩ := Option.map_eq_some_iff.mp h'
        subst e2; subst e2'
        rw [eqvL, keyK_eqv q1 q2, keyKs_eqv e1 e1']
        simp
theorem keyT_eqv {a b : D} {k j : List Key} (h : keyT a = some k) (h' : keyT b = some j) : eqv a b = decide (k = j) := by
  cases a <;> simp only [keyT, reduceCtorEq] at h <;> cases b <;> simp only [keyT, reduceCtorEq] at h'
  simp only [eqv]
  exact keyKs_eqv h h'
theorem key1_some {x : D} (h : key1 x = true) : ∃ k, keyK x = some k := by
  cases x <;> simp [key1] at h <;> exact ⟨_, rfl⟩
theorem keyKs_some : ∀ {l : List D}, l.all key1 = true → ∃ k, keyKs l = some k
  | [], _ => ⟨[], rfl⟩
  | x :: l, h => by
    rw [List.all_cons, Bool.and_eq_true] at h
    obtain ⟨k, e⟩ := key1_some h.1
    obtain ⟨ks, e2⟩ := keyKs_some h.2
    exact ⟨k :: ks, by simp only [keyKs, e, e2]; rfl⟩
theorem keyOk_f {x : D} (h : keyOk false x = true) : ∃ k, keyK x = some k := by
  cases x <;> simp only [keyOk, Bool.false_and, Bool.not_false, Bool.true_and, Bool.false_eq_true] at h <;> exact key1_some h
theorem keyOk_t {x : D} (h : keyOk true x = true) : ∃ k, keyT x = some k := by
  cases x <;> simp only [keyOk, Bool.true_and, Bool.not_true, Bool.false_and, Bool.false_eq_true] at h
  exact keyKs_some h
theorem kV_of {K : PySem.W.Frag} {H : Hp} {x : D} {v : V} {k : Key} (r : Rep K H x v) (h : keyK x = some k) : v = kV k := by
  cases r <;> simp only [keyK, reduceCtorEq] at h <;> cases h <;> rfl
theorem kVs_of {K : PySem.W.Frag} {H : Hp} : ∀ {l : List D} {vs : List V} {k : List Key}, RepL K H l vs → keyKs l = some k → vs = k.map kV
  | _, _, _, .nil, h => by cases h; rfl
  | _, _, _, .cons h r, e => by
    simp only [keyKs] at e
    split at e
    · rename_i k hk
      obtain ⟨z, e1, e2⟩ := Option.map_eq_some_iff.mp e
      subst e2
      rw [List.map_cons, kV_of h hk, kVs_of r e1]
    · cases e
/-- a look-up -/
def OptR {α : Type} (P : α → V → Prop) : Option α → Option V → Prop
  | some x, some v => P x v
  | none, none => True
  | _, _ => False
theorem look_rel {α κ : Type} [DecidableEq κ] {P : α → V → Prop} (key : D → Option κ) (heq : ∀ a b k j, key a = some k → key b = some j → eqv a b = decide (k = j)) {x : D} {k : κ} (hx : key x = some k) :
    ∀ (l : List (D × α)) (kv : List (κ × V)), l.map (fun p => key p.1) = kv.map (fun p => some p.1) → Al P (l.map (·.2)) (kv.map (·.2)) → OptR P (lookD l x) (valV kv k)
  | [], [], _, _ => trivial
  | [], _ :: _, h, _ => by simp at h
  | _ :: _, [], h, _ => by simp at h
  | p :: l, q :: kv, h, r => by
    rw [List.map_cons, List.map_cons, List.cons.injEq] at h
    rw [List.map_cons, List.map_cons] at r
    cases r with
    | cons r1 r2 =>
      have e := heq p.1 x q.1 k h.1 hx
      have ih := look_rel key heq hx l kv h.2 r2
      unfold lookD at *
      rw [List.find?_cons, e]
      by_cases c : q.1 = k
      · rw [valV_pos c, decide_eq_true c]
        exact r1
      · rw [valV_neg c, decide_eq_false c]
        exact ih
theorem any_rel {α κ : Type} [DecidableEq κ] (key : D → Option κ) (heq : ∀ a b k j, key a = some k → key b = some j → eqv a b = decide (k = j)) {x : D} {k : κ} (hx : key x = some k) :
    ∀ (l : List (D × α)) (kv : List (κ × V)), l.map (fun p => key p.1) = kv.map (fun p => some p.1) → (l.any fun p => eqv p.1 x) = (kv.any fun p => decide (p.1 = k))
  | [], [], _ => rfl
  | [], _ :: _, h => by simp at h
  | _ :: _, [], h => by simp at h
  | p :: l, q :: kv, h => by
    rw [List.map_cons, List.map_cons, List.cons.injEq] at h
    rw [List.any_cons, List.any_cons, heq p.1 x q.1 k h.1 hx, any_rel key heq hx l kv h.2]
theorem put_rel {α κ : Type} [DecidableEq κ] {P : α → V → Prop} (key : D → Option κ) (heq : ∀ a b k j, key a = some k → key b = some j → eqv a b = decide (k = j)) {x : D} {k : κ} (hx : key x = some k) {y : α} {v : V} (hy : P y v)
    (l : List (D × α)) (kv : List (κ × V)) (h : l.map (fun p => key p.1) = kv.map (fun p => some p.1)) (r : Al P (l.map (·.2)) (kv.map (·.2))) :
    (putD l x y).map (fun p => key p.1) = (putK kv k v).map (fun p => some p.1) ∧ Al P ((putD l x y).map (·.2)) ((putK kv k v).map (·.2)) := by
  unfold putD putK
  rw [any_rel key heq hx l kv h]
  by_cases c : (kv.any fun p => decide (p.1 = k)) = true
  · rw [if_pos c, if_pos c]
    clear c
    induction l generalizing kv with
    | nil =>
      cases kv with
      | nil => exact ⟨rfl, .nil⟩
      | cons q kv => simp at h
    | cons p l ih =>
      cases kv with
      | nil => simp at h
      | cons q kv =>
        rw [List.map_cons, List.map_cons, List.cons.injEq] at h
        rw [List.map_cons, List.map_cons] at r
        cases r with
        | cons r1 r2 =>
          obtain ⟨h1, h2⟩ := ih kv h.2 r2
          have e := heq p.1 x q.1 k h.1 hx
          by_cases c : q.1 = k
          · rw [decide_eq_true c] at e
            refine ⟨?_, ?_⟩
            · simp only [List.map_cons]
              rw [if_pos e, if_pos c, h1]
              simp only [h.1]
            · simp only [List.map_cons]
              rw [if_pos e, if_pos c]
              exact .cons hy h2
          · rw [decide_eq_false c] at e
            have e' : ¬ eqv p.1 x = true := by rw [e]; exact Bool.false_ne_true
            refine ⟨?_, ?_⟩
            · simp only [List.map_cons]
              rw [if_neg e', if_neg c, h1]
              simp only [h.1]
            · simp only [List.map_cons]
              rw [if_neg e', if_neg c]
              exact .cons r1 h2
  · rw [if_neg c, if_neg c]
    clear c
    refine ⟨by rw [List.map_append, List.map_append, h]; simp [hx], ?_⟩
    rw [List.map_append, List.map_append]
    have app : ∀ {a : List α} {b : List V}, Al P a b → Al P (a ++ [y]) (b ++ [v]) := fun {a b} q => by
      induction q with
      | nil => exact .cons hy .nil
      | cons h _ ih => exact .cons h ih
    exact app r
theorem dget_d {K : PySem.W.Frag} {H : Hp} {t : Bool} {l : List (D × D)} {x : D} {a : Addr} {v : V} (h : Rep K H (.dct t l) (.ref a)) (rx : Rep K H x v) (hk : keyOk t x = true) : ∃ o, DGet H a v o ∧ OptR (Rep K H) (lookD l x) o := by
  cases h with
  | dk q k r =>
    obtain ⟨j, hj⟩ := keyOk_f hk
    exact ⟨_, .inl ⟨_, j, q, kV_of rx hj, rfl⟩, look_rel keyK (fun _ _ _ _ => keyK_eqv) hj l _ k r.al⟩
  | dt q k r =>
    obtain ⟨j, hj⟩ := keyOk_t hk
    cases x <;> simp only [keyT, reduceCtorEq] at hj
    cases rx with
    | tup q1 r1 =>
      rw [kVs_of r1 hj] at q1
      exact ⟨_, .inr ⟨_, j, _, q, rfl, q1, rfl⟩, look_rel keyT (fun _ _ _ _ => keyT_eqv) (x := .tup _) hj l _ k r.al⟩
end B
/-! A piece of Python is as a B term says: one lemma a construct. -/
namespace B
open PySem L2
section canon
variable (B : Bx) (Wi : WX)
def tOf (m : Ev) : TE := fun σ H Q => ∃ ρ G S env, Rel B ρ G S H ∧ EnvR B ρ G env σ ∧ Post B (atS Wi σ) ρ G H (m env S) Q
def ttOf (m : Tx) : TT := fun σ H Q => ∃ ρ G S env, Rel B ρ G S H ∧ EnvR B ρ G env σ ∧ PostT B (atS Wi σ) ρ G H (m env S) Q
def taOf (m : List Ev) : TA := fun σ H Q => ∃ ρ G S env, Rel B ρ G S H ∧ EnvR B ρ G env σ ∧ PostA B (atS Wi σ) ρ G H (eAs m env S) Q
def tsOf (m : Sx) : TS := fun D σ H => ∃ ρ G S env, Rel B ρ G S H ∧ EnvR B ρ G env σ ∧ PostS B Wi ρ G H (m env S) D
def gOf (m : Tg) : TG := fun v σ H Q => ∃ ρ G S env w, Rel B ρ G S H ∧ EnvR B ρ G env σ ∧ RepW B.K ρ G w v ∧ PostG B ρ G H (m w env S) Q
def gsOf (m : List Tg) : TGs := fun vs σ H Q => ∃ ρ G S env l, Rel B ρ G S H ∧ EnvR B ρ G env σ ∧ RepWs B.K ρ G l vs ∧ PostG B ρ G H (gTs m l env S) Q
def wiOf (m : Wk) : TI := fun σ H Q => ∃ ρ G S env, Rel B ρ G S H ∧ EnvR B ρ G env σ ∧ PostI B (atS Wi σ) ρ G H (m env S) Q
end canon
section
variable {B : Bx} {Wi : WX}
theorem sim_e {m : Ev} : SimE B Wi (tOf B Wi m) m := fun ρ G S H env σ Q R E h => ⟨ρ, G, S, env, R, E, h⟩
theorem sim_t {m : Tx} : SimT B Wi (ttOf B Wi m) m := fun ρ G S H env σ Q R E h => ⟨ρ, G, S, env, R, E, h⟩
theorem sim_a {m : List Ev} : SimA B Wi (taOf B Wi m) m := fun ρ G S H env σ Q R E h => ⟨ρ, G, S, env, R, E, h⟩
theorem sim_s {m : Sx} : SimS B Wi (tsOf B Wi m) m := fun ρ G S H env σ D R E h => ⟨ρ, G, S, env, R, E, h⟩
theorem sim_g {m : Tg} : SimG B (gOf B m) m := fun ρ G S H env σ w v Q R E r h => ⟨ρ, G, S, env, w, R, E, r, h⟩
theorem sim_gs {m : List Tg} : SimGs B (gsOf B m) m := fun ρ G S H env σ l vs Q R E r h => ⟨ρ, G, S, env, l, R, E, r, h⟩
theorem sim_i {m : Wk} : SimI B Wi (wiOf B Wi m) m := fun ρ G S H env σ Q R E h => ⟨ρ, G, S, env, R, E, h⟩
end
def OkE (z : Zx) (e : Expr) (m : Ev) : Prop := PE z.X e (tOf z.B z.Wi m)
def OkT (z : Zx) (e : Expr) (m : Tx) : Prop := PT z.X e (ttOf z.B z.Wi m)
def OkW (z : Zx) (e : Expr) (m : Tx) : Prop := PW z.X e (ttOf z.B z.Wi m)
def OkA (z : Zx) (es : List Expr) (m : List Ev) : Prop := PA z.X es (taOf z.B z.Wi m)
def OkS (z : Zx) (st : Stmt) (m : Sx) : Prop := PS z.X st (tsOf z.B z.Wi m)
def OkSs (z : Zx) (st : List Stmt) (m : Sx) : Prop := PSs z.X st (tsOf z.B z.Wi m)
def OkG (z : Zx) (e : Expr) (m : Tg) : Prop := PG z.X e (gOf z.B m) ∧ Quiet m
def OkGs (z : Zx) (es : List Expr) (m : List Tg) : Prop := PGs z.X es (gsOf z.B m) ∧ ∀ g ∈ m, Quiet g
def OkI (z : Zx) (tg e : Expr) (m : Wk) : Prop := PI z.X tg e (wiOf z.B z.Wi m)
/-- what stands at a def's body -/
structure Ctx (k : Nat) (z : Zx) : Prop where
  hr : Room k z.X.A
  tk : L2.Takes z.X z.Wi
  calm : z.X.calm = true
  nd : z.X.N.Nodup
  po : PassesOwn (model z.X.prog z.X.w) z.X.A z.X.env z.X.xe
section
variable {z : Zx} {k : Nat}
theorem ok_e {e : Expr} {t : TE} {m : Ev} (h : PE z.X e t) (s : SimE z.B z.Wi t m) : OkE z e m := ⟨fun pins st σ H Q I ⟨ρ, G, S, env, R, E, q⟩ => h.run pins st σ H Q I (s ρ G S H env σ Q R E q)⟩
theorem ok_t {e : Expr} {t : TT} {m : Tx} (h : PT z.X e t) (s : SimT z.B z.Wi t m) : OkT z e m := ⟨fun pins st σ H Q I ⟨ρ, G, S, env, R, E, q⟩ => h.run pins st σ H Q I (s ρ G S H env σ Q R E q)⟩
theorem ok_w {e : Expr} {t : TT} {m : Tx} (h : PW z.X e t) (s : SimT z.B z.Wi t m) : OkW z e m := ⟨fun w pins st σ H Q I ⟨ρ, G, S, env, R, E, q⟩ => h.run w pins st σ H Q I (s ρ G S H env σ Q R E q)⟩
theorem ok_a {e : List Expr} {t : TA} {m : List Ev} (h : PA z.X e t) (s : SimA z.B z.Wi t m) : OkA z e m := ⟨fun p pins st σ H Q I ⟨ρ, G, S, env, R, E, q⟩ => h.run p pins st σ H Q I (s ρ G S H env σ Q R E q)⟩
theorem ok_s {e : Stmt} {t : TS} {m : Sx} (h : PS z.X e t) (s : SimS z.B z.Wi t m) : OkS z e m := ⟨fun pins st σ H D I ⟨ρ, G, S, env, R, E, q⟩ => h.run pins st σ H D I (s ρ G S H env σ D R E q)⟩
theorem ok_ss {e : List Stmt} {t : TS} {m : Sx} (h : PSs z.X e t) (s : SimS z.B z.Wi t m) : OkSs z e m := ⟨fun pins st σ H D I ⟨ρ, G, S, env, R, E, q⟩ => h.run pins st σ H D I (s ρ G S H env σ D R E q)⟩
theorem ok_g {e : Expr} {t : TG} {m : Tg} (h : PG z.X e t) (s : SimG z.B t m) (q : Quiet m) : OkG z e m := ⟨⟨fun pins st σ H v u Q I r hh => by
  obtain ⟨ρ, G, S, env, w, R, E, r', q⟩ := hh
  exact h.run pins st σ H v u Q I r (s ρ G S H env σ w v Q R E r' q)⟩, q⟩
end
end B
namespace B
open PySem L2
section
variable {z : Zx} {k : Nat} {a b e : Expr} {es : List Expr} {ma mb m : Ev} {ms : List Ev} {pos : Pos}

/-! ### names, constants -/
theorem kVar (i : Nat) {x : Str} (hN : z.X.N[i]? = some x) (hv : Vis z.X.env.scope x) (hd : (x == ("__debug__" : Str)) = false := by decide) (hcd : (x == ("__classdict__" : Str)) = false := by decide) (pos : Pos) : OkE z (.Name x pos) (eV i) := ok_e (pe_var hN hv hd hcd) se_var
theorem kInt {i : Int} {j : Nat} : OkE z (.Constant (.int i) j pos) (eK (.int i)) := ok_e pe_int se_int
theorem kBl {i : Bool} {j : Nat} : OkE z (.Constant (.bool i) j pos) (eK (.bl i)) := ok_e pe_bl se_bl
theorem kNon {j : Nat} : OkE z (.Constant .none j pos) (eK .non) := ok_e pe_non se_non
theorem kStr {x : Str} {j : Nat} (l : List Nat) (h : x = sof l := by rfl) : OkE z (.Constant (.str x) j pos) (eK (.str l)) := ok_e pe_str (se_str l h)
/-! ### operators -/
theorem kOp {op : Operator} {r : R2} {f : W → W → Sto → VS} (ho : OpR z.X (binaryOp op) r) (hr : SimR z.B r f) (ha : OkE z a ma) (hb : OkE z b mb) : OkE z (.BinOp a op b pos) (e2 f ma mb) := ok_e (pe_op ho ha hb) (se_op hr sim_e sim_e)
theorem kSub (ha : OkE z a ma) (hb : OkE z b mb) : OkE z (.BinOp a .Sub b pos) (e2 (d2 oSub) ma mb) := kOp op_sub so_sub ha hb
theorem kAdd (ha : OkE z a ma) (hb : OkE z b mb) : OkE z (.BinOp a .Add b pos) (e2 oAdd ma mb) := kOp op_plus so_add ha hb
theorem kDiv (ha : OkE z a ma) (hb : OkE z b mb) : OkE z (.BinOp a .FloorDiv b pos) (e2 (d2 oDiv) ma mb) := kOp op_fdivW so_div ha hb
theorem kMod (ha : OkE z a ma) (hb : OkE z b mb) : OkE z (.BinOp a .Mod b pos) (e2 (d2 oMod) ma mb) := kOp op_mod so_mod ha hb
theorem kPow (ha : OkE z a ma) (hb : OkE z b mb) : OkE z (.BinOp a .Pow b pos) (e2 (d2 oPow) ma mb) := kOp op_pow so_pow ha hb
/-! ### comparisons, as values and as tests -/
theorem kCmp {op : CmpOp} {r : R2} {f : W → W → Sto → VS} (ho : OpR z.X (compareOp op) r) (hr : SimR z.B r f) (ha : OkE z a ma) (hb : OkE z b mb) (hm : behindInMarks op b = false) : OkE z (.Compare a [op] [b] pos) (e2 f ma mb) := ok_e (pe_cmpR ho ha hb hm) (se_op hr sim_e sim_e)
theorem tCmp {op : CmpOp} {r : R2} {f : W → W → Sto → VS} (ho : OpR z.X (compareOp op) r) (hr : SimR z.B r f) (ha : OkE z a ma) (hb : OkE z b mb) (hm : behindInMarks op b = false) : OkT z (.Compare a [op] [b] pos) (tB (e2 f ma mb)) := ok_t (pt_cmpR ho ha hb hm) (st_test (se_op hr sim_e sim_e))
theorem kEq (c : Ctx k z) (ha : OkE z a ma) (hb : OkE z b mb) : OkE z (.Compare a [.Eq] [b] pos) (e2 (d2 cEq) ma mb) := kCmp (op_eqA c.hr.units) so_eq ha hb (nomark _)
theorem tLt (ha : OkE z a ma) (hb : OkE z b mb) : OkT z (.Compare a [.Lt] [b] pos) (tB (e2 (d2 cLt) ma mb)) := tCmp op_lt so_lt ha hb (nomark _)
theorem tLe (ha : OkE z a ma) (hb : OkE z b mb) : OkT z (.Compare a [.LtE] [b] pos) (tB (e2 (d2 cLe) ma mb)) := tCmp op_le so_le ha hb (nomark _)
theorem tGt (ha : OkE z a ma) (hb : OkE z b mb) : OkT z (.Compare a [.Gt] [b] pos) (tB (e2 (d2 cGt) ma mb)) := tCmp op_gt so_gt ha hb (nomark _)
theorem tGe (ha : OkE z a ma) (hb : OkE z b mb) : OkT z (.Compare a [.GtE] [b] pos) (tB (e2 (d2 cGe) ma mb)) := tCmp op_ge so_ge ha hb (nomark _)
theorem tEq (c : Ctx k z) (ha : OkE z a ma) (hb : OkE z b mb) : OkT z (.Compare a [.Eq] [b] pos) (tB (e2 (d2 cEq) ma mb)) := tCmp (op_eqA c.hr.units) so_eq ha hb (nomark _)
theorem tNe (c : Ctx k z) (ha : OkE z a ma) (hb : OkE z b mb) : OkT z (.Compare a [.NotEq] [b] pos) (tB (e2 (d2 cNe) ma mb)) := tCmp (op_neA c.hr.units) so_ne ha hb (nomark _)
/-! in -/
theorem oneOf_ex (x y : D) (e : Exc) (s : Sto) : oneOf x y ≠ .ex e s := by
  unfold oneOf
  intro h
  split at h <;> first | exact need_ex h | cases h | (split at h <;> first | cases h | exact need_ex h)
theorem dctGet {K : PySem.W.Frag} {H : Hp} {t : Bool} {l : List (D × D)} {x : D} {u v : V} (h : Rep K H (.dct t l) u) (rx : Rep K H x v) (hk : keyOk t x = true) : ∃ a o, u = .ref a ∧ DGet H a v o ∧ OptR (Rep K H) (lookD l x) o := by
  have hu : ∃ a, u = .ref a := by cases h <;> exact ⟨_, rfl⟩
  obtain ⟨a, rfl⟩ := hu
  obtain ⟨o, h1, h2⟩ := dget_d h rx hk
  exact ⟨a, o, rfl, h1, h2⟩
theorem optR_some {α : Type} {P : α → V → Prop} {x : Option α} {o : Option V} (h : OptR P x o) : o.isSome = x.isSome := by
  cases x <;> cases o <;> simp_all [OptR]
theorem in_core {H : Hp} {x y : D} {v u : V} {r : Bool} (rx : Rep z.X.K H x v) (ry : Rep z.X.K H y u) (e : oneOf x y = .ok r) {Q : VK} :
    (Q (.bl r) H → rInA z.X.K v u H Q) ∧ (Q (.bl (!r)) H → rNinA z.X.K v u H Q) := by
  unfold oneOf at e
  split at e
  · obtain ⟨h1, rfl⟩ := need_ok e
    cases ry with
    | lst q r =>
      rw [Bool.or_eq_true, Bool.and_eq_true, Bool.and_eq_true] at h1
      rcases h1 with h1 | h1
      · obtain ⟨i1, i2⟩ := inV_of rx h1.1 r h1.2
        exact ⟨fun h => .inl (.inl ⟨_, _, rfl, .inl (.inl (.inl q)), flat_of h1.1 rx, i1, by rw [i2]; exact h⟩), fun h => .inl (.inl ⟨_, _, rfl, .inl (.inl (.inl q)), flat_of h1.1 rx, i1, by rw [i2]; exact h⟩)⟩
      · have dl : okD 60 (.lst _) = true := h1.2
        have rl : Rep z.X.K H (.lst _) _ := .lst q r
        have e2 := anyP_of (x := x) (n := 60) h1.1 h1.2
        have s2 := shaped_of dl (by decide)
        have d2' := dp_of dl rl
        rw [toP] at s2 d2'
        exact ⟨fun h => .inl (.inr ⟨_, _, dp_of h1.1 rx, d2', shaped_of h1.1 (by decide), s2, by rw [e2]; exact h⟩), fun h => .inl (.inr ⟨_, _, dp_of h1.1 rx, d2', shaped_of h1.1 (by decide), s2, by rw [e2]; exact h⟩)⟩
  · obtain ⟨h1, rfl⟩ := need_ok e
    cases ry with
    | tup q r =>
      rw [Bool.or_eq_true, Bool.and_eq_true, Bool.and_eq_true] at h1
      rcases h1 with h1 | h1
      · obtain ⟨i1, i2⟩ := inV_of rx h1.1 r h1.2
        exact ⟨fun h => .inl (.inl ⟨_, _, rfl, .inr (.inl (.inl q)), flat_of h1.1 rx, i1, by rw [i2]; exact h⟩), fun h => .inl (.inl ⟨_, _, rfl, .inr (.inl (.inl q)), flat_of h1.1 rx, i1, by rw [i2]; exact h⟩)⟩
      · have dl : okD 60 (.tup _) = true := h1.2
        have rl : Rep z.X.K H (.tup _) _ := .tup q r
        have e2 := anyP_of (x := x) (n := 60) h1.1 h1.2
        have s2 := shaped_of dl (by decide)
        have d2' := dp_of dl rl
        rw [toP] at s2 d2'
        exact ⟨fun h => .inr (.inr (.inr ⟨_, _, dp_of h1.1 rx, d2', shaped_of h1.1 (by decide), s2, by rw [e2]; exact h⟩)), fun h => .inr (.inr (.inr ⟨_, _, dp_of h1.1 rx, d2', shaped_of h1.1 (by decide), s2, by rw [e2]; exact h⟩))⟩
  · obtain ⟨h1, rfl⟩ := need_ok e
    obtain ⟨a, o, rfl, g, oo⟩ := dctGet ry rx h1
    have := optR_some oo
    exact ⟨fun h => .inr (.inr (.inl ⟨a, o, rfl, g, by rw [this]; exact h⟩)), fun h => .inr (.inr (.inl ⟨a, o, rfl, g, by rw [this]; exact h⟩))⟩
  · rename_i zz
    split at e
    · rename_i c
      cases e
      cases rx; cases ry
      have hc : decide (c ∈ (sof zz).cps.toList) = zz.contains c := by rw [sof_cps, List.contains_eq_mem]
      exact ⟨fun h => .inr (.inl ⟨c, sof zz, rfl, rfl, by rw [hc]; exact h⟩), fun h => .inr (.inl ⟨c, sof zz, rfl, rfl, by rw [hc]; exact h⟩)⟩
    · cases e
  · cases e
theorem so_in : SimR z.B (rInA z.X.K) (d2 cIn) := by
  refine simR_d2 (fun a b e s h => ?_) fun H a b c v u Q ra rb e q => ?_
  · unfold cIn at h
    cases q : oneOf a b with
    | stuck => rw [q] at h; cases h
    | ok r => rw [q] at h; cases h
    | ex e2 s2 => exact oneOf_ex _ _ _ _ q
  · unfold cIn at e
    cases q1 : oneOf a b with
    | stuck => rw [q1] at e; cases e
    | ex e2 s2 => exact absurd q1 (oneOf_ex _ _ _ _)
    | ok r =>
      rw [q1] at e
      cases e
      exact (in_core (z := z) ra rb q1).1 (q _ fun G => .bl _)
theorem so_nin : SimR z.B (rNinA z.X.K) (d2 cNin) := by
  refine simR_d2 (fun a b e s h => ?_) fun H a b c v u Q ra rb e q => ?_
  · unfold cNin at h
    cases q : oneOf a b with
    | stuck => rw [q] at h; cases h
    | ok r => rw [q] at h; cases h
    | ex e2 s2 => exact oneOf_ex _ _ _ _ q
  · unfold cNin at e
    cases q1 : oneOf a b with
    | stuck => rw [q1] at e; cases e
    | ex e2 s2 => exact absurd q1 (oneOf_ex _ _ _ _)
    | ok r =>
      rw [q1] at e
      cases e
      exact (in_core (z := z) ra rb q1).2 (q _ fun G => .bl _)
theorem u65 {A : Around} (hr : Room k A) : A.units + 65 < cLine := by have := hr.un; omega
theorem kIn (c : Ctx k z) (ha : OkE z a ma) (hb : OkE z b mb) (hm : behindInMarks .In b = false := by rfl) : OkE z (.Compare a [.In] [b] pos) (e2 (d2 cIn) ma mb) := kCmp (op_inA (u65 c.hr)) so_in ha hb hm
theorem tIn (c : Ctx k z) (ha : OkE z a ma) (hb : OkE z b mb) (hm : behindInMarks .In b = false := by rfl) : OkT z (.Compare a [.In] [b] pos) (tB (e2 (d2 cIn) ma mb)) := tCmp (op_inA (u65 c.hr)) so_in ha hb hm
theorem tNin (c : Ctx k z) (ha : OkE z a ma) (hb : OkE z b mb) (hm : behindInMarks .NotIn b = false := by rfl) : OkT z (.Compare a [.NotIn] [b] pos) (tB (e2 (d2 cNin) ma mb)) := tCmp (op_ninA (u65 c.hr)) so_nin ha hb hm
theorem tIsN {j : Nat} {p : Pos} (ha : OkE z a ma) : OkT z (.Compare a [.Is] [.Constant .none j p] pos) (tB (e1 cIsN ma)) := ok_t (pt_cmp (pc_isN ha)) (st_B (se_isN sim_e))
theorem tNotN {j : Nat} {p : Pos} (ha : OkE z a ma) : OkT z (.Compare a [.IsNot] [.Constant .none j p] pos) (tB (e1 cNotN ma)) := ok_t (pt_cmp (pc_notN ha)) (st_B (se_notN sim_e))
/-! tests -/
theorem tVal (ha : OkE z a ma) (he : ∀ whole, isTrue a z.X.env whole = (do let v ← whole; standAt a.pos; holding [v] (truthy v)) := by intro _; rfl) : OkT z a (tB ma) := ok_t (pt_val ha he) (st_B sim_e)
variable {ta tb tc : Tx} {rest : List Expr}
theorem wAnd1 (ha : OkT z a ta) : OkW z (.BoolOp .And [a] pos) ta := ok_w (pw_and1 ha) sim_t
theorem wOr1 (ha : OkT z a ta) : OkW z (.BoolOp .Or [a] pos) ta := ok_w (pw_or1 ha) sim_t
theorem wAnd (ha : OkT z a ta) (hb : OkW z (.BoolOp .And (b :: rest) pos) tb) : OkW z (.BoolOp .And (a :: b :: rest) pos) (tAnd ta tb) := ok_w (pw_and ha hb) (st_and sim_t sim_t)
theorem wOr (ha : OkT z a ta) (hb : OkW z (.BoolOp .Or (b :: rest) pos) tb) : OkW z (.BoolOp .Or (a :: b :: rest) pos) (tOr ta tb) := ok_w (pw_or ha hb) (st_or sim_t sim_t)
theorem tW (h : OkW z a ta) : OkT z a ta := PW.pt h
theorem tNotT (ha : OkT z a ta) : OkT z (.UnaryOp .Not a pos) (tNot ta) := ok_t (pt_not ha) (st_not sim_t)
theorem kOne {op : BoolOp} (ha : OkE z a ma) : OkE z (.BoolOp op [a] pos) ma := ok_e (pe_one ha) sim_e
theorem kAnd (ha : OkE z a ma) (hb : OkE z (.BoolOp .And (b :: rest) pos) mb) : OkE z (.BoolOp .And (a :: b :: rest) pos) (eAnd ma mb) := ok_e (pe_and ha hb) (se_and sim_e sim_e)
theorem kNot (ha : OkE z a ma) : OkE z (.UnaryOp .Not a pos) (eNot ma) := ok_e (pe_not ha) (se_not sim_e)
end
end B
namespace B
open PySem L2 PySem.Spec PyProof.Rows
/-! ### more rules by values -/
theorem ix_dct {X : Cx} (hu : X.A.units + 1 < cLine) : IxR X (fun x y H Q => ∃ a v, x = .ref a ∧ DGet H a y (some v) ∧ Q v H) := by
  intro value slice pins s σ H x y v u Q I rx ry h hs
  obtain ⟨a, r, rfl, g, q⟩ := h
  obtain rfl : v = Value.ref a := rx
  have ht : s.TypeIs (.ref a) "dict" := (isD_at I (by
    rcases g with ⟨kvs, k, e, _⟩ | ⟨kvs, k, b, e, _⟩
    · exact .inl ⟨kvs, e⟩
    · exact .inr ⟨kvs, e⟩)).1
  exact tail_any ht slot_dict_getitem.lookup (d_getItem hu I g ry fun w' s' I' r' => ⟨r, H, I', r', q⟩) hs
section
variable {z : Zx} {k : Nat} {a b e : Expr} {es : List Expr} {ma mb m : Ev} {ms : List Ev} {pos : Pos}
def rIxA (K : PySem.W.Frag) : R2 := fun x y H Q => rIx K x y H Q ∨ ∃ a v, x = .ref a ∧ DGet H a y (some v) ∧ Q v H
theorem atI_get' {α β : Type} {P : α → β → Prop} {l : List α} {vs : List β} (hl : l.length = vs.length) (hg : ∀ (i : Nat) (w : α), l[i]? = some w → ∃ v, vs[i]? = some v ∧ P w v) {i : Int} {w : α} (h : atI l i = some w) : ∃ v, L2.atI vs i = some v ∧ P w v := by
  unfold atI at h
  unfold L2.atI
  rw [hl] at h
  cases q : ixN vs.length i with
  | none => rw [q] at h; cases h
  | some j =>
    rw [q] at h
    obtain ⟨v, h1, h2⟩ := hg j w h
    exact ⟨v, by
      show (L2.ixN vs.length i).bind _ = _
      rw [show L2.ixN vs.length i = some j from q]; exact h1, h2⟩
theorem ixW_rep {B : Bx} {Wi : XK} {ρ : List Addr} {G H : Hp} {S : Sto} {l : List W} {vs : List V} {y : W} {u : V} {Q : VK} (R : Rel B ρ G S H) (r : RepWs B.K ρ G l vs) (ry : RepW B.K ρ G y u) (q : Post B Wi ρ G H (ixW l y S) Q) :
    ∃ i v, u = .int i ∧ L2.atI vs i = some v ∧ Q v H := by
  unfold ixW at q
  split at q
  · rename_i i
    cases e : atI l i with
    | none => rw [e] at q; exact False.elim q
    | some w =>
      rw [e] at q
      obtain ⟨v, h1, h2⟩ := atI_get' r.length (fun i w h => r.get h) e
      exact ⟨i, v, rep_int ry, h1, q _ _ _ _ (Le.refl _ _ _) R h2⟩
  · exact False.elim q
theorem dat_key {B : Bx} {ρ : List Addr} {G H : Hp} {S : Sto} (R : Rel B ρ G S H) {y : W} {u : V} (ry : RepW B.K ρ G y u) {Wi : XK} {f : D → VS} {Q : VK} (q : Post B Wi ρ G H ((dat S y).bind f) Q) : ∃ x, dat S y = .ok x ∧ Rep B.K H x u ∧ Post B Wi ρ G H (f x) Q := by
  rcases dat_cases S y with ⟨x, e⟩ | e
  · rw [e] at q; exact ⟨x, e, dat_rep R e ry, q⟩
  · rw [e] at q; exact False.elim q
/-- a look-up in a dict of the store whose values are any -/
theorem dget_mw {B : Bx} {ρ : List Addr} {G H : Hp} {t : Bool} {l : List (D × W)} {x : D} {a : Addr} {v : V} (h : CellR B ρ G H a (.mw t l)) (rx : Rep B.K H x v) (hk : keyOk t x = true) : ∃ o, DGet H a v o ∧ OptR (RepW B.K ρ G) (lookD l x) o := by
  cases t with
  | false =>
    obtain ⟨kv, h1, h2, h3⟩ := h
    obtain ⟨j, hj⟩ := keyOk_f hk
    exact ⟨_, .inl ⟨_, j, .inl h1, kV_of rx hj, rfl⟩, look_rel keyK (fun _ _ _ _ => keyK_eqv) hj l _ h2 h3.al⟩
  | true =>
    obtain ⟨kv, h1, h2, h3⟩ := h
    obtain ⟨j, hj⟩ := keyOk_t hk
    cases x <;> simp only [keyT, reduceCtorEq] at hj
    cases rx with
    | tup q1 r1 =>
      rw [kVs_of r1 hj] at q1
      exact ⟨_, .inr ⟨_, j, _, .inl h1, rfl, q1, rfl⟩, look_rel keyT (fun _ _ _ _ => keyT_eqv) (x := .tup _) hj l _ h2 h3.al⟩
theorem ixM_rep {B : Bx} {Wi : XK} {ρ : List Addr} {G H : Hp} {S : Sto} {t : Bool} {l : List (D × D)} {y : W} {u : V} {Q : VK} {w : V} (R : Rel B ρ G S H) (r : Rep B.K G (.dct t l) w ∨ ∃ a, w = .ref a ∧ CellR B ρ G H a (.m t l)) (ry : RepW B.K ρ G y u) (q : Post B Wi ρ G H (ixM t l y S) Q) :
    ∃ a v, w = .ref a ∧ DGet H a u (some v) ∧ Q v H := by
  obtain ⟨x, _, rx, q⟩ := dat_key R ry q
  obtain ⟨hk, q⟩ := postN q
  -- where its values live: in G
  have go : ∃ a o, w = .ref a ∧ DGet H a u o ∧ OptR (Rep B.K G) (lookD l x) o := by
    have keys : ∀ {a : Addr}, (∃ kv, Rd H a (.dK kv) ∧ t = false ∧ l.map (fun p => keyK p.1) = kv.map (fun p => some p.1) ∧ RepL B.K G (l.map (·.2)) (kv.map (·.2))) ∨ (∃ kv, Rd H a (.dT kv) ∧ t = true ∧ l.map (fun p => keyT p.1) = kv.map (fun p => some p.1) ∧ RepL B.K G (l.map (·.2)) (kv.map (·.2))) →
        ∃ o, DGet H a u o ∧ OptR (Rep B.K G) (lookD l x) o := fun {a} h => by
      rcases h with ⟨kv, h1, rfl, h2, h3⟩ | ⟨kv, h1, rfl, h2, h3⟩
      · obtain ⟨j, hj⟩ := keyOk_f hk
        exact ⟨_, .inl ⟨_, j, h1, kV_of rx hj, rfl⟩, look_rel keyK (fun _ _ _ _ => keyK_eqv) hj l _ h2 h3.al⟩
      · obtain ⟨j, hj⟩ := keyOk_t hk
        cases x <;> simp only [keyT, reduceCtorEq] at hj
        cases rx with
        | tup q1 r1 =>
          rw [kVs_of r1 hj] at q1
          exact ⟨_, .inr ⟨_, j, _, h1, rfl, q1, rfl⟩, look_rel keyT (fun _ _ _ _ => keyT_eqv) (x := .tup _) hj l _ h2 h3.al⟩
    rcases r with r | ⟨a, rfl, c⟩
    · cases r with
      | dk h1 h2 h3 => obtain ⟨o, g1, g2⟩ := keys (.inl ⟨_, Same.rd R.ex h1, rfl, h2, h3⟩); exact ⟨_, o, rfl, g1, g2⟩
      | dt h1 h2 h3 => obtain ⟨o, g1, g2⟩ := keys (.inr ⟨_, Same.rd R.ex h1, rfl, h2, h3⟩); exact ⟨_, o, rfl, g1, g2⟩
    · cases t with
      | false => obtain ⟨kv, h1, h2, h3⟩ := c; obtain ⟨o, g1, g2⟩ := keys (.inl ⟨_, .inl h1, rfl, h2, h3⟩); exact ⟨_, o, rfl, g1, g2⟩
      | true => obtain ⟨kv, h1, h2, h3⟩ := c; obtain ⟨o, g1, g2⟩ := keys (.inr ⟨_, .inl h1, rfl, h2, h3⟩); exact ⟨_, o, rfl, g1, g2⟩
  obtain ⟨a, o, rfl, g, oo⟩ := go
  cases e : lookD l x with
  | none => rw [e] at q; exact False.elim q
  | some v0 =>
    rw [e] at q oo
    cases o with
    | none => exact False.elim oo
    | some v => exact ⟨a, v, rfl, g, post_d R oo q⟩
theorem so_ix : SimR z.B (rIxA z.X.K) oIx := by
  intro Wi ρ G S H x y v u Q R rx ry q
  have li : ∀ {l : List W} {vs : List V} {p : Addr}, v = .ref p → SqL z.X.K H p vs → RepWs z.X.K ρ G l vs → Post z.B Wi ρ G H (ixW l y S) Q → rIxA z.X.K v u H Q := fun {l vs p} e h r q => by
    obtain ⟨i, w, h1, h2, h3⟩ := ixW_rep R r ry q
    exact .inl (.inl ⟨p, vs, i, w, e, h1, h, h2, h3⟩)
  have ti : ∀ {l : List W} {vs : List V} {p : Addr}, v = .ref p → SqT z.X.K H p vs → RepWs z.X.K ρ G l vs → Post z.B Wi ρ G H (ixW l y S) Q → rIxA z.X.K v u H Q := fun {l vs p} e h r q => by
    obtain ⟨i, w, h1, h2, h3⟩ := ixW_rep R r ry q
    exact .inl (.inr (.inl ⟨p, vs, i, w, e, h1, h, h2, h3⟩))
  unfold oIx at q
  split at q
  · rename_i s0
    unfold ixS at q
    split at q
    · rename_i i
      obtain ⟨h1, q⟩ := postN q
      cases e : atI s0 i with
      | none => rw [e] at q; exact False.elim q
      | some c =>
        rw [e] at q
        have e2 : L2.atI (sof s0).cps.toList i = some c := by rw [sof_cps]; exact e
        exact .inl (.inr (.inr ⟨_, i, c, rep_str rx, rep_int ry, by rw [sof_len]; exact sizeL_le (of_decide_eq_true h1), e2, post_d R (.str [c]) q⟩))
    · exact False.elim q
  · cases rx with
    | d rx => cases rx with
      | lst h r => exact li rfl (.inl (.inl (R.ex _ _ h))) r.ws q
  · cases rx with
    | d rx => cases rx with
      | tup h r => exact ti rfl (.inl (.inl (R.ex _ _ h))) r.ws q
  · cases rx with
    | d rx => cases rx with
      | inp h r => exact li rfl (R.ex.seq h) r.ws q
  · cases rx with
    | d rx => cases rx with
      | inq h r => exact ti rfl (Same.sqt R.ex (sqq h)) r.ws q
  · cases rx with
    | d rx => exact .inr (ixM_rep R (.inl rx) ry q)
  · cases rx with
    | tw h r => exact ti rfl (.inl (.inl (R.ex _ _ h))) r q
  · cases rx with
    | loc ha =>
      obtain ⟨c, hc, hr⟩ := R.at_ ha
      rw [hc] at q
      cases c with
      | l xs =>
        obtain ⟨vs, h1, h2⟩ := hr
        exact li rfl (.inl (.inl h1)) h2.ws q
      | w xs =>
        obtain ⟨vs, h1, h2⟩ := hr
        exact li rfl (.inl (.inl h1)) h2 q
      | m t kv => exact .inr (ixM_rep R (.inr ⟨_, rfl, hr⟩) ry q)
      | mw t kv =>
        obtain ⟨x0, _, rx0, q⟩ := dat_key R ry q
        obtain ⟨hk, q⟩ := postN q
        obtain ⟨o, g, oo⟩ := dget_mw hr rx0 hk
        cases e : lookD kv x0 with
        | none => rw [e] at q; exact False.elim q
        | some w0 =>
          rw [e] at q oo
          cases o with
          | none => exact False.elim oo
          | some w1 => exact .inr ⟨_, w1, rfl, g, q _ _ _ _ (Le.refl _ _ _) R oo⟩
      | o _ _ => exact False.elim q
  · exact False.elim q
theorem kIx (c : Ctx k z) (ha : OkE z a ma) (hb : OkE z b mb) (hs : PlainIx b := by intro _ _; rfl) : OkE z (.Subscript a b pos) (e2 oIx ma mb) := ok_e (pe_ix (ix_seq.or (ix_dct (by have := c.hr.un; omega))) ha hb hs) (se_op so_ix sim_e sim_e)

/-! ### slices -/
theorem RepL.take' {K : PySem.W.Frag} {G : Hp} : ∀ {l : List D} {vs : List V} (n : Nat), RepL K G l vs → RepL K G (l.take n) (vs.take n)
  | _, _, 0, _ => .nil
  | _, _, _ + 1, .nil => .nil
  | _, _, n + 1, .cons h r => .cons h (RepL.take' n r)
theorem RepL.drop' {K : PySem.W.Frag} {G : Hp} : ∀ {l : List D} {vs : List V} (n : Nat), RepL K G l vs → RepL K G (l.drop n) (vs.drop n)
  | _, _, 0, r => r
  | _, _, _ + 1, .nil => .nil
  | _, _, n + 1, .cons _ r => RepL.drop' n r
theorem sIx_eq (n d : Nat) (i : Option Int) : sIx n d i = HT.sIx n d i := by cases i <;> rfl
theorem cut_eq {α : Type} (l : List α) (lo hi : Option Int) : cut l lo hi = (l.drop (HT.sIx l.length 0 lo)).take (HT.sIx l.length l.length hi - HT.sIx l.length 0 lo) := by
  unfold cut
  rw [sIx_eq, sIx_eq]
theorem cut_L {K : PySem.W.Frag} {G : Hp} {l : List D} {vs : List V} (r : RepL K G l vs) (lo hi : Option Int) : RepL K G (cut l lo hi) (cutV vs lo hi) := by
  rw [cut_eq, cutV, r.length]
  exact (r.drop' _).take' _
theorem cut_W {K : PySem.W.Frag} {ρ : List Addr} {G : Hp} {l : List W} {vs : List V} (r : RepWs K ρ G l vs) (lo hi : Option Int) : RepWs K ρ G (cut l lo hi) (cutV vs lo hi) := by
  rw [cut_eq, cutV, r.length]
  exact (r.drop _).take _
def rSlAll (K : PySem.W.Frag) : V → Option Int → Option Int → Hp → VK → Prop := fun x lo hi H Q => rSlL K x lo hi H Q ∨ rSlA K x lo hi H Q ∨ rSlS x lo hi H Q
theorem sl_all {X : Cx} : SlR X (rSlAll X.K) := sl_list.or (sl_tupA.or sl_str)
theorem whole_cut {α : Type} (l : List α) (lo hi : Option Int) (h : HT.sIx l.length 0 lo = 0 ∧ HT.sIx l.length l.length hi = l.length) : cut l lo hi = l := by
  rw [cut_eq, h.1, h.2]; simp
theorem so_slice {Wi : XK} {ρ : List Addr} {G H : Hp} {S : Sto} {x : W} {v : V} {Q : VK} (lo hi : Option Int) (R : Rel z.B ρ G S H) (rx : RepW z.X.K ρ G x v) (q : Post z.B Wi ρ G H (slice lo hi x S) Q) : rSlAll z.X.K v lo hi H Q := by
  have list : ∀ {l : List W} {vs : List V} {p : Addr}, v = .ref p → SqL z.X.K H p vs → RepWs z.X.K ρ G l vs → Post z.B Wi ρ G H ((ofO (asDs (cut l lo hi))).bind fun l => .ok (.d (.lst l), S)) Q → rSlAll z.X.K v lo hi H Q := fun {l vs p} e h r q => by
    cases e2 : asDs (cut l lo hi) with
    | none => rw [e2] at q; exact False.elim q
    | some ds =>
      rw [e2] at q
      refine .inl ⟨p, vs, e, h, fun t ht => ?_⟩
      obtain ⟨R2, l2⟩ := R.froz (.lst (cutV vs lo hi)) ht
      exact q _ _ _ _ l2 R2 (.d (.lst upd_same (((cut_W r lo hi).asDs e2).mono l2.ex)))
  unfold slice at q
  split at q
  · rename_i s0
    obtain ⟨h1, q⟩ := postN q
    refine .inr (.inr ⟨_, rep_str rx, by rw [sof_len]; exact sizeL_le (of_decide_eq_true h1), ?_⟩)
    have : cutS (sof s0) lo hi = sof (cut s0 lo hi) := by
      unfold cutS
      rw [cut_eq, sof_cps, sof_len]; rfl
    rw [this]
    exact post_d R (.str _) q
  · rename_i l
    cases rx with
    | d rx => cases rx with
      | tup h r =>
        rename_i a vs
        refine .inr (.inl ⟨_, vs, rfl, .inl (.inl (R.ex _ _ h)), fun w => ?_, fun _ p hp => ?_⟩)
        · rw [← r.length] at w
          rw [whole_cut l lo hi w] at q
          exact post_d R (.tup h r) q
        · obtain ⟨R2, l2⟩ := R.froz (.tup (cutV vs lo hi)) hp
          exact q _ _ _ _ l2 R2 (.d (.tup upd_same ((cut_L r lo hi).mono l2.ex)))
  · rename_i l
    cases rx with
    | d rx => cases rx with
      | inp h r =>
        rename_i a vs
        refine .inl ⟨a, vs, rfl, R.ex.seq h, fun t ht => ?_⟩
        obtain ⟨R2, l2⟩ := R.froz (.lst (cutV vs lo hi)) ht
        exact q _ _ _ _ l2 R2 (.d (.lst upd_same ((cut_L r lo hi).mono l2.ex)))
  · rcases lstOf_cases S x with ⟨l, e⟩ | e
    · rw [e, _root_.B.R.bind_ok] at q
      obtain ⟨p, vs, rfl, hs, r⟩ := lstOf_rep R e rx
      exact list rfl (.inl (.inl hs)) r q
    · rw [e] at q; exact False.elim q
/-! the ends of a slice -/
def SimO (B : Bx) (Wi : WX) (t : TO) (m : Option Ev) : Prop := ∀ ρ G S H env σ (Q : Option Int → Hp → Prop), Rel B ρ G S H → EnvR B ρ G env σ → (match pt m env S with
  | .ok (i, S') => ∀ ρ' G' H', Le ρ G H ρ' G' H' → Rel B ρ' G' S' H' → Q i H'
  | .ex x S' => ∀ ρ' G' H' c d, Le ρ G H ρ' G' H' → Rel B ρ' G' S' H' → RepX B G' x c d H' → Wi c d σ H'
  | .stuck => False) → t σ H Q
def OkO (z : Zx) (e : Option Expr) (m : Option Ev) : Prop := ∃ t, PO z.X e t ∧ SimO z.B z.Wi t m
theorem oNone : OkO z none none := ⟨_, po_none, fun ρ G S H env σ Q R E h => h _ _ _ (Le.refl _ _ _) R⟩
theorem oSome (ha : OkE z a ma) : OkO z (some a) (some ma) := ⟨_, po_some ha, fun ρ G S H env σ Q R E h => by
  refine sim_e ρ G S H env σ _ R E ?_
  simp only [pt] at h
  cases e : ma env S with
  | stuck => rw [e] at h; exact h
  | ex x S1 => rw [e] at h; exact h
  | ok p =>
    rw [e] at h
    intro ρ1 G1 H1 v l1 R1 r1
    rw [_root_.B.R.bind_ok] at h
    cases e2 : asI p.1 with
    | stuck => rw [e2] at h; exact False.elim h
    | ex x S1 => unfold asI at e2; split at e2 <;> cases e2
    | ok i =>
      rw [e2] at h
      unfold asI at e2
      split at e2
      · rename_i j e3
        cases e2
        rw [e3] at r1
        exact ⟨j, rep_int r1, h _ _ _ l1 R1⟩
      · cases e2⟩
theorem simO_ex {ρ : List Addr} {G H : Hp} {S : Sto} {env : Env} {σ : L2.St} {lo : Option Ev} {f : Option Int × Sto → VS} {Q : VK} {t : TO} {Wi : WX} {Q' : Option Int → Hp → Prop} (s : SimO z.B Wi t lo) (R : Rel z.B ρ G S H) (E : EnvR z.B ρ G env σ)
    (h : Post z.B (atS Wi σ) ρ G H ((pt lo env S).bind f) Q) (k : ∀ i S' ρ' G' H', Le ρ G H ρ' G' H' → Rel z.B ρ' G' S' H' → Post z.B (atS Wi σ) ρ' G' H' (f (i, S')) Q → Q' i H') : t σ H Q' := by
  refine s ρ G S H env σ Q' R E ?_
  cases e : pt lo env S with
  | stuck => rw [e] at h; exact h
  | ex x S1 => rw [e] at h; exact h
  | ok p => rw [e] at h; exact fun ρ1 G1 H1 l1 R1 => k p.1 p.2 ρ1 G1 H1 l1 R1 (post_le l1 h)
theorem kSl {lo hi : Option Expr} {ml mh : Option Ev} {p2 : Pos} (ha : OkE z a ma) (hl : OkO z lo ml) (hh : OkO z hi mh) : OkE z (.Subscript a (.Slice lo hi none p2) pos) (eSl ma ml mh) := by
  obtain ⟨tl, l1, l2⟩ := hl
  obtain ⟨th, h1, h2⟩ := hh
  refine ok_e (pe_slice sl_all ha l1 h1) ?_
  intro ρ G S H env σ Q R E h
  refine sim_e ρ G S H env σ _ R E (post_bind h fun w S1 ρ1 G1 H1 v le1 R1 r1 q1 => ?_)
  refine simO_ex l2 R1 (le1.env E) q1 fun i S2 ρ2 G2 H2 le2 R2 q2 => ?_
  refine simO_ex h2 R2 (le2.env (le1.env E)) q2 fun j S3 ρ3 G3 H3 le3 R3 q3 => ?_
  exact so_slice i j R3 (le3.w (le2.w r1)) q3
end
end B
/-! sorted of a tuple of ints -/
namespace PyProof.Rows
open PySem
section
variable {prog : Program} {w : World} {A : Around} {E : Value → Shared → Prop} {s : Shared}
end
end PyProof.Rows
namespace SrtO
open PySem PyProof.Rows Srt
section
variable {prog : Program} {w : World} {A : Around} {E : Value → Shared → Prop} {s : Shared}
end
end SrtO
namespace L2
open PySem PySem.Spec PyProof.Rows
end L2
namespace PySem.AutoSeq1
open PySem
open PySem.Sem (wp)
end PySem.AutoSeq1
namespace B
open PySem L2 PySem.Spec PyProof.Rows
section
variable {z : Zx} {k : Nat} {a b c e : Expr} {es : List Expr} {ma mb mc m : Ev} {ms : List Ev} {pos : Pos}
/-! ### argument lists, displays -/
theorem aNil : OkA z [] [] := ok_a pa_nil sa_nil
theorem aCons (he : OkE z e m) (hr : OkA z es ms) (hs : starEach (e :: es) z.X.env = (false, eval e z.X.env) :: starEach es z.X.env := by rfl) : OkA z (e :: es) (m :: ms) := ok_a (pa_cons he hr hs) (sa_cons sim_e sim_a)
theorem aOne (he : OkE z e m) (hs : starEach [e] z.X.env = (false, eval e z.X.env) :: starEach [] z.X.env := by rfl) : OkA z [e] [m] := aCons he aNil hs
theorem se_N {ta : TA} {r : List V → Hp → VK → Prop} {f : Fn} {Wi : WX} (hr : ∀ σ, SimN z.B (atS Wi σ) r f) (ha : SimA z.B Wi ta ms) : SimE z.B Wi (fun σ H Q => ta σ H fun vs H1 => r vs H1 Q) (eN f ms) := fun ρ G S H env σ Q R E h =>
  sa_run (f := f) ha R E h fun l S1 ρ1 G1 H1 vs l1 R1 r1 q => hr σ ρ1 G1 S1 H1 l vs Q R1 r1 q
theorem tupW_rep {ρ : List Addr} {G : Hp} {K : PySem.W.Frag} {l : List W} {vs : List V} {p : Addr} (h : G p = some (.tup vs)) (r : RepWs K ρ G l vs) : RepW K ρ G (tupW l) (.ref p) := by
  unfold tupW
  cases e : asDs l with
  | some ds => exact .d (.tup h (r.asDs e))
  | none => exact .tw h r
theorem sn_tup {Wi : XK} : SimN z.B Wi (fun vs H Q => vs.length ≤ sizeLine ∧ ∀ p, H p = none → Q (.ref p) (upd H p (.tup vs))) fTup := by
  intro ρ G S H l vs Q R r h
  obtain ⟨h1, h⟩ := postN h
  refine ⟨by rw [← r.length]; exact sizeL_le (of_decide_eq_true h1), fun p hp => ?_⟩
  obtain ⟨R2, l2⟩ := R.froz (.tup vs) hp
  exact h _ _ _ _ l2 R2 (tupW_rep upd_same (l2.ws r))
theorem kTup {x1 : Nat} (ha : OkA z es ms) : OkE z (.Tuple es x1 pos) (eN fTup ms) := ok_e (pe_tup ha) (se_N (fun _ => sn_tup) sim_a)
/-- a new list, data -/
theorem lst_new {Wi : XK} {ρ : List Addr} {G H : Hp} {S : Sto} {l : List W} {vs : List V} {p : Addr} {Q : VK} (R : Rel z.B ρ G S H) (r : RepWs z.X.K ρ G l vs) (h : Post z.B Wi ρ G H ((ofO (asDs l)).bind fun l => .ok (.d (.lst l), S)) Q) (hp : H p = none) : Q (.ref p) (upd H p (.lst vs)) := by
  cases e : asDs l with
  | none => rw [e] at h; exact False.elim h
  | some ds =>
    rw [e] at h
    obtain ⟨R2, l2⟩ := R.froz (.lst vs) hp
    exact h _ _ _ _ l2 R2 (.d (.lst upd_same ((r.asDs e).mono l2.ex)))
/-- a new list in the store -/
theorem lst_newC {Wi : XK} {ρ : List Addr} {G H : Hp} {S : Sto} {l : List W} {vs : List V} {p : Addr} {Q : VK} (R : Rel z.B ρ G S H) (r : RepWs z.X.K ρ G l vs) (h : Post z.B Wi ρ G H (newL l S) Q) (hp : H p = none) : Q (.ref p) (upd H p (.lst vs)) := by
  unfold newL at h
  cases e : asDs l with
  | none =>
    rw [e] at h
    obtain ⟨R2, l2⟩ := R.cellNew (o := .lst vs) (c := .w l) hp ⟨vs, upd_same, RepWs.mono ix_app (fun _ _ h => h) r⟩
    exact h _ _ _ _ l2 R2 (.loc (by rw [← R.len]; simp))
  | some ds =>
    rw [e] at h
    obtain ⟨R2, l2⟩ := R.cellNew (o := .lst vs) (c := .l ds) hp ⟨vs, upd_same, r.asDs e⟩
    exact h _ _ _ _ l2 R2 (.loc (by rw [← R.len]; simp))
theorem sn_lst {Wi : XK} : SimN z.B Wi (fun vs H Q => vs.length ≤ sizeLine ∧ ∀ p, H p = none → Q (.ref p) (upd H p (.lst vs))) fLst := by
  intro ρ G S H l vs Q R r h
  obtain ⟨h1, h⟩ := postN h
  exact ⟨by rw [← r.length]; exact sizeL_le (of_decide_eq_true h1), fun p hp => lst_new R r h hp⟩
theorem sn_lstC {Wi : XK} : SimN z.B Wi (fun vs H Q => vs.length ≤ sizeLine ∧ ∀ p, H p = none → Q (.ref p) (upd H p (.lst vs))) fLstC := by
  intro ρ G S H l vs Q R r h
  obtain ⟨h1, h⟩ := postN h
  exact ⟨by rw [← r.length]; exact sizeL_le (of_decide_eq_true h1), fun p hp => lst_newC R r h hp⟩
theorem kLst (ha : OkA z es ms) : OkE z (.List es pos) (eN fLst ms) := ok_e (pe_lst ha) (se_N (fun _ => sn_lst) sim_a)
theorem kLstC (ha : OkA z es ms) : OkE z (.List es pos) (eN fLstC ms) := ok_e (pe_lst ha) (se_N (fun _ => sn_lstC) sim_a)
theorem kDctK : OkE z (.Dict [] [] pos) (eDct false) := ok_e pe_dnewK fun ρ G S H env σ Q R E h p hp => by
  obtain ⟨R2, l2⟩ := R.cellNew (o := .dK []) (c := .m false []) hp ⟨[], upd_same, rfl, .nil⟩
  exact h _ _ _ _ l2 R2 (.loc (by rw [← R.len]; simp))
theorem kDctT : OkE z (.Dict [] [] pos) (eDct true) := ok_e pe_dnewT fun ρ G S H env σ Q R E h p hp => by
  obtain ⟨R2, l2⟩ := R.cellNew (o := .dT []) (c := .m true []) hp ⟨[], upd_same, rfl, .nil⟩
  exact h _ _ _ _ l2 R2 (.loc (by rw [← R.len]; simp))

/-! ### methods of lists -/
theorem isL_rep {ρ : List Addr} {G H : Hp} {S : Sto} {x : W} {v : V} (R : Rel z.B ρ G S H) (rx : RepW z.X.K ρ G x v) (h : isL x S = true) : tyV z.X.K "list" v H := by
  have go : ∀ {a : Addr} {vs : List V}, SqL z.X.K H a vs → tyV z.X.K "list" (.ref a) H := fun {a vs} q => Or.inl ⟨rfl, vs, q⟩
  unfold isL at h
  split at h
  · cases rx with
    | loc ha =>
      obtain ⟨c, hc, hr⟩ := R.at_ ha
      rw [hc] at h
      cases c with
      | l xs => obtain ⟨vs, g1, g2⟩ := hr; exact go (.inl (.inl g1))
      | w xs => obtain ⟨vs, g1, g2⟩ := hr; exact go (.inl (.inl g1))
      | _ => cases h
  · cases rx with
    | d rx => cases rx with
      | lst g1 g2 => exact go (.inl (.inl (R.ex _ _ g1)))
  · cases rx with
    | d rx => cases rx with
      | inp g1 g2 => exact go (R.ex.seq g1)
  · cases h
def SimM1 (B : Bx) (r : V → List V → Hp → VK → Prop) (f : W → W → Sto → VS) : Prop := ∀ Wi ρ G S H x y v u Q, Rel B ρ G S H → RepW B.K ρ G x v → RepW B.K ρ G y u → Post B Wi ρ G H (f x y S) Q → r v [u] H Q
theorem post_need {Wi : XK} {ρ : List Addr} {G H : Hp} {b : Bool} {r : VS} {Q : VK} (h : Post z.B Wi ρ G H (need b r) Q) : b = true ∧ Post z.B Wi ρ G H r Q := postN h
theorem se_m1 {T : String} {p : W → Sto → Bool} {r : V → List V → Hp → VK → Prop} {f : W → W → Sto → VS} (hp : ∀ {ρ G S H x v}, Rel z.B ρ G S H → RepW z.X.K ρ G x v → p x S = true → tyV z.X.K T v H) (hr : SimM1 z.B r f) : SimE z.B z.Wi (tBM z.X.K T r (tOf z.B z.Wi ma) (taOf z.B z.Wi [mb])) (m1 p f ma mb) := by
  intro ρ G S H env σ Q R E h
  refine sim_e ρ G S H env σ _ R E (post_bind h fun w S1 ρ1 G1 H1 v l1 R1 r1 h1 => ?_)
  obtain ⟨c1, h1⟩ := post_need h1
  refine ⟨hp R1 r1 c1, ?_⟩
  refine ⟨ρ1, G1, S1, env, R1, l1.env E, ?_⟩
  show PostA _ _ ρ1 G1 H1 ((mb env S1).bind fun p => (eAs [] env p.2).bind fun q => .ok (p.1 :: q.1, q.2)) _
  cases e1 : mb env S1 with
  | stuck => rw [e1] at h1; exact h1
  | ex x S2 => rw [e1] at h1; exact h1
  | ok p =>
    rw [e1] at h1
    intro ρ2 G2 H2 vs l2 R2 r2
    cases r2 with
    | cons ry rn =>
      cases rn
      exact hr _ ρ2 G2 p.2 H2 w p.1 v _ Q R2 (l2.w r1) ry (post_le l2 h1)
/-- a cell is changed -/
theorem cell_post {Wi : XK} {ρ : List Addr} {G H : Hp} {S : Sto} {n : Nat} {p : Addr} {o : HO} {c : C} {x : D} {v : V} {Q : VK} (R : Rel z.B ρ G S H) (hn : ρ[n]? = some p) (hc : CellR z.B ρ G (upd H p o) p c) (rx : Rep z.X.K G x v) (h : Post z.B Wi ρ G H (.ok (.d x, S.set n c)) Q) : Q v (upd H p o) := by
  obtain ⟨R2, l2⟩ := R.cellSet hn hc
  exact h _ _ _ _ l2 R2 (.d rx)
theorem cL {ρ : List Addr} {G H : Hp} {l : List D} {vs : List V} {p : Addr} (h : H p = some (.lst vs)) (r : RepL z.X.K G l vs) : CellR z.B ρ G H p (.l l) := ⟨vs, h, r⟩
theorem cW {ρ : List Addr} {G H : Hp} {l : List W} {vs : List V} {p : Addr} (h : H p = some (.lst vs)) (r : RepWs z.X.K ρ G l vs) : CellR z.B ρ G H p (.w l) := ⟨vs, h, r⟩
theorem wl_rep {ρ : List Addr} {G H : Hp} {l : List D} {vs : List V} {y : W} {u : V} {p : Addr} (r : RepL z.X.K G l vs) (ry : RepW z.X.K ρ G y u) : CellR z.B ρ G (upd H p (.lst (vs ++ [u]))) p (wl l y) := by
  unfold wl
  split
  · cases ry with
    | d ry => exact ⟨_, upd_same, r.append (.cons ry .nil)⟩
  · exact ⟨_, upd_same, (r.ws).append (.cons ry .nil)⟩
theorem sm_append : SimM1 z.B rAppend lAppend := by
  intro Wi ρ G S H x y v u Q R rx ry h
  unfold lAppend at h
  split at h
  · cases rx with
    | loc ha =>
      obtain ⟨c, hc, hr⟩ := R.at_ ha
      rw [hc] at h
      cases c with
      | l xs =>
        obtain ⟨vs, g1, g2⟩ := hr
        obtain ⟨c1, h⟩ := post_need h
        exact ⟨_, vs, u, rfl, rfl, g1, by rw [← g2.length]; exact sizeL_lt (of_decide_eq_true c1), cell_post R ha (wl_rep g2 ry) .non h⟩
      | w xs =>
        obtain ⟨vs, g1, g2⟩ := hr
        obtain ⟨c1, h⟩ := post_need h
        exact ⟨_, vs, u, rfl, rfl, g1, by rw [← g2.length]; exact sizeL_lt (of_decide_eq_true c1), cell_post R ha (cW upd_same (g2.append (.cons ry .nil))) .non h⟩
      | _ => exact False.elim h
  · exact False.elim h
variable {apos cpos : Pos}
theorem kAppend (ha : OkE z a ma) (hb : OkE z b mb) (hbase : attributeBase a "append" z.X.env (eval a z.X.env) = eval a z.X.env := by rfl) (hline : (apos.endLine == cpos.line) = true := by rfl)
    (hs : starEach [b] z.X.env = (false, eval b z.X.env) :: starEach [] z.X.env := by rfl) (hfew : ((backTo cpos (starEach [b] z.X.env)).all (fun x => !x.1) && (backToKw cpos (keywordEach [] z.X.env)).all (fun x => x.1.isSome) && decide ([b].length + ([] : List Keyword).length + (if ([] : List Keyword).isEmpty then 0 else 1) < 30)) = true := by rfl) :
    OkE z (.Call (.Attribute a "append" apos) [b] [] cpos) (m1 isL lAppend ma mb) := ok_e (pe_bm PySem.F.plainAttrs_list PySem.F.slot_list_append PySem.F.type_list_append mt_append ha (aOne hb hs) hbase hfew hline hs rfl) (se_m1 isL_rep sm_append)
end
end B
namespace B
open PySem L2 PySem.Spec PyProof.Rows
section
variable {z : Zx} {k : Nat} {a b c e : Expr} {es : List Expr} {ma mb mc m : Ev} {ms : List Ev} {pos p : Pos}
theorem kMul (ha : OkE z a ma) (hb : OkE z b mb) : OkE z (.BinOp a .Mult b pos) (e2 (d2 oMul) ma mb) := kOp op_mulAll so_mul ha hb
/-! ### bits -/
/-! ### built-ins -/
theorem kB1 {x : Str} {id : String} {r : List V → Hp → VK → Prop} {f : W → Sto → VS} (hc : CallR z.X (.builtin id) r) (hr : SimC1 z.B r f) (hv : bootBuiltins x = some (.builtin id)) (hg : Gl z.X x) (hm : z.X.mg x = none) (ha : OkE z a ma)
    (hn : x ≠ "__name__" := by decide) (hdb : (x == ("__debug__" : Str)) = false := by decide) (hs : starEach [a] z.X.env = (false, eval a z.X.env) :: starEach [] z.X.env := by rfl) : OkE z (.Call (.Name x p) [a] [] pos) (e1 f ma) :=
  ok_e (pe_callB hc hg hm hv (pa_cons ha pa_nil hs) hn hdb hs rfl) (se_cb1 hr sim_e)
theorem kT1 {x : Str} {T : String} {r : List V → Hp → VK → Prop} {f : W → Sto → VS} (hc : CallR z.X (.type T) r) (hr : SimC1 z.B r f) (hv : bootBuiltins x = some (.type T)) (hg : Gl z.X x) (hm : z.X.mg x = none) (ha : OkE z a ma)
    (hn : x ≠ "__name__" := by decide) (hdb : (x == ("__debug__" : Str)) = false := by decide) (hs : starEach [a] z.X.env = (false, eval a z.X.env) :: starEach [] z.X.env := by rfl) : OkE z (.Call (.Name x p) [a] [] pos) (e1 f ma) :=
  ok_e (pe_callTy hc hg hm hv (pa_cons ha pa_nil hs) hn hdb hs rfl) (se_cb1 hr sim_e)
/-! len -/
theorem sc_len : SimC1 z.B (fun xs H Q => ∃ x n, xs = [x] ∧ LenV z.X.K x H n ∧ Q (.int n) H) bLen := by
  intro Wi ρ G S H x v Q R rx h
  unfold bLen at h
  have seq : ∀ {l : List W} {vs : List V} {p : Addr}, v = .ref p → (SqL z.X.K H p vs ∨ SqT z.X.K H p vs) → RepWs z.X.K ρ G l vs → Post z.B Wi ρ G H (.ok (.d (.int l.length), S)) Q → ∃ x n, [v] = [x] ∧ LenV z.X.K x H n ∧ Q (.int n) H := fun {l vs p} e hq r q => by
    subst e
    refine ⟨_, vs.length, rfl, ?_, ?_⟩
    · rcases hq with hq | hq
      · exact .inl ⟨vs, hq, rfl⟩
      · exact .inr ⟨vs, hq, rfl⟩
    · rw [← r.length]; exact post_d R (.int _) q
  split at h
  · rename_i s0
    obtain ⟨h1, h⟩ := postN h
    have e : v = .str (sof s0) := rep_str rx
    subst e
    exact ⟨_, s0.length, rfl, ⟨by rw [sof_len]; exact sizeL_le (of_decide_eq_true h1), (sof_len _).symm⟩, post_d R (.int _) h⟩
  · cases rx with
    | loc ha =>
      obtain ⟨c, hc, hr⟩ := R.at_ ha
      rw [hc] at h
      cases c with
      | l xs =>
        obtain ⟨vs, g1, g2⟩ := hr
        have h' : Post z.B Wi ρ G H (.ok (.d (.int (ws xs).length), S)) Q := by rw [show (ws xs).length = xs.length from by simp [ws]]; exact h
        exact seq (l := ws xs) rfl (.inl (.inl (.inl g1))) g2.ws h'
      | w xs => obtain ⟨vs, g1, g2⟩ := hr; exact seq rfl (.inl (.inl (.inl g1))) g2 h
      | _ => exact False.elim h
  · rcases items_cases S x with ⟨l, e⟩ | e
    · rw [e] at h
      obtain ⟨p, vs, rfl, hs, r⟩ := items_rep R e rx
      exact seq rfl hs r h
    · rw [e] at h; exact False.elim h
theorem kLen (hg : Gl z.X "len") (hm : z.X.mg "len" = none) (ha : OkE z a ma) (hs : starEach [a] z.X.env = (false, eval a z.X.env) :: starEach [] z.X.env := by rfl) : OkE z (.Call (.Name "len" p) [a] [] pos) (e1 bLen ma) := kB1 call_len sc_len PySem.boot_len hg hm ha (hs := hs)
/-! tuple, list -/
theorem sc_tup : SimC1 z.B (fun xs H Q => ∃ p ys, xs = [.ref p] ∧ ((SqL z.X.K H p ys ∧ ∀ l, H l = none → Q (.ref l) (upd H l (.tup ys))) ∨ (SqT z.X.K H p ys ∧ Q (.ref p) H))) bTup := by
  intro Wi ρ G S H x v Q R rx h
  unfold bTup at h
  split at h
  · cases rx with
    | d rx => cases rx with
      | tup g1 g2 => exact ⟨_, _, rfl, .inr ⟨.inl (.inl (R.ex _ _ g1)), post_d R (.tup g1 g2) h⟩⟩
  · cases rx with
    | tw g1 g2 => exact ⟨_, _, rfl, .inr ⟨.inl (.inl (R.ex _ _ g1)), h _ _ _ _ (Le.refl _ _ _) R (.tw g1 g2)⟩⟩
  · cases rx with
    | d rx => cases rx with
      | inp g1 g2 =>
        refine ⟨_, _, rfl, .inl ⟨R.ex.seq g1, fun l hl => ?_⟩⟩
        obtain ⟨R2, l2⟩ := R.froz (.tup _) hl
        exact h _ _ _ _ l2 R2 (.d (.tup upd_same (g2.mono l2.ex)))
  · rcases lstOf_cases S x with ⟨l, e⟩ | e
    · rw [e] at h
      obtain ⟨p, vs, rfl, hs, r⟩ := lstOf_rep R e rx
      refine ⟨_, vs, rfl, .inl ⟨.inl (.inl hs), fun l hl => ?_⟩⟩
      obtain ⟨R2, l2⟩ := R.froz (.tup vs) hl
      exact h _ _ _ _ l2 R2 (tupW_rep upd_same (l2.ws r))
    · rw [e] at h; exact False.elim h
theorem kTuple (hg : Gl z.X "tuple") (hm : z.X.mg "tuple" = none) (ha : OkE z a ma) (hs : starEach [a] z.X.env = (false, eval a z.X.env) :: starEach [] z.X.env := by rfl) : OkE z (.Call (.Name "tuple" p) [a] [] pos) (e1 bTup ma) := kT1 call_tuple_of sc_tup boot_tuple hg hm ha (hs := hs)
def rLstOf (K : PySem.W.Frag) : List V → Hp → VK → Prop := fun xs H Q => ∃ p ys, xs = [.ref p] ∧ (SqL K H p ys ∨ SqT K H p ys) ∧ ∀ l, H l = none → Q (.ref l) (upd H l (.lst ys))
theorem sc_lst : SimC1 z.B (rLstOf z.X.K) bLst := by
  intro Wi ρ G S H x v Q R rx h
  unfold bLst at h
  rcases items_cases S x with ⟨l, e⟩ | e
  · rw [e] at h
    obtain ⟨p, vs, rfl, hs, r⟩ := items_rep R e rx
    exact ⟨p, vs, rfl, hs, fun l hl => lst_new R r h hl⟩
  · rw [e] at h; exact False.elim h
theorem kList (hg : Gl z.X "list") (hm : z.X.mg "list" = none) (ha : OkE z a ma) (hs : starEach [a] z.X.env = (false, eval a z.X.env) :: starEach [] z.X.env := by rfl) : OkE z (.Call (.Name "list" p) [a] [] pos) (e1 bLst ma) := kT1 call_list_of sc_lst boot_list hg hm ha (hs := hs)
/-! sum, any, sorted -/
theorem ints_int {K : PySem.W.Frag} {G : Hp} : ∀ ns : List Int, RepL K G (ns.map .int) (ns.map V.int)
  | [] => .nil
  | n :: r => .cons (.int n) (ints_int r)
/-! str, int -/
/-! isinstance -/
def tyS : Ty → String
  | .str => "str" | .int => "int" | .bool => "bool" | .tuple => "tuple" | .list => "list"
theorem kit_non {K : PySem.W.Frag} (t : Ty)  : PySem.W.kitOne K (.type "NoneType") (.type (tyS t)) = some (tyD t (.non)) := by cases t <;> first | exact kit_ty (r := true) (by decide +kernel) | exact kit_ty (r := false) (by decide +kernel)
theorem kit_bl {K : PySem.W.Frag} (t : Ty) (b : Bool) : PySem.W.kitOne K (.type "bool") (.type (tyS t)) = some (tyD t (.bl b)) := by cases t <;> first | exact kit_ty (r := true) (by decide +kernel) | exact kit_ty (r := false) (by decide +kernel)
theorem kit_int {K : PySem.W.Frag} (t : Ty) (b : Int) : PySem.W.kitOne K (.type "int") (.type (tyS t)) = some (tyD t (.int b)) := by cases t <;> first | exact kit_ty (r := true) (by decide +kernel) | exact kit_ty (r := false) (by decide +kernel)
theorem kit_str {K : PySem.W.Frag} (t : Ty) (b : List Nat) : PySem.W.kitOne K (.type "str") (.type (tyS t)) = some (tyD t (.str b)) := by cases t <;> first | exact kit_ty (r := true) (by decide +kernel) | exact kit_ty (r := false) (by decide +kernel)
theorem kit_tup {K : PySem.W.Frag} (t : Ty) (b : List D) : PySem.W.kitOne K (.type "tuple") (.type (tyS t)) = some (tyD t (.tup b)) := by cases t <;> first | exact kit_ty (r := true) (by decide +kernel) | exact kit_ty (r := false) (by decide +kernel)
theorem kit_lst {K : PySem.W.Frag} (t : Ty) (b : List D) : PySem.W.kitOne K (.type "list") (.type (tyS t)) = some (tyD t (.lst b)) := by cases t <;> first | exact kit_ty (r := true) (by decide +kernel) | exact kit_ty (r := false) (by decide +kernel)
theorem kit_inp {K : PySem.W.Frag} (t : Ty) (b : List D) : PySem.W.kitOne K (.type "list") (.type (tyS t)) = some (tyD t (.inp b)) := by cases t <;> first | exact kit_ty (r := true) (by decide +kernel) | exact kit_ty (r := false) (by decide +kernel)
theorem kit_inq {K : PySem.W.Frag} (t : Ty) (b : List D) : PySem.W.kitOne K (.type "tuple") (.type (tyS t)) = some (tyD t (.inq b)) := by cases t <;> first | exact kit_ty (r := true) (by decide +kernel) | exact kit_ty (r := false) (by decide +kernel)
theorem tyx_seqL {K : PySem.W.Frag} {H : Hp} {a : Addr} {vs : List V} (h : SqL K H a vs) : TyX K H (.ref a) (.type "list") := by
  rcases h with (h | ⟨o, h⟩) | ⟨o, its, n, hk, hc, _⟩
  · exact .base (.lst h)
  · exact .base (.frz h)
  · exact .kList hk hc
theorem tyx_seqT {K : PySem.W.Frag} {H : Hp} {a : Addr} {vs : List V} (h : SqT K H a vs) : TyX K H (.ref a) (.type "tuple") := by
  rcases h with (h | ⟨o, h⟩) | ⟨o, its, n, hk, hc, _⟩
  · exact .base (.tup h)
  · exact .fTuple h
  · exact .kTuple hk hc
theorem isI_rep {Wi : XK} {ρ : List Addr} {G H : Hp} {S : Sto} {x : W} {v : V} {Q : VK} (t : Ty) (R : Rel z.B ρ G S H) (rx : RepW z.X.K ρ G x v) (h : Post z.B Wi ρ G H (isI t x S) Q) : ∃ (u : Value) (b : Bool), TyX z.X.K H v u ∧ PySem.W.kitOne z.X.K u (.type (tyS t)) = some b ∧ Q (.bl b) H := by
  unfold isI at h
  split at h
  · obtain ⟨h1, h⟩ := postN h
    cases rx with
    | d rx =>
      cases rx with
      | non => exact ⟨_, _, .base .non, kit_non t, post_d R (.bl _) h⟩
      | bl b => exact ⟨_, _, .base (.bl b), kit_bl t b, post_d R (.bl _) h⟩
      | int b => exact ⟨_, _, .base (.int b), kit_int t b, post_d R (.bl _) h⟩
      | str b => exact ⟨_, _, .base (.str _), kit_str t b, post_d R (.bl _) h⟩
      | tup g1 g2 => exact ⟨_, _, tyx_seqT (.inl (.inl (R.ex _ _ g1))), kit_tup t _, post_d R (.bl _) h⟩
      | lst g1 g2 => exact ⟨_, _, tyx_seqL (.inl (.inl (R.ex _ _ g1))), kit_lst t _, post_d R (.bl _) h⟩
      | inp g1 g2 => exact ⟨_, _, tyx_seqL (R.ex.seq g1), kit_inp t _, post_d R (.bl _) h⟩
      | inq g1 g2 => exact ⟨_, _, tyx_seqT (Same.sqt R.ex (sqq g1)), kit_inq t _, post_d R (.bl _) h⟩
      | dk _ _ _ => cases h1
      | dt _ _ _ => cases h1
      | xo0 _ => cases h1
      | xo _ _ _ _ => cases h1
  · cases rx with
    | tw g1 g2 => exact ⟨_, _, tyx_seqT (.inl (.inl (R.ex _ _ g1))), (show PySem.W.kitOne z.X.K _ _ = some (isTt t) by have := kit_tup (K := z.X.K) t []; cases t <;> exact this), post_d R (.bl _) h⟩
  · cases rx with
    | loc ha =>
      obtain ⟨c, hc, hr⟩ := R.at_ ha
      rw [hc] at h
      cases c with
      | l xs => obtain ⟨vs, g1, g2⟩ := hr; exact ⟨_, _, tyx_seqL (.inl (.inl g1)), (show PySem.W.kitOne z.X.K _ _ = some (isLt t) by have := kit_lst (K := z.X.K) t []; cases t <;> exact this), post_d R (.bl _) h⟩
      | w xs => obtain ⟨vs, g1, g2⟩ := hr; exact ⟨_, _, tyx_seqL (.inl (.inl g1)), (show PySem.W.kitOne z.X.K _ _ = some (isLt t) by have := kit_lst (K := z.X.K) t []; cases t <;> exact this), post_d R (.bl _) h⟩
      | _ => exact False.elim h
theorem kIsI (t : Ty) {x : Str} {p2 : Pos} (hx : x = PySem.Str.ofString (tyS t) := by rfl) (hg : Gl z.X "isinstance") (hm : z.X.mg "isinstance" = none) (hg2 : Gl z.X x) (hm2 : z.X.mg x = none) (ha : OkE z a ma)
    (hs : starEach [a, .Name x p2] z.X.env = (false, eval a z.X.env) :: starEach [.Name x p2] z.X.env := by rfl) (hs2 : starEach [.Name x p2] z.X.env = (false, eval (.Name x p2) z.X.env) :: starEach [] z.X.env := by rfl)
    (hpl : (backTo pos (starEach [.Name x p2] z.X.env)).any (·.1) = false := by rfl) : OkE z (.Call (.Name "isinstance" p) [a, .Name x p2] [] pos) (e1 (isI t) ma) := by
  have ty : PE z.X (.Name x p2) (tC (.ty (tyS t))) := by
    subst hx
    cases t
    · exact pe_bltn hg2 hm2 boot_str rfl (by decide) (by decide)
    · exact pe_bltn hg2 hm2 boot_int rfl (by decide) (by decide)
    · exact pe_bltn hg2 hm2 boot_bool rfl (by decide) (by decide)
    · exact pe_bltn hg2 hm2 boot_tuple rfl (by decide) (by decide)
    · exact pe_bltn hg2 hm2 boot_list rfl (by decide) (by decide)
  refine ok_e (pe_callB call_isi hg hm boot_isinstance (pa_cons ha (pa_cons ty pa_nil hs2) hs) (by decide) (by decide) hs hpl) ?_
  intro ρ G S H env σ Q R E h
  refine sim_e ρ G S H env σ _ R E (post_bind h fun w S1 ρ1 G1 H1 v l1 R1 r1 h1 => ?_)
  obtain ⟨u, b, t1, t2, q⟩ := isI_rep t R1 r1 h1
  exact ⟨v, _, u, _, b, rfl, .ty _, t1, t2, q⟩
/-! tuple(range(n)), list(range(n)) -/
end
end B
namespace B
open PySem L2
section
variable {z : Zx} {k : Nat} {a b c e : Expr} {es : List Expr} {ma mb mc m : Ev} {ms : List Ev} {pos p : Pos} {ta tb tc : Tx} {st : Stmt} {sts rest : List Stmt} {s1 s2 : Sx} {tg : Expr} {mg : Tg}
/-! ### targets -/
theorem gNameOk (ctx : Ctx k z) (i : Nat) {x : Str} (hi : z.X.N[i]? = some x) (hx : Loc z.X.env.scope x) (hf : z.X.fn x = true ∨ z.X.env.scope.names.lookup x = some .local) (pos : Pos) (hp : PinFree z.B i := by exact pin_none rfl) : OkG z (.Name x pos) (gN i) := ok_g (pg_name ctx.nd hi hx hf) (sg_name hp) quiet_N
theorem gsNil : OkGs z [] [] := ⟨⟨fun pins s σ H vs us Q I r h => by
  obtain ⟨ρ, G, S, env, l, R, E, rr, q⟩ := h
  exact pgs_nil.run pins s σ H vs us Q I r (sg_nil ρ G S H env σ l vs Q R E rr q)⟩, fun _ h => nomatch h⟩
theorem gsCons {ts : List Expr} {ms : List Tg} (h1 : OkG z tg mg) (h2 : OkGs z ts ms) (hs : (assignEach (tg :: ts) z.X.env).map (·.2) = assign tg z.X.env :: (assignEach ts z.X.env).map (·.2) := by rfl) : OkGs z (tg :: ts) (mg :: ms) := by
  refine ⟨⟨fun pins s σ H vs us Q I r h => ?_⟩, fun g hg => ?_⟩
  · obtain ⟨ρ, G, S, env, l, R, E, rr, q⟩ := h
    exact (pgs_cons h1.1 h2.1 hs).run pins s σ H vs us Q I r (sg_cons sim_g sim_gs ρ G S H env σ l vs Q R E rr q)
  · rcases List.mem_cons.mp hg with e | e
    · rw [e]; exact h1.2
    · exact h2.2 g e
theorem gTupOk (ctx : Ctx k z) {ts : List Expr} {ms : List Tg} {j : Nat} (h : OkGs z ts ms) (hn : (assignEach ts z.X.env).length = ms.length := by rfl) (hst : (assignEach ts z.X.env).findIdx? (·.1) = none := by rfl) : OkG z (.Tuple ts j pos) (gT ms) :=
  ok_g (pg_tup ctx.calm h.1 hn hst) (sg_tup rfl sim_gs) (quiet_T h.2)
/-! a store to o[i] -/
theorem qt_ex {α : Type} {r : R α} {x : Exc} {s : Sto} : qt r ≠ .ex x s := by
  unfold qt; intro h
  split at h
  · cases h
  · rename_i q; exact q _ _ h
theorem key_cell {B : Bx} {ρ : List Addr} {G H : Hp} {S : Sto} {t : Bool} {x : D} {u : V} (R : Rel B ρ G S H) (rx : Rep B.K H x u) (hk : keyOk t x = true) {α : Type} {P : α → V → Prop} {l : List (D × α)} {y : α} {v : V} (hy : P y v) {a : Addr} :
    (t = false → ∀ kv, H a = some (.dK kv) → l.map (fun p => keyK p.1) = kv.map (fun p => some p.1) → Al P (l.map (·.2)) (kv.map (·.2)) → kv.length < sizeLine → ∃ kv', DPut H a u v (upd H a (.dK kv')) ∧ (putD l x y).map (fun p => keyK p.1) = kv'.map (fun p => some p.1) ∧ Al P ((putD l x y).map (·.2)) (kv'.map (·.2))) ∧
    (t = true → ∀ kv, H a = some (.dT kv) → l.map (fun p => keyT p.1) = kv.map (fun p => some p.1) → Al P (l.map (·.2)) (kv.map (·.2)) → kv.length < sizeLine → ∃ kv', DPut H a u v (upd H a (.dT kv')) ∧ (putD l x y).map (fun p => keyT p.1) = kv'.map (fun p => some p.1) ∧ Al P ((putD l x y).map (·.2)) (kv'.map (·.2))) := by
  refine ⟨fun e kv h1 h2 h3 h4 => ?_, fun e kv h1 h2 h3 h4 => ?_⟩
  · subst e
    obtain ⟨j, hj⟩ := keyOk_f hk
    obtain ⟨q1, q2⟩ := put_rel keyK (fun _ _ _ _ => keyK_eqv) hj hy l kv h2 h3
    exact ⟨putK kv j v, .inl ⟨kv, j, h1, kV_of rx hj, h4, rfl⟩, q1, q2⟩
  · subst e
    obtain ⟨j, hj⟩ := keyOk_t hk
    cases x <;> simp only [keyT, reduceCtorEq] at hj
    cases rx with
    | tup q1 r1 =>
      rw [kVs_of r1 hj] at q1
      obtain ⟨p1, p2⟩ := put_rel keyT (fun _ _ _ _ => keyT_eqv) (x := .tup _) hj hy l kv h2 h3
      exact ⟨putK kv j v, .inr ⟨kv, j, _, h1, rfl, q1, h4, rfl⟩, p1, p2⟩
theorem map_len {α β γ : Type} {f : α → Option γ} {g : β → Option γ} {l : List α} {m : List β} (h : l.map f = m.map g) : l.length = m.length := by
  have := congrArg List.length h
  simpa using this
theorem mapD_k (l : List (D × D)) (f : D → Option Key) : (mapD l).map (fun p => f p.1) = l.map (fun p => f p.1) := by simp [mapD, Function.comp_def]
theorem mapD_t (l : List (D × D)) (f : D → Option (List Key)) : (mapD l).map (fun p => f p.1) = l.map (fun p => f p.1) := by simp [mapD, Function.comp_def]
theorem mapD_v (l : List (D × D)) : (mapD l).map (·.2) = ws (l.map (·.2)) := by simp [mapD, ws, Function.comp_def]
def rSetAny : TSet := fun o i v H Q => rSetL o i v H Q ∨ rSetD o i v H Q
theorem set_any {X : Cx} (hu : X.A.units + 1 < cLine) : PSet X rSetAny := by
  intro pins s σ H o i v ov iv u Q I ro ri rv h
  rcases h with h | h
  · exact set_list pins s σ H o i v ov iv u Q I ro ri rv h
  · exact set_dict hu pins s σ H o i v ov iv u Q I ro ri rv h
theorem set_L {K : PySem.W.Frag} {G : Hp} {x : D} {v : V} (h : Rep K G x v) : ∀ {l : List D} {vs : List V} (i : Nat), RepL K G l vs → RepL K G (l.set i x) (vs.set i v)
  | _, _, _, .nil => .nil
  | _, _, 0, .cons _ r => .cons h r
  | _, _, i + 1, .cons q r => .cons q (set_L h i r)
def PostC (B : Bx) (ρ : List Addr) (G H : Hp) (r : R Sto) (Q : Hp → Prop) : Prop := match r with
  | .ok S' => ∀ ρ' G' H', Le ρ G H ρ' G' H' → Rel B ρ' G' S' H' → Q H'
  | _ => False
theorem sset {ρ : List Addr} {G H : Hp} {S : Sto} {o i v : W} {ov iv vv : V} {Q : Hp → Prop} (R : Rel z.B ρ G S H) (ro : RepW z.X.K ρ G o ov) (ri : RepW z.X.K ρ G i iv) (rv : RepW z.X.K ρ G v vv) (h : PostC z.B ρ G H (setAny o i v S) Q) : rSetAny ov iv vv H Q := by
  unfold setAny at h
  split at h
  · rename_i n
    cases ro with
    | loc ha =>
      obtain ⟨c, hc, hr⟩ := R.at_ ha
      have fin : ∀ {o : HO} {c : C}, CellR z.B ρ G (upd H _ o) _ c → PostC z.B ρ G H (.ok (S.set n c)) Q → Q (upd H _ o) := fun {o c} q hh => by
        obtain ⟨R2, l2⟩ := R.cellSet ha q
        exact hh _ _ _ l2 R2
      rw [hc] at h
      cases c with
      | l xs =>
        obtain ⟨vs, g1, g2⟩ := hr
        simp only at h
        split at h
        · rename_i j
          cases e : ixN xs.length j with
          | none => rw [e] at h; exact False.elim h
          | some q =>
            rw [e, ofO_some, _root_.B.R.bind_ok] at h
            refine .inl ⟨_, vs, j, q, rfl, rep_int ri, g1, by rw [← g2.length]; exact e, fin ?_ h⟩
            split
            · cases rv with
              | d rv => exact cL upd_same (set_L rv q g2)
            · exact cW upd_same (RepWs.set rv q g2.ws)
        · exact False.elim h
      | w xs =>
        obtain ⟨vs, g1, g2⟩ := hr
        simp only at h
        split at h
        · rename_i j
          cases e : ixN xs.length j with
          | none => rw [e] at h; exact False.elim h
          | some q =>
            rw [e, ofO_some, _root_.B.R.bind_ok] at h
            exact .inl ⟨_, vs, j, q, rfl, rep_int ri, g1, by rw [← g2.length]; exact e, fin (cW upd_same (RepWs.set rv q g2)) h⟩
        · exact False.elim h
      | m t l =>
        simp only at h
        rcases dat_cases S i with ⟨x, e⟩ | e
        · rw [e, _root_.B.R.bind_ok] at h
          have rx := dat_rep R e ri
          cases e2 : keyOk t x && decide (l.length < sizeL) with
          | false => rw [e2] at h; exact False.elim h
          | true =>
            rw [e2, need_true] at h
            rw [Bool.and_eq_true] at e2
            have hsz := of_decide_eq_true e2.2
            split at h
            · rename_i y
              cases rv with
              | d rv =>
                cases t with
                | false =>
                  obtain ⟨kv, h1, h2, h3⟩ := hr
                  obtain ⟨kv', q1, q2, q3⟩ := (key_cell R rx e2.1 rv (l := l)).1 rfl kv h1 h2 h3.al (by rw [← map_len h2]; exact sizeL_lt hsz)
                  exact .inr ⟨_, _, rfl, q1, fin (show CellR z.B ρ G _ _ (.m false (putD l x y)) from ⟨kv', upd_same, q2, .of_al q3⟩) h⟩
                | true =>
                  obtain ⟨kv, h1, h2, h3⟩ := hr
                  obtain ⟨kv', q1, q2, q3⟩ := (key_cell R rx e2.1 rv (l := l)).2 rfl kv h1 h2 h3.al (by rw [← map_len h2]; exact sizeL_lt hsz)
                  exact .inr ⟨_, _, rfl, q1, fin (show CellR z.B ρ G _ _ (.m true (putD l x y)) from ⟨kv', upd_same, q2, .of_al q3⟩) h⟩
            · cases t with
              | false =>
                obtain ⟨kv, h1, h2, h3⟩ := hr
                obtain ⟨kv', q1, q2, q3⟩ := (key_cell R rx e2.1 rv (l := mapD l)).1 rfl kv h1 (by rw [mapD_k]; exact h2) (by rw [mapD_v]; exact (RepL.ws h3).al) (by rw [← map_len h2]; exact sizeL_lt hsz)
                exact .inr ⟨_, _, rfl, q1, fin (show CellR z.B ρ G _ _ (.mw false (putD (mapD l) x v)) from ⟨kv', upd_same, q2, .of_al q3⟩) h⟩
              | true =>
                obtain ⟨kv, h1, h2, h3⟩ := hr
                obtain ⟨kv', q1, q2, q3⟩ := (key_cell R rx e2.1 rv (l := mapD l)).2 rfl kv h1 (by rw [mapD_t]; exact h2) (by rw [mapD_v]; exact (RepL.ws h3).al) (by rw [← map_len h2]; exact sizeL_lt hsz)
                exact .inr ⟨_, _, rfl, q1, fin (show CellR z.B ρ G _ _ (.mw true (putD (mapD l) x v)) from ⟨kv', upd_same, q2, .of_al q3⟩) h⟩
        · rw [e] at h; exact False.elim h
      | mw t l =>
        simp only at h
        rcases dat_cases S i with ⟨x, e⟩ | e
        · rw [e, _root_.B.R.bind_ok] at h
          have rx := dat_rep R e ri
          cases e2 : keyOk t x && decide (l.length < sizeL) with
          | false => rw [e2] at h; exact False.elim h
          | true =>
            rw [e2, need_true] at h
            rw [Bool.and_eq_true] at e2
            have hsz := of_decide_eq_true e2.2
            cases t with
            | false =>
              obtain ⟨kv, h1, h2, h3⟩ := hr
              obtain ⟨kv', q1, q2, q3⟩ := (key_cell R rx e2.1 rv (l := l)).1 rfl kv h1 h2 h3.al (by rw [← map_len h2]; exact sizeL_lt hsz)
              exact .inr ⟨_, _, rfl, q1, fin (show CellR z.B ρ G _ _ (.mw false (putD l x v)) from ⟨kv', upd_same, q2, .of_al q3⟩) h⟩
            | true =>
              obtain ⟨kv, h1, h2, h3⟩ := hr
              obtain ⟨kv', q1, q2, q3⟩ := (key_cell R rx e2.1 rv (l := l)).2 rfl kv h1 h2 h3.al (by rw [← map_len h2]; exact sizeL_lt hsz)
              exact .inr ⟨_, _, rfl, q1, fin (show CellR z.B ρ G _ _ (.mw true (putD l x v)) from ⟨kv', upd_same, q2, .of_al q3⟩) h⟩
        · rw [e] at h; exact False.elim h
      | o _ _ => exact False.elim h
  · exact False.elim h
theorem quiet_Sb {o i : Ev} : Quiet (gSb o i) := fun w e s x S => qt_ex
theorem sg_sub {to ti : TE} {mo mi : Ev} (ho : SimE z.B z.Wi to mo) (hi : SimE z.B z.Wi ti mi) : SimG z.B (gSub to ti rSetAny) (gSb mo mi) := by
  intro ρ G S H env σ w v Q R E r h
  unfold gSb PostG at h
  refine ho ρ G S H env σ _ R E ?_
  cases e1 : mo env S with
  | stuck => rw [e1] at h; exact False.elim h
  | ex x S1 => rw [e1] at h; exact False.elim h
  | ok p =>
    rw [e1, _root_.B.R.bind_ok] at h
    intro ρ1 G1 H1 o l1 R1 r1
    refine hi ρ1 G1 p.2 H1 env σ _ R1 (l1.env E) ?_
    cases e2 : mi env p.2 with
    | stuck => rw [e2] at h; exact False.elim h
    | ex x S1 => rw [e2] at h; exact False.elim h
    | ok q =>
      rw [e2, _root_.B.R.bind_ok] at h
      intro ρ2 G2 H2 i l2 R2 r2
      refine sset R2 (l2.w r1) r2 (l2.w (l1.w r)) ?_
      cases e3 : setAny p.1 q.1 w q.2 with
      | stuck => rw [e3] at h; exact False.elim h
      | ex x S1 => rw [e3] at h; exact False.elim h
      | ok S3 =>
        rw [e3] at h
        exact fun ρ3 G3 H3 l3 R3 => h ρ3 G3 H3 σ ((l1.trans l2).trans l3) R3 ((l1.trans (l2.trans l3)).env E)
theorem gSubOk (ctx : Ctx k z) (ha : OkE z a ma) (hb : OkE z b mb) (h : ∀ v, assign (.Subscript a b pos) z.X.env v = (do
      let ov ← holding [v] (eval a z.X.env)
      let iv ← holding [v, ov] (eval b z.X.env)
      standAt pos
      holding [v, ov, iv] (setItem ov iv v)
      release [v, ov, iv] []) := by intro _; rfl) : OkG z (.Subscript a b pos) (gSb ma mb) :=
  ok_g (pg_sub ha hb (set_any (by have := ctx.hr.un; omega)) h) (sg_sub sim_e sim_e) quiet_Sb

/-! ### statements -/
theorem ssNil : OkSs z [] sSkip := ok_ss pss_nil ss_skip
theorem ssOne (h : OkS z st s1) : OkSs z [st] s1 := ok_ss (pss_one h) sim_s
theorem ssCons (h1 : OkS z st s1) (h2 : OkSs z rest s2) : OkSs z (st :: rest) (sSeq s1 s2) := ok_ss (pss_cons h1 h2) (ss_seq sim_s sim_s)
theorem sAsgOk (he : OkE z e m) (hg : OkG z tg mg) (hs : swapsWithSole [tg] e pos.line z.X.env = pure false := by rfl) (hw : swappedStores [tg] e z.X.env = pure none := by rfl) (ha : (assignEach [tg] z.X.env).map (·.2) = [assign tg z.X.env] := by rfl) : OkS z (.Assign [tg] e pos) (sAsg mg m) := ok_s (ps_asg he hg.1 hs hw ha) (ss_asg hg.2 sim_e sim_g)
theorem sSetOk (ctx : Ctx k z) (i : Nat) {x : Str} {pos' : Pos} (he : OkE z e m) (hi : z.X.N[i]? = some x) (hx : Loc z.X.env.scope x) (hf : z.X.fn x = true ∨ z.X.env.scope.names.lookup x = some .local) (hs : swapsWith e (some (.Name x pos')) pos.line z.X.env = pure false := by rfl) (hp : PinFree z.B i := by exact pin_none rfl) : OkS z (.Assign [.Name x pos'] e pos) (sAsg (gN i) m) := ok_s (ps_set ctx.nd hi hx he hs hf) (ss_set hp sim_e)
theorem sXOk (he : OkE z e m) (hs : swapsWith e none pos.line z.X.env = pure false := by rfl) : OkS z (.Expr e pos) (sX m) := ok_s (ps_expr he hs) (ss_x sim_e)
theorem sRetOk (he : OkE z e m) : OkS z (.Return (some e) pos) (sRet m) := ok_s (ps_ret he) (ss_ret sim_e)
theorem sRetNOk : OkS z (.Return none pos) sRetN := ok_s ps_retN ss_retN
theorem sIfOk {c : Expr} {x y : List Stmt} (hc : OkT z c tc) (h1 : OkSs z x s1) (h2 : OkSs z y s2) : OkS z (.If c x y pos) (sIf tc s1 s2) := ok_s (ps_if hc h1 h2) (ss_if sim_t sim_s sim_s)
theorem sWhileOk (ctx : Ctx k z) {c : Expr} {x : List Stmt} (hc : OkT z c tc) (h1 : OkSs z x s1) : OkS z (.While c x [] pos) (sWhl tc s1) := ok_s (ps_while ctx.po hc h1) (ss_whl sim_t sim_s)
theorem sForOk (ctx : Ctx k z) {it : Expr} {x : List Stmt} {mi : Wk} (hi : OkI z tg it mi) (hg : OkG z tg mg) (h1 : OkSs z x s1) (hs : ∀ x, foldedSetIterable it z.X.env x = pure x := by intro _; rfl) : OkS z (.For tg it x [] pos) (sFor mi mg s1) := ok_s (ps_for ctx.po ctx.calm hi hg.1 h1 hs) (ss_for sim_i hg.2 sim_g sim_s)
/-- the body forgets the names ks at its end, and what it made -/
theorem ssKill (ks : List Nat) (h : OkSs z sts s1) : OkSs z sts (sKill ks s1) := ok_ss h (ss_kill ks sim_s)
/-! x += e -/
theorem ss_aug {te : TE} {i : Nat} {f : Int → Int → Int} {Wi : WX} (hp : PinFree z.B i) (he : SimE z.B Wi te m) : SimS z.B Wi (tAug i te (ipI f)) (sAsg (gN i) (e2 (d2 (I2 fun a b => .ok (.int (f a b)))) (eV i) m)) := by
  intro ρ G S H env σ D R E h
  have h' : PostS z.B Wi ρ G H (((eV i env S).bind fun p => (m env p.2).bind fun q => d2 (I2 fun a b => .ok (.int (f a b))) p.1 q.1 q.2).bd env fun p => (gN i p.1 env p.2).bd env fun q => .ok (.nx q.1 q.2)) D := h
  unfold eV at h'
  split at h'
  · rename_i w ew
    obtain ⟨x, h1, h2⟩ := E.2.1 i w ew
    refine ⟨x, h1, he ρ G S H env σ _ R E ?_⟩
    rw [_root_.B.R.bind_ok] at h'
    cases e1 : m env S with
    | stuck => rw [e1] at h'; exact h'
    | ex y S1 => rw [e1] at h'; exact fun ρ' G' H' c d l r q => h' ρ' G' H' σ c d l r (l.env E) q
    | ok p =>
      rw [e1] at h'
      intro ρ1 G1 H1 y l1 R1 r1
      rw [_root_.B.R.bind_ok] at h'
      have h3 : PostS z.B Wi ρ G H (((dat p.2 w).bind fun a => (dat p.2 p.1).bind fun b => (I2 (fun a b => .ok (.int (f a b))) a b).bind fun r => .ok (.d r, p.2)).bd env fun p => (gN i p.1 env p.2).bd env fun q => .ok (.nx q.1 q.2)) D := h'
      rcases dat_cases p.2 w with ⟨d1, ed1⟩ | ed1
      · rcases dat_cases p.2 p.1 with ⟨d2, ed2⟩ | ed2
        · rw [ed1, _root_.B.R.bind_ok, ed2, _root_.B.R.bind_ok] at h3
          have q1 := dat_rep R1 ed1 (l1.w h2)
          have q2 := dat_rep R1 ed2 r1
          cases e3 : I2 (fun a b => _root_.B.R.ok (_root_.B.D.int (f a b))) d1 d2 with
          | stuck => rw [e3] at h3; exact False.elim h3
          | ex a b => exact absurd e3 (I2_ex (fun _ _ _ _ h => by cases h) _ _ _ _)
          | ok c =>
            rw [e3] at h3
            obtain ⟨a, b, rfl, rfl, e4⟩ := I2_ok e3
            cases e4
            cases q1; cases q2
            exact ⟨a, b, rfl, rfl, h3 _ _ _ _ l1 R1 (envSet hp (l1.env E) (.d (.int _)))⟩
        · rw [ed1, _root_.B.R.bind_ok, ed2] at h3; exact False.elim h3
      · rw [ed1] at h3; exact False.elim h3
  · exact False.elim h'
theorem sAddOk (ctx : Ctx k z) (i : Nat) {x : Str} {pos' : Pos} (he : OkE z e m) (hi : z.X.N[i]? = some x) (hx : Loc z.X.env.scope x) (hf : z.X.fn x = true ∨ z.X.env.scope.names.lookup x = some .local) (hp : PinFree z.B i := by exact pin_none rfl) : OkS z (.AugAssign (.Name x pos') .Add e pos) (sAsg (gN i) (e2 (d2 oAddI) (eV i) m)) := ok_s (ps_aug ctx.nd hi hx he ip_add hf) (ss_aug hp sim_e)

/-! ### what is walked -/
theorem ok_i {tg it : Expr} {wi : TI} {mi : Wk} (h : PI z.X tg it wi) (s : SimI z.B z.Wi wi mi) : OkI z tg it mi := ⟨fun pins st σ H R I ⟨ρ, G, S, env, RR, E, q⟩ => h.run pins st σ H R I (s ρ G S H env σ R RR E q)⟩
theorem iSeqOk {tg : Expr} (ha : OkE z a ma) : OkI z tg a (iSeq ma) := ok_i (pi_seq ha) (si_seq sim_e)
theorem iR1Ok {tg : Expr} (hg : Gl z.X "range") (hm : z.X.mg "range" = none) (ha : OkE z a ma) (hs : starEach [a] z.X.env = [(false, eval a z.X.env)] := by rfl) : OkI z tg (.Call (.Name "range" p) [a] [] pos) (iR1 ma) := ok_i (pi_range1 hg hm (pa_cons ha pa_nil hs) hs) (si_r1 sim_e)
end
end B
namespace B
open PySem L2
/-! ### list comprehensions -/
section
variable {z : Zx} {k : Nat} {B : Bx} {Wi : WX}
theorem wipe_get {σ : St} : ∀ (vs : List Nat) (j : Nat), j ∉ vs → (wipe σ vs)[j]? = σ[j]?
  | [], _, _ => rfl
  | v :: vs, j, h => by
    unfold wipe
    rw [List.getElem?_set_ne (fun e => h (by rw [e]; exact List.mem_cons_self))]
    exact wipe_get vs j fun hm => h (List.mem_cons_of_mem _ hm)
theorem kill_get : ∀ (ks : List Nat) (env : Env) (j : Nat) (w : W), (kill ks env)[j]? = some (some w) → j ∉ ks ∧ env[j]? = some (some w)
  | [], _, _, _, h => ⟨by simp, h⟩
  | i :: r, env, j, w, h => by
    obtain ⟨h1, h2⟩ := kill_get r (env.set i none) j w h
    by_cases hj : i = j
    · subst hj
      obtain ⟨h3, _⟩ := List.getElem?_eq_some_iff.mp h2
      rw [List.getElem?_set_self (by simpa using h3)] at h2
      cases h2
    · rw [List.getElem?_set_ne hj] at h2
      exact ⟨by simp [h1]; exact fun e => hj e.symm, h2⟩
theorem kill_len : ∀ (ks : List Nat) (env : Env), (kill ks env).length = env.length
  | [], _ => rfl
  | i :: r, env => by
    show (kill r (env.set i none)).length = _
    rw [kill_len r]; simp
theorem envWipe {ρ : List Addr} {G : Hp} {env : Env} {σ : St} (E : EnvR B ρ G env σ) (vs : List Nat) (hp : ∀ i ∈ vs, PinFree B i) : EnvR B ρ G (kill vs env) (wipe σ vs) := by
  refine ⟨by rw [kill_len, wipe_length]; exact E.1, fun j w h => ?_, fun p q => ⟨by rw [wipe_get vs p.1 (fun hm => hp _ hm p q rfl)]; exact (E.2.2 p q).1, (E.2.2 p q).2⟩⟩
  obtain ⟨h1, h2⟩ := kill_get vs env j w h
  obtain ⟨v, e1, e2⟩ := E.2.1 j w h2
  exact ⟨v, by rw [wipe_get vs j h1]; exact e1, e2⟩
/-- a target of a comprehension: it stores the comprehension's own names alone -/
def SimGw (B : Bx) (vs : List Nat) (g : TG) (m : Tg) : Prop := (∀ w e s, (∃ e', m w e s = .ok (e', s)) ∨ m w e s = .stuck) ∧
  ∀ ρ G S H env σ w v (Q : St → Hp → Prop) env', Rel B ρ G S H → EnvR B ρ G env σ → RepW B.K ρ G w v → m w env S = .ok (env', S) → (∀ σ', EnvR B ρ G env' σ' → wipe σ' vs = wipe σ vs → Q σ' H) → g v σ H Q
theorem wipe_set {σ : St} {o : Option V} : ∀ (vs : List Nat) (i : Nat), i ∈ vs → wipe (σ.set i o) vs = wipe σ vs
  | [], _, h => nomatch h
  | v :: vs, i, h => by
    unfold wipe
    by_cases hi : i ∈ vs
    · rw [wipe_set vs i hi]
    · have hv : i = v := by
        rcases List.mem_cons.mp h with e | e
        · exact e
        · exact absurd e hi
      subst hv
      apply List.ext_getElem?
      intro j
      by_cases hj : i = j
      · subst hj
        by_cases hl : i < σ.length
        · rw [List.getElem?_set_self (by rw [wipe_length]; simpa using hl), List.getElem?_set_self (by rw [wipe_length]; exact hl)]
        · rw [List.getElem?_eq_none (by simp [wipe_length]; omega), List.getElem?_eq_none (by simp [wipe_length]; omega)]
      · rw [List.getElem?_set_ne hj, List.getElem?_set_ne hj]
        by_cases hm : j ∈ vs
        · -- both none or absent
          have go : ∀ (τ : St) (ks : List Nat), j ∈ ks → (wipe τ ks)[j]? = if j < τ.length then some none else none := fun τ ks => by
            induction ks with
            | nil => intro h; cases h
            | cons a ks ih =>
              intro h
              unfold wipe
              by_cases ha : a = j
              · subst ha
                by_cases hl : a < τ.length
                · rw [List.getElem?_set_self (by rw [wipe_length]; exact hl), if_pos hl]
                · rw [List.getElem?_eq_none (by simp [wipe_length]; omega), if_neg hl]
              · rw [List.getElem?_set_ne ha]
                rcases List.mem_cons.mp h with e | e
                · exact absurd e.symm ha
                · exact ih e
          rw [go _ vs hm, go _ vs hm]; simp
        · rw [wipe_get vs j hm, wipe_get vs j hm, List.getElem?_set_ne hj]
theorem gw_name0 {vs : List Nat} {i : Nat} (h : i ∈ vs) (hp : PinFree B i) : SimGw B vs (gName i) (gN i) := by
  refine ⟨fun w e s => .inl ⟨_, rfl⟩, fun ρ G S H env σ w v Q env' R E r e q => ?_⟩
  cases e
  exact q _ (envSet hp E r) (wipe_set vs i h)
def gNs : List Nat → TGs
  | [] => gNil
  | i :: r => gCons (gName i) (gNs r)
theorem gws_all {vs : List Nat} {ρ : List Addr} {G H : Hp} {S : Sto} {Q : St → Hp → Prop} (R : Rel B ρ G S H)  (hp : ∀ i ∈ vs, PinFree B i) : ∀ (is : List Nat), (∀ i ∈ is, i ∈ vs) → ∀ env σ l us env', EnvR B ρ G env σ → RepWs B.K ρ G l us → gTs (is.map gN) l env S = .ok (env', S) → (∀ σ', EnvR B ρ G env' σ' → wipe σ' vs = wipe σ vs → Q σ' H) → gNs is us σ H Q
  | [], _, env, σ, l, us, env', E, r, e, q => by
    cases r with
    | nil => cases e; exact ⟨rfl, q _ E rfl⟩
    | cons _ _ => cases e
  | i :: is, h, env, σ, l, us, env', E, r, e, q => by
    cases r with
    | nil => cases e
    | cons r1 r2 =>
      refine ⟨_, _, rfl, ?_⟩
      exact gws_all R hp is (fun j hj => h j (List.mem_cons_of_mem _ hj)) (env.set i (some _)) _ _ _ env' (envSet (hp i (h i List.mem_cons_self)) E r1) r2 e fun σ' e' w => q σ' e' (w.trans (wipe_set vs i (h i List.mem_cons_self)))
theorem gTs_gN : ∀ (is : List Nat) (l : List W) (e : Env) (s : Sto), (∃ e', gTs (is.map gN) l e s = .ok (e', s) ∧ l.length = is.length) ∨ gTs (is.map gN) l e s = .stuck
  | [], [], e, s => .inl ⟨e, rfl, rfl⟩
  | [], _ :: _, _, _ => .inr rfl
  | _ :: _, [], _, _ => .inr rfl
  | i :: is, w :: l, e, s => by
    rcases gTs_gN is l (e.set i (some w)) s with ⟨e', h, hl⟩ | h
    · exact .inl ⟨e', h, by simp [hl]⟩
    · exact .inr h
theorem gw_tup0 {vs is : List Nat} {n : Nat} (hn : is.length = n) (h : ∀ i ∈ is, i ∈ vs) (hp : ∀ i ∈ vs, PinFree B i) : SimGw B vs (gTup B.K n (gNs is)) (gT (is.map gN)) := by
  refine ⟨fun w e s => ?_, fun ρ G S H env σ w v Q env' R E r e q => ?_⟩
  · show (∃ e', (tupItems w).bind (fun l => gTs (is.map gN) l e s) = _) ∨ (tupItems w).bind (fun l => gTs (is.map gN) l e s) = _
    cases q : tupItems w with
    | stuck => exact .inr rfl
    | ex x S1 => exact absurd q (tupItems_ex _ _ _)
    | ok l =>
      rcases gTs_gN is l e s with ⟨e', h, _⟩ | h
      · exact .inl ⟨e', h⟩
      · exact .inr h
  · have e' : (tupItems w).bind (fun l => gTs (is.map gN) l env S) = .ok (env', S) := e
    cases q0 : tupItems w with
    | stuck => rw [q0] at e'; cases e'
    | ex x S1 => exact absurd q0 (tupItems_ex _ _ _)
    | ok l =>
      rw [q0, _root_.B.R.bind_ok] at e'
      obtain ⟨a, us, rfl, q1, rs⟩ := tupItems_rep q0 r
      refine ⟨a, us, rfl, .inl (.inl (R.ex _ _ q1)), ?_, gws_all R hp is h env σ l us env' E rs e' q⟩
      rcases gTs_gN is l env S with ⟨e2, _, hl⟩ | e2
      · rw [← rs.length, hl, hn]
      · rw [e2] at e'; cases e'
theorem wipe_in {σ : St} {j : Nat} : ∀ (ks : List Nat), j ∈ ks → (wipe σ ks)[j]? = if j < σ.length then some none else none
  | [], h => nomatch h
  | b :: ks, h => by
    unfold wipe
    by_cases ha : b = j
    · subst ha
      by_cases hl : b < σ.length
      · rw [List.getElem?_set_self (by rw [wipe_length]; exact hl), if_pos hl]
      · rw [List.getElem?_eq_none (by simp [wipe_length]; omega), if_neg hl]
    · rw [List.getElem?_set_ne ha]
      rcases List.mem_cons.mp h with e | e
      · exact absurd e.symm ha
      · exact wipe_in ks e
theorem wipe_idem (σ : St) (vs : List Nat) : wipe (wipe σ vs) vs = wipe σ vs := by
  apply List.ext_getElem?
  intro j
  by_cases hj : j ∈ vs
  · rw [wipe_in vs hj, wipe_in vs hj, wipe_length]
  · rw [wipe_get vs j hj]
/-- what is done with the list that was made -/
def FinOk (B : Bx) (f : List W → Sto → VS) : Prop := ∀ (Wi' : XK) (ρ0 : List Addr) (G0 H0 : Hp) (ρ : List Addr) (G H : Hp) (S : Sto) (l : List W) (us : List V) (D : Addr) (Q : VK), Le ρ0 G0 H0 ρ G H → H0 D = none → Rel B ρ G S H → RepWs B.K ρ G l us → H D = some (.lst us) → D ∉ ρ → G D = none → Post B Wi' ρ0 G0 H0 (f l S) Q → Q (.ref D) H
theorem fin_d : FinOk B fun l s => (ofO (asDs l)).bind fun l => .ok (.d (.lst l), s) := by
  intro Wi' ρ0 G0 H0 ρ G H S l us D Q le h0 R r hD nD gD h
  have h : Post B Wi' ρ0 G0 H0 ((ofO (asDs l)).bind fun l => .ok (.d (.lst l), S)) Q := h
  cases e : asDs l with
  | none => rw [e] at h; exact False.elim h
  | some ds =>
    rw [e] at h
    have sg : Same G (upd G D (.lst us)) := fun b x e => by rw [upd_ne (ne_of_none e gD)]; exact e
    refine h ρ (upd G D (.lst us)) H (.ref D) ⟨le.pre, le.ex.trans sg, fun a h1 h2 => ?_, le.dom, le.keep⟩ ⟨fun b x e => ?_, R.len, R.nd, fun a ha => ?_, fun n c hc => ?_⟩ (.d (.lst upd_same ((r.asDs e).mono sg)))
    · have : a ≠ D := fun e => h2 (by rw [e]; exact h0)
      rw [upd_ne this]; exact le.fr a h1 h2
    · by_cases hb : b = D
      · subst hb; rw [upd_same] at e; cases e; exact hD
      · rw [upd_ne hb] at e; exact R.ex b x e
    · rw [upd_ne (fun e => nD (by rw [← e]; exact ha))]; exact R.off a ha
    · obtain ⟨b, h1, h2⟩ := R.cell n c hc
      exact ⟨b, h1, h2.mono (fun _ _ h => h) sg rfl⟩
theorem sim_comp {wi : TI} {it : Wk} {g : TG} {mg : Tg} {t : TT} {mt : Tx} {te : TE} {me : Ev} {vs : List Nat} {m : Ev} {f : List W → Sto → VS}
    (hi : SimI B Wi wi it) (hpv : ∀ i ∈ vs, PinFree B i) (hg : SimGw B vs g mg) (ht : SimT B (fun _ _ _ _ => False) t mt) (he : SimE B (fun _ _ _ _ => False) te me) (fin : FinOk B f)
    (hm : ∀ e s, m e s = (it e s).bind fun p => need (decide (p.1.length ≤ sizeL)) ((comp mg mt me vs e p.1 p.2).bind fun q => f q.1 q.2)) : SimE B Wi (tLc wi g t te vs) m := by
  intro ρ G S H env σ Q R E h
  rw [hm] at h
  have hI : PostI B (atS Wi σ) ρ G H (it env S) (fun J H1 => ∀ D, H1 D = none → ∃ W : Nat → Nat → Hp → Prop, (∃ m, W 0 m (upd H1 D (.lst []))) ∧ ∀ i m H, W i m H →
      (J.stop i H ∧ Q (.ref D) H) ∨ (J.go i H ∧ ∃ Nx : Hp → Prop, (∀ H', Nx H' → ∃ m', m' < m ∧ W (i + 1) m' H') ∧ ∀ x H', J.yld i H x H' → g x (wipe σ vs) H' fun σ2 H2 => wipe σ2 vs = wipe σ vs ∧ t σ2 H2 fun b H3 =>
        if b = true then te σ2 H3 fun y H4 => ∃ acc, H4 D = some (.lst acc) ∧ acc.length < sizeLine ∧ Nx (upd H4 D (.lst (acc ++ [y]))) else Nx H3)) := by
    cases e1 : it env S with
    | stuck => rw [e1] at h; exact h
    | ex x S1 => rw [e1] at h; exact h
    | ok p =>
      obtain ⟨xs, S1⟩ := p
      rw [e1, _root_.B.R.bind_ok] at h
      obtain ⟨hz, h⟩ := postN h
      have hz := of_decide_eq_true hz
      intro ρ1 G1 H1 J l1 R1 wk D hD
      simp only at h hz
      have npr : D ∉ ρ1 := fun hm => R1.mem hm hD
      have gD : G1 D = none := R1.ex.free hD
      have hD0 : H D = none := by
        cases q : H D with
        | none => rfl
        | some o => exact absurd hD (l1.dom D (by rw [q]; simp))
      refine ⟨fun i m H2 => m = xs.length - i ∧ i ≤ xs.length ∧ ∃ ρ2 G2 S2 accW acc, Le ρ1 G1 H1 ρ2 G2 H2 ∧ Rel B ρ2 G2 S2 H2 ∧ RepWs B.K ρ2 G2 accW acc ∧ acc.length ≤ i ∧ H2 D = some (.lst acc) ∧ D ∉ ρ2 ∧ G2 D = none ∧
        Post B (atS Wi σ) ρ G H ((comp mg mt me vs env (xs.drop i) S2).bind fun q => f (accW ++ q.1) q.2) Q,
        ⟨xs.length, by simp, Nat.zero_le _, ρ1, G1, S1, [], [], (Le.refl _ _ _).beside hD, R1.beside npr gD, .nil, Nat.zero_le _, upd_same, npr, gD, h⟩, ?_⟩
      rintro i m H2 ⟨rfl, hle, ρ2, G2, S2, accW, acc, l2, R2, ra, hal, hD2, nD2, gD2, h2⟩
      obtain ⟨hstop, hgo⟩ := wk i ρ2 G2 S2 H2 l2.ix l2.ex R2
      by_cases hlt : i < xs.length
      · obtain ⟨go, step⟩ := hgo _ (List.getElem?_eq_getElem hlt)
        refine .inr ⟨go, fun H' => i + 1 ≤ xs.length ∧ ∃ ρ3 G3 S3 accW acc, Le ρ1 G1 H1 ρ3 G3 H' ∧ Rel B ρ3 G3 S3 H' ∧ RepWs B.K ρ3 G3 accW acc ∧ acc.length ≤ i + 1 ∧ H' D = some (.lst acc) ∧ D ∉ ρ3 ∧ G3 D = none ∧
          Post B (atS Wi σ) ρ G H ((comp mg mt me vs env (xs.drop (i + 1)) S3).bind fun q => f (accW ++ q.1) q.2) Q, fun H' q => ⟨xs.length - (i + 1), by omega, rfl, q⟩, fun x H3 y => ?_⟩
        obtain ⟨G3, R3, l3, r3⟩ := step x H3 y
        rw [List.drop_eq_getElem_cons hlt] at h2
        unfold comp at h2
        -- what the list at D is, on and on
        have stayD : ∀ {ρa ρb : List Addr} {Ga Gb Ha Hb : Hp}, Le ρa Ga Ha ρb Gb Hb → Ha D = some (.lst acc) → D ∉ ρa → Ga D = none → Hb D = some (.lst acc) ∧ D ∉ ρb ∧ Gb D = none := fun {ρa ρb Ga Gb Ha Hb} l hd hn hg => by
          refine ⟨l.keep D hn _ hd, fun hm => ?_, l.fr D hg (by rw [hd]; simp) (.inr (by rw [hd]; simp [NTX]))⟩
          obtain ⟨t, e, f⟩ := l.pre
          rw [e] at hm
          rcases List.mem_append.mp hm with q | q
          · exact hn q
          · rw [f D q] at hd; cases hd
        obtain ⟨d3, n3, g3⟩ := stayD l3 hD2 nD2 gD2
        have E0 : EnvR B ρ1 G1 env σ := l1.env E
        rcases hg.1 xs[i] (kill vs env) S2 with ⟨e4, eg⟩ | eg
        · rw [eg] at h2
          refine hg.2 ρ2 G3 S2 H3 (kill vs env) (wipe σ vs) xs[i] x _ e4 R3 (envWipe ((l2.trans l3).env E0) vs hpv) r3 eg fun σ' E' w' => ⟨?_, ?_⟩
          · rw [w', wipe_idem]
          · refine ht ρ2 G3 S2 H3 e4 σ' _ R3 E' ?_
            have h2 : Post B (atS Wi σ) ρ G H (((qt (mt e4 S2)).bind fun q => if q.1 then (qt (me e4 q.2)).bind fun r => (comp mg mt me vs env (xs.drop (i + 1)) r.2).bind fun z => .ok (r.1 :: z.1, z.2) else comp mg mt me vs env (xs.drop (i + 1)) q.2).bind fun q => f (accW ++ q.1) q.2) Q := h2
            cases et : mt e4 S2 with
            | stuck => rw [et] at h2; exact False.elim h2
            | ex a b => rw [et] at h2; exact False.elim h2
            | ok q =>
              obtain ⟨b, S4⟩ := q
              rw [et] at h2
              intro ρ4 G4 H4 l4 R4
              obtain ⟨d4, n4, g4⟩ := stayD l4 d3 n3 g3
              cases b with
              | false =>
                refine (if_neg Bool.false_ne_true).mpr ⟨hlt, ρ4, G4, S4, accW, acc, (l2.trans l3).trans l4, R4, l4.ws (l3.ws ra), by omega, d4, n4, g4, h2⟩
              | true =>
                refine (if_pos rfl).mpr (he ρ4 G4 S4 H4 e4 σ' _ R4 (l4.env E') ?_)
                have h2 : Post B (atS Wi σ) ρ G H (((qt (me e4 S4)).bind fun r => (comp mg mt me vs env (xs.drop (i + 1)) r.2).bind fun z => .ok (r.1 :: z.1, z.2)).bind fun q => f (accW ++ q.1) q.2) Q := h2
                cases ee : me e4 S4 with
                | stuck => rw [ee] at h2; exact False.elim h2
                | ex a b => rw [ee] at h2; exact False.elim h2
                | ok r =>
                  obtain ⟨w5, S5⟩ := r
                  rw [ee] at h2
                  intro ρ5 G5 H5 v5 l5 R5 r5
                  obtain ⟨d5, n5, g5⟩ := stayD l5 d4 n4 g4
                  have lt := ((l2.trans l3).trans l4).trans l5
                  refine ⟨acc, d5, by rw [sizeLine_eq]; unfold sizeL at hz; omega, hlt, ρ5, G5, S5, accW ++ [w5], acc ++ [v5], lt.beside hD, R5.beside n5 g5, (l5.ws (l4.ws (l3.ws ra))).append (.cons r5 .nil), by simp; omega, upd_same, n5, g5, ?_⟩
                  have h2 : Post B (atS Wi σ) ρ G H (((comp mg mt me vs env (xs.drop (i + 1)) S5).bind fun z => .ok (w5 :: z.1, z.2)).bind fun q => f (accW ++ q.1) q.2) Q := h2
                  cases ec : comp mg mt me vs env (xs.drop (i + 1)) S5 with
                  | stuck => rw [ec] at h2; exact False.elim h2
                  | ex a b => rw [ec] at h2; exact h2
                  | ok q =>
                    rw [ec] at h2
                    have h2 : Post B (atS Wi σ) ρ G H (f (accW ++ w5 :: q.1) q.2) Q := h2
                    show Post B (atS Wi σ) ρ G H (f (accW ++ [w5] ++ q.1) q.2) Q
                    rw [List.append_assoc]; exact h2
        · rw [eg] at h2; exact False.elim h2
      · have e : xs.drop i = [] := List.drop_eq_nil_of_le (by omega)
        rw [e] at h2
        have h3 : Post B (atS Wi σ) ρ G H (f (accW ++ []) S2) Q := h2
        rw [List.append_nil] at h3
        exact .inl ⟨hstop (by omega), fin _ ρ G H ρ2 G2 H2 S2 accW acc D Q (l1.trans l2) hD0 R2 ra hD2 nD2 gD2 h3⟩
  exact hi ρ G S H env σ _ R E hI
end
section
variable {z : Zx} {k : Nat}
/-- within a comprehension's block -/
abbrev Zx.blk (z : Zx) (s : Shared) (H : Hp) (scope : Scope) (cenv : PySem.Env) (fp : List Addr) : Zx := ⟨z.X.blk s H scope cenv fp, z.xc, z.oc, fun _ _ _ _ => False, z.pin⟩
theorem gw_name {vs : List Nat} {i : Nat} (h : i ∈ vs) (hp : PinFree z.B i := by exact pin_none rfl) : SimGw z.B vs (gName i) (gN i) := gw_name0 h hp
theorem gw_tup {vs is : List Nat} {n : Nat} (hn : is.length = n) (h : ∀ i ∈ is, i ∈ vs) (hp : ∀ i ∈ vs, PinFree z.B i := by exact fun _ _ => pin_none rfl) : SimGw z.B vs (gTup z.X.K n (gNs is)) (gT (is.map gN)) := gw_tup0 hn h hp
/-- the conditions of a comprehension; own: its names with their slots -/
structure CompOk (z : Zx) (own : List (Str × Nat)) (scope : Scope) (tg : Expr) (ifs : List Expr) (elt : Expr) (mg : Tg) (mt : Tx) (me : Ev) : Prop where
  blk : BlkOk z.X.N z.X.env.scope scope own
  g : ∃ g, SimGw z.B (own.map (·.2)) g mg ∧ ∀ (s : Shared) (H : Hp) (C : Addr) (cl : List (Str × Addr)) (fp : List Addr), PG (z.X.blk s H scope (compEnvC scope cl C z.X.env) fp) tg g
  t : ∃ t, SimT z.B (fun _ _ _ _ => False) t mt ∧ ∀ (s : Shared) (H : Hp) (C : Addr) (cl : List (Str × Addr)) (fp : List Addr), PTs (z.X.blk s H scope (compEnvC scope cl C z.X.env) fp) ifs t
  e : ∀ (s : Shared) (H : Hp) (C : Addr) (cl : List (Str × Addr)) (fp : List Addr), OkE (z.blk s H scope (compEnvC scope cl C z.X.env) fp) elt me
  pf : ∀ i ∈ own.map (·.2), PinFree z.B i := by exact fun _ _ => pin_none rfl
theorem kComp0 {own : List (Str × Nat)} {scope : Scope} {tg elt it : Expr} {ifs : List Expr} {mg : Tg} {mt : Tx} {me : Ev} {mi : Wk} {pos : Pos} {m : Ev} {f : List W → Sto → VS} (ctx : Ctx k z) (hi : OkI z tg it mi) (h : CompOk z own scope tg ifs elt mg mt me) (fin : FinOk z.B f)
    (hm : ∀ e s, m e s = (mi e s).bind fun p => need (decide (p.1.length ≤ sizeL)) ((comp mg mt me (own.map (·.2)) e p.1 p.2).bind fun q => f q.1 q.2)) (hs : ∀ x, foldedSetIterable it z.X.env x = pure x) :
    OkE z (.ListComp elt [⟨tg, it, ifs, 0⟩] scope pos) m := by
  obtain ⟨g, g1, g2⟩ := h.g
  obtain ⟨t, t1, t2⟩ := h.t
  exact ok_e (pe_lc (te := tOf z.B (fun _ _ _ _ => False) me) ctx.calm ctx.nd hi h.blk g2 t2 (fun s H C cl fp => h.e s H C cl fp) hs) (sim_comp sim_i h.pf g1 t1 sim_e fin hm)
theorem kComp {own : List (Str × Nat)} {scope : Scope} {tg elt it : Expr} {ifs : List Expr} {mg : Tg} {mt : Tx} {me : Ev} {mi : Wk} {pos : Pos} (ctx : Ctx k z) (hi : OkI z tg it mi) (h : CompOk z own scope tg ifs elt mg mt me) (hs : ∀ x, foldedSetIterable it z.X.env x = pure x := by intro _; rfl) :
    OkE z (.ListComp elt [⟨tg, it, ifs, 0⟩] scope pos) (eComp mi mg mt me (own.map (·.2))) := kComp0 ctx hi h fin_d (fun _ _ => rfl) hs
theorem sComp0 {own : List (Str × Nat)} {scope : Scope} {tg elt it : Expr} {ifs : List Expr} {mg : Tg} {mt : Tx} {me : Ev} {mi : Wk} {pos spos py : Pos} {m : Ev} {f : List W → Sto → VS} {i : Nat} {y : Str} (ctx : Ctx k z) (hi : OkI z tg it mi) (h : CompOk z own scope tg ifs elt mg mt me) (fin : FinOk z.B f)
    (hm : ∀ e s, m e s = (mi e s).bind fun p => need (decide (p.1.length ≤ sizeL)) ((comp mg mt me (own.map (·.2)) e p.1 p.2).bind fun q => f q.1 q.2)) (hy : z.X.N[i]? = some y) (hyl : z.X.env.scope.names.lookup y = some .local)
    (hsw : swapsWith (.ListComp elt [⟨tg, it, ifs, 0⟩] scope pos) (some (.Name y py)) spos.line z.X.env = pure true) (hs : ∀ x, foldedSetIterable it z.X.env x = pure x) (hp : PinFree z.B i) :
    OkS z (.Assign [.Name y py] (.ListComp elt [⟨tg, it, ifs, 0⟩] scope pos) spos) (sAsg (gN i) m) := by
  obtain ⟨g, g1, g2⟩ := h.g
  obtain ⟨t, t1, t2⟩ := h.t
  exact ok_s (ps_setLc (te := tOf z.B (fun _ _ _ _ => False) me) ctx.calm ctx.nd hy hyl hsw hi h.blk g2 t2 (fun s H C cl fp => h.e s H C cl fp) hs) (ss_set hp (sim_comp sim_i h.pf g1 t1 sim_e fin hm))
theorem sComp {own : List (Str × Nat)} {scope : Scope} {tg elt it : Expr} {ifs : List Expr} {mg : Tg} {mt : Tx} {me : Ev} {mi : Wk} {pos spos py : Pos} (i : Nat) {y : Str} (ctx : Ctx k z) (hi : OkI z tg it mi) (h : CompOk z own scope tg ifs elt mg mt me) (hy : z.X.N[i]? = some y) (hyl : z.X.env.scope.names.lookup y = some .local)
    (hsw : swapsWith (.ListComp elt [⟨tg, it, ifs, 0⟩] scope pos) (some (.Name y py)) spos.line z.X.env = pure true) (hs : ∀ x, foldedSetIterable it z.X.env x = pure x := by intro _; rfl) (hp : PinFree z.B i := by exact pin_none rfl) :
    OkS z (.Assign [.Name y py] (.ListComp elt [⟨tg, it, ifs, 0⟩] scope pos) spos) (sAsg (gN i) (eComp mi mg mt me (own.map (·.2)))) := sComp0 ctx hi h fin_d (fun _ _ => rfl) hy hyl hsw hs hp
end
end B
namespace B
open PySem L2 PySem.Spec PyProof.Rows
/-! ### defs -/
/-- the module's def x does as f -/
def FnB (P : Program) (w : World) (K : PySem.W.Frag) (mg : Str → Option Value) (base : Heap) (xc : Nat → Value) (oc : Nat → Addr) (k : Nat) (x : Str) (ps : List Str) (f : Fn) : Prop :=
  ∃ (a : Addr) (fd : FuncData), mg x = some (.ref a) ∧ PySem.W.keepIn K (.ref a) = true ∧ (∃ oc od osl, K.lookup a = some ⟨oc, od, .func fd, osl⟩) ∧ Binds K fd ps [] ∧ FnOk P w K mg base (L2.CX P w) k a fd ps (spM ⟨K, xc, oc, none⟩ ps.length f)
section
variable {P : Program} {w : World} {K : PySem.W.Frag} {mg : Str → Option Value} {base : Heap} {xc : Nat → Value} {oc : Nat → Addr} {x qual : Str} {params : Arguments} {body : List Stmt} {scope : Scope} {f : Addr} {fd : FuncData} {N ps : List Str} {k : Nat} {b : Sx}
/-- the context of such a def's body -/
abbrev zOf (P : Program) (w : World) (K : PySem.W.Frag) (mg : Str → Option Value) (base : Heap) (xc : Nat → Value) (oc : Nat → Addr) (N : List Str) (qual : Str) (scope : Scope) (f : Addr) (cdv : Value) (A : Around) (outer : List PySem.Env) (s : Shared) (H : Hp) (E : XK) : Zx :=
  ⟨cxOf (L2.CX P w) P w K mg base N qual scope f cdv A outer s H E, xc, oc, fun c d _ H => E c d H, none⟩
theorem ctx_of {cdv : Value} {A : Around} {outer : List PySem.Env} {s : Shared} {H : Hp} {E : XK} (S : FnScope N ps scope) (hr : Room k (A.deeper (envOfC qual scope s.heap.objs.size f cdv))) : Ctx k (zOf P w K mg base xc oc N qual scope f cdv A outer s H E) :=
  ⟨hr, L2.takes_of rfl rfl rfl rfl, rfl, S.nd, L2.passes_of rfl⟩
theorem fnOkF (F : FunD K x qual params body scope [] [] f fd) (S : FnScope N ps scope) (hN : ps.length ≤ N.length)
    (hb : ∀ (cdv : Value) (A : Around) (outer : List PySem.Env) (s : Shared) (H : Hp) (E : XK), Ctx k (zOf P w K mg base xc oc N qual scope f cdv A outer s H E) → OkSs (zOf P w K mg base xc oc N qual scope f cdv A outer s H E) body b) :
    FnOk P w K mg base (L2.CX P w) (k + 1) f fd ps (spM ⟨K, xc, oc, none⟩ ps.length (mkF N.length b)) :=
  F.ok S (fun vs H Q E h => h.1) fun cdv A outer s H vs Q E hr h => ⟨_, hb cdv A outer s H E (ctx_of S hr), spM_body sim_s rfl hN h⟩
theorem fnOkK (F : FunD K x qual params body scope [] [] f fd) (S : FnScope N ps scope) (hN : ps.length ≤ N.length)
    (hb : ∀ (cdv : Value) (A : Around) (outer : List PySem.Env) (s : Shared) (H : Hp) (E : XK), Ctx k (zOf P w K mg base xc oc N qual scope f cdv A outer s H E) → OkSs (zOf P w K mg base xc oc N qual scope f cdv A outer s H E) body b) :
    FnOk P w K mg base (L2.CX P w) (k + 1) f fd ps (spM ⟨K, xc, oc, none⟩ ps.length (mkK N.length b)) :=
  F.ok S (fun vs H Q E h => h.1) fun cdv A outer s H vs Q E hr h => ⟨_, hb cdv A outer s H E (ctx_of S hr), spM_bodyK sim_s rfl hN h⟩
theorem lkOf (F : FunD K x qual params body scope [] [] f fd) : ∃ oc od osl, K.lookup f = some ⟨oc, od, .func fd, osl⟩ := by
  obtain ⟨oc, od, dV, kV, doc, pm, an, cdv, ct, osl, rfl, lk, hcd, _, _⟩ := F.ex
  exact ⟨_, _, _, lk⟩
theorem fnF (hm : mg x = some (.ref f)) (F : FunD K x qual params body scope [] [] f fd) (hbind : ∀ (kV doc pm : Value) (an : Option Addr) (cdv ct : Value) (us : List Value), us.length = ps.length → bindArgs (PySem.W.fnOf x qual params body scope .none kV doc pm an cdv ct) ⟨us, []⟩ = pure (ps.zip us))
    (S : FnScope N ps scope) (hN : ps.length ≤ N.length)
    (hb : ∀ (cdv : Value) (A : Around) (outer : List PySem.Env) (s : Shared) (H : Hp) (E : XK), Ctx k (zOf P w K mg base xc oc N qual scope f cdv A outer s H E) → OkSs (zOf P w K mg base xc oc N qual scope f cdv A outer s H E) body b) :
    FnB P w K mg base xc oc (k + 1) x ps (mkF N.length b) := ⟨f, fd, hm, F.kp, lkOf F, F.bindsN hbind, fnOkF F S hN hb⟩
end
/-! ### calls -/
section
variable {B : Bx}
theorem callM_post {f : Fn} {n : Nat} {ρ : List Addr} {G H : Hp} {S : Sto} {l : List W} {vs : List V} {Q : VK} {E : XK} (R : Rel B ρ G S H) (r : RepWs B.K ρ G l vs) (hn : vs.length = n) (h : Post B E ρ G H (f l S) Q) : spM B n f vs H Q E := ⟨hn, ρ, G, S, l, R, r, h⟩
end
section
variable {z : Zx} {j k : Nat} {x : Str} {ps : List Str} {f : Fn} {e : Expr} {es : List Expr} {m : Ev} {ms : List Ev} {p pos : Pos}
theorem CellR.unpin {K : PySem.W.Frag} {xc : Nat → Value} {oc : Nat → Addr} {p q : Option (Nat × V × Option Hp)} {ρ : List Addr} {G H : Hp} {a : Addr} : ∀ {c : C}, CellR ⟨K, xc, oc, p⟩ ρ G H a c → CellR ⟨K, xc, oc, q⟩ ρ G H a c
  | .l _, h => h
  | .w _, h => h
  | .m false _, h => h
  | .m true _, h => h
  | .mw false _, h => h
  | .mw true _, h => h
  | .o _ _, h => h
theorem Rel.unpin {K : PySem.W.Frag} {xc : Nat → Value} {oc : Nat → Addr} {p q : Option (Nat × V × Option Hp)} {ρ : List Addr} {G H : Hp} {S : Sto} (R : Rel ⟨K, xc, oc, p⟩ ρ G S H) : Rel ⟨K, xc, oc, q⟩ ρ G S H :=
  ⟨R.ex, R.len, R.nd, R.off, fun n c hc => let ⟨a, h1, h2⟩ := R.cell n c hc; ⟨a, h1, CellR.unpin h2⟩⟩
theorem post_unpin {K : PySem.W.Frag} {xc : Nat → Value} {oc : Nat → Addr} {p q : Option (Nat × V × Option Hp)} {E : XK} {ρ : List Addr} {G H : Hp} {Q : VK} : ∀ {r : VS}, Post ⟨K, xc, oc, p⟩ E ρ G H r Q → Post ⟨K, xc, oc, q⟩ E ρ G H r Q
  | .ok (_, _), h => fun ρ' G' H' v l R r => h ρ' G' H' v l R.unpin r
  | .ex _ _, h => fun ρ' G' H' c d l R r => h ρ' G' H' c d l R.unpin r
  | .stuck, h => h
theorem spM_unpin {K : PySem.W.Frag} {xc : Nat → Value} {oc : Nat → Addr} {p q : Option (Nat × V × Option Hp)} {n : Nat} {m : Fn} {vs : List V} {H : Hp} {Q : VK} {E : XK} (h : spM ⟨K, xc, oc, p⟩ n m vs H Q E) : spM ⟨K, xc, oc, q⟩ n m vs H Q E := by
  obtain ⟨hl, ρ, G, S, l, R, rs, h⟩ := h
  exact ⟨hl, ρ, G, S, l, R.unpin, rs, post_unpin h⟩
/-- a way to call -/
def Way (z : Zx) (F : Fn → Fn) : Prop := ∀ (f : Fn) (n : Nat) ρ G H S (l : List W) (vs : List V) (Q : VK) (E : XK), Rel z.B ρ G S H → RepWs z.X.K ρ G l vs → vs.length = n → Post z.B E ρ G H (F f l S) Q → spM z.B n f vs H Q E
theorem wP : Way z callP := fun _ _ _ _ _ _ _ _ _ _ R r hn h => callP_post R r hn h
theorem wM : Way z callM := fun _ _ _ _ _ _ _ _ _ _ R r hn h => callM_post R r hn h
theorem eAs_len : ∀ {ms : List Ev} {env : Env} {S S' : Sto} {l : List W}, eAs ms env S = .ok (l, S') → l.length = ms.length
  | [], _, _, _, _, h => by cases h; rfl
  | m :: ms, env, S, S', l, h => by
    have h' : ((m env S).bind fun p => (eAs ms env p.2).bind fun q => .ok (p.1 :: q.1, q.2)) = .ok (l, S') := h
    cases e1 : m env S with
    | stuck => rw [e1] at h'; cases h'
    | ex a b => rw [e1] at h'; cases h'
    | ok p =>
      rw [e1, R.bind_ok] at h'
      cases e2 : eAs ms env p.2 with
      | stuck => rw [e2] at h'; cases h'
      | ex a b => rw [e2] at h'; cases h'
      | ok q =>
        rw [e2] at h'
        cases h'
        exact congrArg (· + 1) (eAs_len (l := q.1) (S' := q.2) e2)
theorem se_call {n : Nat} {F : Fn → Fn} {ta : TA} (way : Way z F) (hn : ms.length = n) (ha : SimA z.B z.Wi ta ms) : SimE z.B z.Wi (tCallS (spM ⟨z.X.K, z.xc, z.oc, none⟩ n f) (L2.WE z.Wi) ta) (eN (F f) ms) := by
  intro ρ G S H env σ Q R E h
  refine ha ρ G S H env σ _ R E ?_
  have h' : Post z.B (atS z.Wi σ) ρ G H ((eAs ms env S).bind fun p => F f p.1 p.2) Q := h
  cases e1 : eAs ms env S with
  | stuck => rw [e1] at h'; exact h'
  | ex y S1 => rw [e1] at h'; exact h'
  | ok p =>
    rw [e1] at h'
    exact fun ρ1 G1 H1 vs l1 R1 r1 => spM_unpin (p := z.pin) (way f n ρ1 G1 H1 p.2 p.1 vs Q _ R1 r1 (by rw [← r1.length, eAs_len e1, hn]) (post_le l1 h'))
theorem kCall {F : Fn → Fn} (way : Way z F) (ctx : Ctx j z) (h : FnB z.X.prog z.X.w z.X.K z.X.mg z.X.base z.xc z.oc k x ps f) (hk : k ≤ j) (hg : Gl z.X x) (ha : OkA z (e :: es) (m :: ms)) (hn : (m :: ms).length = ps.length := by rfl)
    (hdb : (x == ("__debug__" : Str)) = false := by decide) (he : starEach (e :: es) z.X.env = (false, eval e z.X.env) :: starEach es z.X.env := by rfl) (hpl : (backTo pos (starEach es z.X.env)).any (·.1) = false := by rfl) :
    OkE z (.Call (.Name x p) (e :: es) [] pos) (eN (F f) (m :: ms)) := by
  obtain ⟨a, fd, h1, h2, _, h3, h4⟩ := h
  exact ok_e (pe_callS h4 (ctx.hr.mono hk) hg h1 h2 h3 (L2.passAt ctx.tk) ha hdb he hpl) (se_call way hn sim_a)
theorem Ctx.blk (ctx : Ctx k z) (s : Shared) (H : Hp) (scope : Scope) (cenv : PySem.Env) (fp : List Addr) : Ctx k (z.blk s H scope cenv fp) := ⟨ctx.hr, L2.takes0, ctx.calm, ctx.nd, PassesOwn.never⟩
end
end B
namespace B
open PySem L2 PySem.Spec PyProof.Rows
/-- nothing may leave the law -/
theorem no_x {P : Program} {w : World} {K : PySem.W.Frag} {mg : Str → Option Value} {base : Heap} {k : Nat} {f : Addr} {fd : FuncData} {ps : List Str} {sp : Sp} (F : FnOk P w K mg base (L2.CX P w) k f fd ps sp) : FnOk P w K mg base CX0 k f fd ps (fun vs H Q _ => sp vs H Q fun _ _ _ => False) := by
  refine ⟨fun vs H Q E h => F.len _ _ _ _ h, fun A outer s H args us vs Q E hr e0 hb hv h => ?_⟩
  refine codeAny_mono (F.run A outer s H args us vs Q _ hr e0 hb hv h) fun r s' hq => ?_
  cases r with
  | ok fl => cases fl <;> exact hq
  | error e =>
    obtain ⟨_, _, _, _, _, _, _, _, _, _, _, _, q⟩ := hq
    exact q.elim
end B
/-! Walks over a list of the store: it must lie there unchanged at each turn. -/
namespace B
open PySem L2
open Classical in
open Classical in
section
variable {z : Zx} {k : Nat} {B : Bx} {Wi : WX}
end
section
variable {z : Zx} {k : Nat}
end
end B
/-! further rules -/
namespace B
open PySem L2
/-- one condition of a comprehension -/
theorem tOne {z : Zx} {scope : Scope} {c : Expr} {mt : Tx} (h : ∀ (s : Shared) (H : Hp) (C : Addr) (cl : List (Str × Addr)) (fp : List Addr), OkT (z.blk s H scope (compEnvC scope cl C z.X.env) fp) c mt) :
    ∃ t, SimT z.B (fun _ _ _ _ => False) t mt ∧ ∀ (s : Shared) (H : Hp) (C : Addr) (cl : List (Str × Addr)) (fp : List Addr), PTs (z.X.blk s H scope (compEnvC scope cl C z.X.env) fp) [c] t := ⟨_, sim_t, fun s H C cl fp => pts_one (h s H C cl fp)⟩
end B
/-! Methods of texts; two comparisons in a row. -/
namespace B
open PySem L2 PySem.Spec PyProof.Rows TL
/-- a text cut at a sign -/
def splitC (c : Nat) : List Nat → List Nat → List (List Nat)
  | acc, [] => [acc]
  | acc, x :: r => if x = c then acc :: splitC c [] r else splitC c (acc ++ [x]) r
def bSplit : W → W → Sto → VS := fun x y s => match x, y with
  | .d (.str z), .d (.str [c]) => need (decide (z.length ≤ 16777000) && decide (c < 256)) (.ok (.d (.lst ((splitC c [] z).map .str)), s))
  | _, _ => .stuck
/-- a < b < c -/
def eCh (f g : W → W → Sto → VS) (a b c : Ev) : Ev := fun e s => (a e s).bind fun p => (b e p.2).bind fun q => (f p.1 q.1 q.2).bind fun r => match r.1 with
  | .d (.bl true) => (c e r.2).bind fun t => g q.1 t.1 t.2
  | .d (.bl false) => .ok (.d (.bl false), r.2)
  | _ => .stuck
section
variable {z : Zx} {k : Nat} {a b c : Expr} {ma mb mc : Ev} {pos p apos cpos : Pos}
/-! join -/
/-! split -/
/-! chains -/
end
end B
/-! A tuple whose object is known, and dict(..) of it. -/
namespace B
open PySem L2 PySem.Spec PyProof.Rows
theorem ssNever {z : Zx} {body : List Stmt} : OkSs z body sNever := ⟨fun pins st σ H D I ⟨ρ, G, S, env, R, E, q⟩ => q.elim⟩
def bTupQ : W → Sto → VS := fun x s => (lstOf s x).bind fun l => (ofO (asDs l)).bind fun l => .ok (.d (.inq l), s)
section
variable {X : Cx}
end
section
variable {z : Zx} {k : Nat} {a : Expr} {ma : Ev} {pos p : Pos}
end
end B
/-! enumerate over a tuple: the rule; walks with watched places. -/
namespace B
open PySem L2 PySem.Spec PyProof.Rows
open AutoSeq1 (wpAny_loadPart')
theorem meets_enumerate_newT (l : Addr) (items : Array Value) (n : Nat) (dct : Option Addr) (sl : Array (Option Value)) :
    Meets (Builtin.«enumerate.__new__» ⟨[.type "enumerate", .ref l], []⟩) (fun _ R s => s.heap.get? l = some { cls := .type "tuple", dict := dct, data := .seq items n, slots := sl } ∧
      R (.ok (.ret (.ref (s.heap.push { cls := .type "tuple_iterator", data := .fields #[.ref l, .int 0 0] }).objs.size)))
        { s with heap := (s.heap.push { cls := .type "tuple_iterator", data := .fields #[.ref l, .int 0 0] }).push { cls := .type "enumerate", data := .fields #[.none, .bool false, .ref s.heap.objs.size, rawInt 0, .none, .none] } }) :=
  .of_wp fun prog w A R s h => by
    obtain ⟨hp, g, d, tk, os⟩ := s; obtain ⟨hl, h⟩ := h
    have hsub := sub_enumerate
    have hL : Heap.IsTuple (Shared.heap ⟨hp, g, d, tk, os⟩) l items := ⟨_, hl, rfl, n, rfl⟩
    wp_walk using wpAny_loadPart' hl
    refine wpAny_stack_any fun st => wpAny_pure ?_
    split
    · rename_i c _ _ _ _ _
      cases (c == Value.type "enumerate")
      · wp_walk using wpAny_loadPart' hl, wpAny_pyIter_tuple hL
        exact ⟨_, rfl, h⟩
      · wp_walk using wpAny_loadPart' hl, wpAny_pyIter_tuple hL
        exact ⟨_, rfl, h⟩
    · wp_walk using wpAny_loadPart' hl, wpAny_pyIter_tuple hL
      exact ⟨_, rfl, h⟩
theorem call_enumerate_tuple {prog : Program} {w : World} {A : Around} {E : Value → Shared → Prop} {s : Shared} {l : Addr} {items : Array Value} {Q : Value → Shared → Prop} (hL : s.heap.IsTuple l items)
    (h : ∀ h', IsEnum h' (s.heap.objs.size + 1) s.heap.objs.size 0 .none → h'.IsTupleIter s.heap.objs.size l 0 → h'.objs.size = s.heap.objs.size + 2 →
      (∀ b o, s.heap.get? b = some o → h'.get? b = some o) → Q (.ref (s.heap.objs.size + 1)) { s with heap := h' }) :
    wpAny (model prog w) A (call (.type "enumerate") [.ref l]) Q E s := by
  obtain ⟨⟨c, dct, dt, sl⟩, hl, hc, n, hd⟩ := hL
  replace hc : c = .type "tuple" := hc
  replace hd : dt = .seq items n := hd
  subst hc hd
  refine callType_new F.called_enumerate (by decide) (F.typeCall_enumerate_1 _) (F.newCall_enumerate_1 _) (fun obj => F.args_object_init_2 obj _) F.entry_enumerate_new
    (meets_enumerate_newT l items n dct sl) ⟨hl, ?_⟩
  have hz : (s.heap.push { cls := .type "tuple_iterator", data := .fields #[.ref l, .int 0 0] }).objs.size = s.heap.objs.size + 1 := Heap.size_push ..
  show _ ∧ _
  rw [hz]
  have he : IsEnum ((s.heap.push { cls := .type "tuple_iterator", data := .fields #[.ref l, .int 0 0] }).push
      { cls := .type "enumerate", data := .fields #[.none, .bool false, .ref s.heap.objs.size, rawInt 0, .none, .none] }) (s.heap.objs.size + 1) s.heap.objs.size 0 .none := by
    have := Heap.get?_push_size (s.heap.push { cls := .type "tuple_iterator", data := .fields #[.ref l, .int 0 0] })
      (o := { cls := .type "enumerate", data := .fields #[.none, .bool false, .ref s.heap.objs.size, rawInt 0, .none, .none] }) rfl
    rw [hz] at this; exact this
  refine ⟨⟨_, he, rfl⟩, h _ he ⟨_, Heap.get?_push_of_some _ (Heap.get?_push_size _ rfl), rfl, rfl⟩ (by rw [Heap.size_push, hz]) fun b o x => Heap.get?_push_of_some _ (Heap.get?_push_of_some _ x)⟩
/-- the tuple at a, each item in a new pair -/
def IteT (K : PySem.W.Frag) (a : Addr) : L2.It :=
  ⟨fun i H => ∃ (xs : List V) (x : V), SqT K H a xs ∧ xs[i]? = some x, fun i H v H' => ∃ T x, v = .ref T ∧ H T = none ∧ H' = upd H T (.tup [.int (i : Nat), x]) ∧ ∀ xs, SqT K H a xs → xs[i]? = some x, fun i H => ∃ xs : List V, SqT K H a xs ∧ xs.length ≤ i⟩
theorem turn_enumT {P : Program} {w : World} {K : PySem.W.Frag} {elts : List Expr} {kk : Nat} {tpos : Pos} (a e it : Addr) (hea : a ≠ e) (hia : a ≠ it) :
    Turn P w K (.Tuple elts kk tpos) (IteT K a) [e, it] e (fun i h => (∃ old, IsEnum h e it ((i : Nat) : Int) old) ∧ h.IsTupleIter it a i ∧ e ≠ it) where
  mem := by simp
  obj := fun i h st b hb => by
    obtain ⟨⟨old, he⟩, ⟨o, ho, hc, hd⟩, _⟩ := st
    have e' : b = e ∨ b = it := by simpa using hb
    rcases e' with z | z
    · rw [z]; exact ⟨_, he, fun v q => nomatch q⟩
    · rw [z]; exact ⟨o, ho, fun v q => by rw [hd] at q; cases q⟩
  keep := fun i h h' st k => let ⟨⟨old, he⟩, hi, hne⟩ := st; ⟨⟨old, k e (by simp) _ he⟩, hi.at fun o q => k it (by simp) o q, hne⟩
  item := by
    intro X hP hw hK hc i pins s σ H E I hf st hg
    subst hP hw hK
    obtain ⟨⟨old, he⟩, hit, hne⟩ := st
    obtain ⟨xs, x, hq, hx⟩ := hg
    obtain ⟨its, rv, p, hz⟩ := I.tuple hq
    obtain ⟨u, hu, ru⟩ := rv.get hx
    have hel : e < s.heap.objs.size := Heap.lt_size he
    have hil : it < s.heap.objs.size := by obtain ⟨_, q, _⟩ := hit; exact Heap.lt_size q
    have hu' : its.toArray[i]? = some u := by simpa using hu
    have hlt : i < its.toArray.size := (Array.getElem?_eq_some_iff.mp hu').1
    refine wpAny_pyNext_enum_itemD (Draws.tuple (A := X.A.in1) (I.ok.hd hc) it a hia its.toArray) he ⟨hit, (show s.heap.IsTuple a its.toArray from p)⟩ hlt hne (by
      intro hm
      have : e = it ∨ e = a := by simpa using hm
      rcases this with q | q
      · exact hne q
      · exact hea q.symm) fun x1 h' tk hPx ho hst hT hsz hk => ?_
    have hx1 : x1 = u := Option.some.inj (hPx.symm.trans hu')
    subst hx1
    refine ⟨_, rfl, wpAny_letOwnedTupleGo_enum (s := { s with heap := h', toks := tk + 1 }) ho fun h'' he' sb => ?_⟩
    have hT2 : h''.get? s.heap.objs.size = some { cls := .type "tuple", data := .seq #[.int i tk, x1] } := (sb.2 _ (Nat.ne_of_gt hel)).trans hT
    have new : ObjOk X.prog X.w (upd H s.heap.objs.size (.tup [.int (i : Nat), x])) h'' s.heap.objs.size (.tup [.int (i : Nat), x]) :=
      ⟨by show 2 ≤ sizeLine; decide, [.int i tk, x1], .cons ⟨_, rfl⟩ (.cons ru .nil), ⟨_, hT2, rfl, _, rfl⟩⟩
    have I1 : Inv X pins σ (upd H s.heap.objs.size (.tup [.int (i : Nat), x])) { s with heap := h'', toks := tk + 1 } :=
      I.turnedNew (ch := [e, it]) (fun b ob hb q => (sb.2 b (fun z => hb (by simp [z]))).trans (hk b ob (fun z => hb (by simp [z])) (fun z => hb (by simp [z])) q)) hf (Nat.le_refl _) new
    refine ⟨.ref s.heap.objs.size, _, I1, rfl, ⟨_, x, rfl, I.hok.fresh (Nat.le_refl _), rfl, fun ys hy => by rw [I.tuple_inj hy hq]; exact hx⟩, ⟨⟨x1, ?_⟩, hst.1.at fun o q => (sb.2 it (Ne.symm hne)).trans q, hne⟩, fun b hb => ?_⟩
    · have e1 : ((i + 1 : Nat) : Int) = (i : Int) + 1 := by omega
      rw [e1]; exact he'
    · have hb' : b < s.heap.objs.size := by
        have e' : b = e ∨ b = it := by simpa using hb
        rcases e' with z | z
        · rw [z]; exact hel
        · rw [z]; exact hil
      rw [upd_ne (Nat.ne_of_lt hb')]
      exact (hf b hb).1
  done := by
    intro X hP hw hK hc i pins s σ H E I hf st hg
    subst hP hw hK
    obtain ⟨⟨old, he⟩, hit, hne⟩ := st
    obtain ⟨xs, hq, hx⟩ := hg
    obtain ⟨its, rv, p, hz⟩ := I.tuple hq
    obtain ⟨f0, f1, f2, f3, f4, f5⟩ := hf it (by simp)
    have hl := rv.length
    have hT : s.TypeIs (.ref e) "enumerate" := ⟨_, he, rfl⟩
    have hnone : its.toArray[i]? = none := by simp; omega
    unfold pyNext
    refine wpAny_bind (wpAny_attempt (wpAny_callSpecial?_slot (name := Str.ofString "__next__") hT F.slot_enumerate_next
      (wpAny_call_entry F.slot_enumerate_next hT F.entry_enumerate_next ?_ (F.args_enumerate_next_1 _))))
    show wpAny _ _ (field (.ref e) 2 >>= _) _ _ _
    refine wpAny_bind (wpAny_field he rfl (x := .ref it) rfl ?_)
    refine wpAny_bind (wpAny_nextOf_tuple_end (I.ok.hd hc) hit (show s.heap.IsTuple a its.toArray from p) hnone fun h' x he' hx' => ?_)
    obtain ⟨o, ho, hc'⟩ := hx'
    refine wpAny_bind (wpAny_isInstance (T := "StopIteration") (b := true) ⟨o, ho, hc'⟩ isSubtype_stop ?_)
    exact wpAny_pure ⟨rfl, I.turned (t' := s.toks) (fun b o hb q => he' b o hb q) f0 f1 f3 f4 f5⟩
  self := fun A i s Q E st h => let ⟨⟨_, he⟩, _⟩ := st; wpAny_pyIter_enum he h
def iEnumA (K : PySem.W.Frag) (ta : TA) : TI := fun σ H R => ta σ H fun vs H1 => ∃ a xs, vs = [.ref a] ∧ ((SqL K H1 a xs ∧ R (Ite K a) H1) ∨ (SqT K H1 a xs ∧ R (IteT K a) H1))
theorem pi_enumA {X : Cx} {e : Expr} {ta : TA} {p pos tpos : Pos} {elts : List Expr} {kk : Nat} (hg : Gl X "enumerate") (hm : X.mg "enumerate" = none) (ha : PA X [e] ta) (hs : starEach [e] X.env = [(false, eval e X.env)] := by rfl) :
    PI X (.Tuple elts kk tpos) (.Call (.Name "enumerate" p) [e] [] pos) (iEnumA X.K ta) := by
  refine ⟨fun pins s σ H R I h => ?_⟩
  refine Call_ (ld_blt I hg hm boot_enumerate (PyProof.Rows.callWith_type1 (thn (ha.run pos pins s σ H _ I h) fun us s1 ⟨vs, H1, I1, r1, q1⟩ => ?_) hs rfl))
  obtain ⟨a, xs, ex, hq⟩ := q1
  subst ex
  cases r1 with
  | cons r rr =>
    cases rr
    cases r
    have fresh2 : ∀ b, b ∈ [s1.heap.objs.size + 1, s1.heap.objs.size] → FpOk X pins H1 b := fun b hb => by
      have e' : b = s1.heap.objs.size + 1 ∨ b = s1.heap.objs.size := by simpa using hb
      have hle : s1.heap.objs.size ≤ b := by
        rcases e' with z | z
        · rw [z]; exact Nat.le_add_right _ _
        · rw [z]; exact Nat.le_refl _
      exact I1.fpOk hle (I1.hok.fresh hle)
    rcases hq with ⟨hq, q⟩ | ⟨hq, q⟩
    · obtain ⟨its, rv, p', hz⟩ := I1.list hq
      refine call_enumerate_list p'.isList fun h' he hit hsz hk => wpAny_pyIter_enum he ?_
      have I2 : Inv X pins σ H1 { s1 with heap := h' } := I1.kept (t' := s1.toks) hk
      exact ⟨s1.heap.objs.size + 1, [s1.heap.objs.size + 1, s1.heap.objs.size], _, _, H1, rfl, I2, turn_enum a (s1.heap.objs.size + 1) s1.heap.objs.size, ⟨⟨.none, he⟩, hit, Nat.succ_ne_self _⟩, fresh2, q⟩
    · obtain ⟨its, rv, p', hz⟩ := I1.tuple hq
      have hal : a < s1.heap.objs.size := p'.lt
      refine call_enumerate_tuple (show s1.heap.IsTuple a its.toArray from p') fun h' he hit hsz hk => wpAny_pyIter_enum he ?_
      have I2 : Inv X pins σ H1 { s1 with heap := h' } := I1.kept (t' := s1.toks) hk
      exact ⟨s1.heap.objs.size + 1, [s1.heap.objs.size + 1, s1.heap.objs.size], _, _, H1, rfl, I2, turn_enumT a (s1.heap.objs.size + 1) s1.heap.objs.size (Nat.ne_of_lt (Nat.lt_succ_of_lt hal)) (Nat.ne_of_lt hal), ⟨⟨.none, he⟩, hit, Nat.succ_ne_self _⟩, fresh2, q⟩
end B
/-! Walks with watched places: what a walk reads from the store must lie there unchanged at each turn. -/
namespace B
open PySem L2
abbrev Wt := List (Nat × C)
def watchOk (wt : Wt) (s : Sto) : Prop := ∀ p ∈ wt, s[p.1]? = some p.2
abbrev WkW := Env → Sto → R (List W × Wt × Sto)
open Classical in
noncomputable def loopW (wt : Wt) (g : Tg) (b : Sx) : List W → Env → Sto → R O
  | [], e, s => if watchOk wt s then .ok (.nx e s) else .stuck
  | x :: xs, e, s => if watchOk wt s then (g x e s).bd e fun p => (b p.1 p.2).bind fun o => turn o (loopW wt g b xs) else .stuck
open Classical in
noncomputable def compW (wt : Wt) (g : Tg) (t : Tx) (a : Ev) (own : List Nat) (e0 : Env) : List W → Sto → R (List W × Sto)
  | [], s => if watchOk wt s then .ok ([], s) else .stuck
  | x :: xs, s => if watchOk wt s then (qt (g x (kill own e0) s)).bind fun p => (qt (t p.1 p.2)).bind fun q => if q.1 then
      (qt (a p.1 q.2)).bind fun r => (compW wt g t a own e0 xs r.2).bind fun z => .ok (r.1 :: z.1, z.2)
    else compW wt g t a own e0 xs q.2 else .stuck
noncomputable def sForW (i : WkW) (g : Tg) (b : Sx) : Sx := fun e s => (i e s).bd e fun p => loopW p.2.1 g b p.1 e p.2.2
noncomputable def eCompW (i : WkW) (g : Tg) (t : Tx) (a : Ev) (own : List Nat) : Ev := fun e s => (i e s).bind fun p => need (decide (p.1.length ≤ sizeL)) ((compW p.2.1 g t a own e p.1 p.2.2).bind fun q =>
  (ofO (asDs q.1)).bind fun l => .ok (.d (.lst l), q.2))
noncomputable def eCompWC (i : WkW) (g : Tg) (t : Tx) (a : Ev) (own : List Nat) : Ev := fun e s => (i e s).bind fun p => need (decide (p.1.length ≤ sizeL)) ((compW p.2.1 g t a own e p.1 p.2.2).bind fun q => newL q.1 q.2)
theorem watch_nil (s : Sto) : watchOk [] s := fun p hp => by cases hp
theorem loopW_nil (g : Tg) (b : Sx) : ∀ (xs : List W), loopW [] g b xs = loop g b xs
  | [] => by funext e s; unfold loopW; rw [if_pos (watch_nil s)]; rfl
  | x :: xs => by funext e s; unfold loopW; rw [if_pos (watch_nil s), loopW_nil g b xs]; rfl
theorem compW_nil (g : Tg) (t : Tx) (a : Ev) (own : List Nat) (e0 : Env) : ∀ (xs : List W) (s : Sto), compW [] g t a own e0 xs s = comp g t a own e0 xs s
  | [], s => by unfold compW; rw [if_pos (watch_nil s)]; rfl
  | x :: xs, s => by
    unfold compW
    rw [if_pos (watch_nil s)]
    have : compW [] g t a own e0 xs = comp g t a own e0 xs := by funext s; exact compW_nil g t a own e0 xs s
    rw [this]; rfl
/-! the iterators -/
def seqK (w : W) (s : Sto) : R (Kd × List W × Wt) := match w with
  | .d (.lst l) => .ok (.li, ws l, [])
  | .d (.inp l) => .ok (.li, ws l, [])
  | .d (.tup l) => .ok (.tu, ws l, [])
  | .d (.inq l) => .ok (.tu, ws l, [])
  | .tw l => .ok (.tu, l, [])
  | .loc k => match s[k]? with
    | some (.l l) => .ok (.li, ws l, [(k, .l l)])
    | some (.w l) => .ok (.li, l, [(k, .w l)])
    | _ => .stuck
  | _ => .stuck
def enW (i : Nat) : List W → List W
  | [] => []
  | w :: r => tupW [.d (.int i), w] :: enW (i + 1) r
def zpW : List W → List W → List W
  | x :: xs, y :: ys => tupW [x, y] :: zpW xs ys
  | _, _ => []
def iEn (a : Ev) : WkW := fun e s => (a e s).bind fun p => (seqK p.1 p.2).bind fun q => .ok (enW 0 q.2.1, q.2.2, p.2)
def zpK (x y : Kd × List W × Wt) (s : Sto) : R (List W × Wt × Sto) := match x.1, y.1 with
  | .li, .li => .ok (zpW x.2.1 y.2.1, x.2.2 ++ y.2.2, s)
  | .tu, .tu => .ok (zpW x.2.1 y.2.1, x.2.2 ++ y.2.2, s)
  | _, _ => .stuck
def iZp (a b : Ev) : WkW := fun e s => (a e s).bind fun p => (b e p.2).bind fun q => (seqK p.1 q.2).bind fun x => (seqK q.1 q.2).bind fun y => zpK x y q.2
def iRv (a : Ev) : WkW := fun e s => (a e s).bind fun p => (seqK p.1 p.2).bind fun q => .ok (q.2.1.reverse, q.2.2, p.2)
section
variable {z : Zx} {k : Nat} {B : Bx} {Wi : WX}
def WalksW (B : Bx) (ρ : List Addr) (G : Hp) (J : L2.It) (xs : List W) (wt : Wt) : Prop := ∀ i ρ2 G2 S2 H2, (∀ (n : Nat) (a : Addr), ρ[n]? = some a → ρ2[n]? = some a) → Same G G2 → Rel B ρ2 G2 S2 H2 → watchOk wt S2 →
  (xs.length = i → J.stop i H2) ∧ ∀ w, xs[i]? = some w → J.go i H2 ∧ ∀ x H3, J.yld i H2 x H3 → ∃ G3, Rel B ρ2 G3 S2 H3 ∧ Le ρ2 G2 H2 ρ2 G3 H3 ∧ RepW B.K ρ2 G3 w x
def PostIW (B : Bx) (Wi : XK) (ρ : List Addr) (G H : Hp) (r : R (List W × Wt × Sto)) (Q : L2.It → Hp → Prop) : Prop := match r with
  | .ok (xs, wt, S') => ∀ ρ' G' H' J, Le ρ G H ρ' G' H' → Rel B ρ' G' S' H' → WalksW B ρ' G' J xs wt → Q J H'
  | .ex x S' => ∀ ρ' G' H' c d, Le ρ G H ρ' G' H' → Rel B ρ' G' S' H' → RepX B G' x c d H' → Wi c d H'
  | .stuck => False
def SimIW (B : Bx) (Wi : WX) (wi : TI) (m : WkW) : Prop := ∀ ρ G S H env σ Q, Rel B ρ G S H → EnvR B ρ G env σ → PostIW B (atS Wi σ) ρ G H (m env S) Q → wi σ H Q
def wiOfW (B : Bx) (Wi : WX) (m : WkW) : TI := fun σ H Q => ∃ ρ G S env, Rel B ρ G S H ∧ EnvR B ρ G env σ ∧ PostIW B (atS Wi σ) ρ G H (m env S) Q
theorem sim_iw {m : WkW} : SimIW B Wi (wiOfW B Wi m) m := fun ρ G S H env σ Q R E h => ⟨ρ, G, S, env, R, E, h⟩
def OkIW (z : Zx) (tg e : Expr) (m : WkW) : Prop := PI z.X tg e (wiOfW z.B z.Wi m)
theorem ok_iw {tg it : Expr} {wi : TI} {mi : WkW} (h : PI z.X tg it wi) (s : SimIW z.B z.Wi wi mi) : OkIW z tg it mi := ⟨fun pins st σ H R I ⟨ρ, G, S, env, RR, E, q⟩ => h.run pins st σ H R I (s ρ G S H env σ R RR E q)⟩
theorem postIW_le {Wi : XK} {ρ ρ1 : List Addr} {G H G1 H1 : Hp} {r : R (List W × Wt × Sto)} {Q : L2.It → Hp → Prop} (le : Le ρ G H ρ1 G1 H1) (h : PostIW B Wi ρ G H r Q) : PostIW B Wi ρ1 G1 H1 r Q := by
  cases r with
  | stuck => exact h
  | ok p => exact fun ρ' G' H' J l r => h ρ' G' H' J (le.trans l) r
  | ex x S => exact fun ρ' G' H' c d l r q => h ρ' G' H' c d (le.trans l) r q
theorem postIW_bind {Wi : XK} {ρ : List Addr} {G H : Hp} {r : VS} {f : W × Sto → R (List W × Wt × Sto)} {Q : L2.It → Hp → Prop} {Q' : VK} (h : PostIW B Wi ρ G H (r.bind f) Q)
    (k : ∀ w S' ρ' G' H' v, Le ρ G H ρ' G' H' → Rel B ρ' G' S' H' → RepW B.K ρ' G' w v → PostIW B Wi ρ' G' H' (f (w, S')) Q → Q' v H') : Post B Wi ρ G H r Q' := by
  cases r with
  | stuck => exact h
  | ex x S => exact h
  | ok p => exact fun ρ' G' H' v l r q => k p.1 p.2 ρ' G' H' v l r q (postIW_le l h)
theorem postSIW_bd {ρ : List Addr} {G H : Hp} {r : R (List W × Wt × Sto)} {env : Env} {σ : St} {f : List W × Wt × Sto → R O} {D : Ends} {Q : L2.It → Hp → Prop} (E : EnvR B ρ G env σ) (h : PostS B Wi ρ G H (r.bd env f) D)
    (k : ∀ xs wt S' ρ' G' H' J, Le ρ G H ρ' G' H' → Rel B ρ' G' S' H' → WalksW B ρ' G' J xs wt → PostS B Wi ρ' G' H' (f (xs, wt, S')) D → Q J H') : PostIW B (atS Wi σ) ρ G H r Q := by
  cases r with
  | stuck => exact h
  | ex x S => exact fun ρ' G' H' c d l r q => h ρ' G' H' σ c d l r (l.env E) q
  | ok p => exact fun ρ' G' H' J l r q => k p.1 p.2.1 p.2.2 ρ' G' H' J l r q (postS_le l h)
theorem ss_forW {wi : TI} {it : WkW} {g : TG} {mg : Tg} {t : TS} {b : Sx} (hi : SimIW B Wi wi it) (hq : Quiet mg) (hg : SimG B g mg) (hb : SimS B Wi t b) : SimS B Wi (tFor wi g t) (sForW it mg b) := by
  intro ρ G S H env σ D R E h
  refine hi ρ G S H env σ _ R E (postSIW_bd E h fun xs wt S1 ρ1 G1 H1 J l1 R1 w1 h1 => ?_)
  refine ⟨fun i m σ H => m = xs.length - i ∧ i ≤ xs.length ∧ ∃ ρ2 G2 S2 env2, Le ρ1 G1 H1 ρ2 G2 H ∧ Rel B ρ2 G2 S2 H ∧ EnvR B ρ2 G2 env2 σ ∧ PostS B Wi ρ2 G2 H (loopW wt mg b (xs.drop i) env2 S2) D,
    ⟨xs.length, by simp, Nat.zero_le _, ρ1, G1, S1, env, Le.refl _ _ _, R1, l1.env E, h1⟩, ?_⟩
  rintro i m σ2 H2 ⟨rfl, hle, ρ2, G2, S2, env2, l2, R2, E2, h2⟩
  by_cases hcc : watchOk wt S2
  rotate_left
  · cases hxs : xs.drop i <;> rw [hxs] at h2 <;> unfold loopW at h2 <;> rw [if_neg hcc] at h2 <;> exact False.elim h2
  obtain ⟨hstop, hgo⟩ := w1 i ρ2 G2 S2 H2 l2.ix l2.ex R2 hcc
  by_cases hlt : i < xs.length
  · obtain ⟨go, step⟩ := hgo _ (List.getElem?_eq_getElem hlt)
    refine .inr ⟨go, fun σ' H' => ∃ ρ3 G3 S3 env3, Le ρ1 G1 H1 ρ3 G3 H' ∧ Rel B ρ3 G3 S3 H' ∧ EnvR B ρ3 G3 env3 σ' ∧ PostS B Wi ρ3 G3 H' (loopW wt mg b (xs.drop (i + 1)) env3 S3) D,
      fun σ' H' q => ⟨xs.length - (i + 1), by omega, rfl, hlt, q⟩, fun x H3 y => ?_⟩
    obtain ⟨G3, R3, l3, r3⟩ := step x H3 y
    rw [List.drop_eq_getElem_cons hlt] at h2
    unfold loopW at h2
    rw [if_pos hcc] at h2
    have h3 : PostS B Wi ρ2 G3 H3 ((mg xs[i] env2 S2).bd env2 fun p => (b p.1 p.2).bind fun o => turn o (loopW wt mg b (xs.drop (i + 1)))) D := postS_le l3 h2
    refine hg ρ2 G3 S2 H3 env2 σ2 _ x _ R3 (l3.env E2) r3 (postSG_bd (fun _ _ => hq _ _ _ _ _) h3 fun e4 S4 ρ4 G4 H4 σ4 l4 R4 E4 h4 => ?_)
    exact turn_end hb R4 E4 h4 fun e s ρ' G' H' σ' l' R' E' h' => ⟨ρ', G', s, e, (l2.trans (l3.trans l4)).trans l', R', E', h'⟩
  · have e : xs.drop i = [] := List.drop_eq_nil_of_le (by omega)
    rw [e] at h2
    unfold loopW at h2
    rw [if_pos hcc] at h2
    exact .inl ⟨hstop (by omega), h2 _ _ _ _ (Le.refl _ _ _) R2 E2⟩
/-! what the iterators read -/
theorem seqK_rep {ρ : List Addr} {G H : Hp} {S : Sto} (R : Rel B ρ G S H) {w : W} {v : V} {kd : Kd} {l : List W} {wt : Wt} (e : seqK w S = .ok (kd, l, wt)) (h : RepW B.K ρ G w v) :
    ∃ a, v = .ref a ∧ ∀ ρ2 G2 S2 H2, (∀ (n : Nat) (x : Addr), ρ[n]? = some x → ρ2[n]? = some x) → Same G G2 → Rel B ρ2 G2 S2 H2 → watchOk wt S2 →
      ∃ vs, (match kd with | .li => SqL B.K H2 a vs | .tu => SqT B.K H2 a vs) ∧ RepWs B.K ρ2 G2 l vs := by
  cases w with
  | d x =>
    cases x with
    | lst l =>
      cases e
      cases h with
      | d h => cases h with
        | lst q r => exact ⟨_, rfl, fun ρ2 G2 S2 H2 p s R2 _ => ⟨_, .inl (.inl (R2.ex _ _ (s _ _ q))), (r.mono s).ws⟩⟩
    | inp l =>
      cases e
      cases h with
      | d h => cases h with
        | inp q r => exact ⟨_, rfl, fun ρ2 G2 S2 H2 p s R2 _ => ⟨_, R2.ex.seq (s.seq q), (r.mono s).ws⟩⟩
    | tup l =>
      cases e
      cases h with
      | d h => cases h with
        | tup q r => exact ⟨_, rfl, fun ρ2 G2 S2 H2 p s R2 _ => ⟨_, .inl (.inl (R2.ex _ _ (s _ _ q))), (r.mono s).ws⟩⟩
    | inq l =>
      cases e
      cases h with
      | d h => cases h with
        | inq q r => exact ⟨_, rfl, fun ρ2 G2 S2 H2 p s R2 _ => ⟨_, Same.sqt R2.ex (Same.sqt s (sqq q)), (r.mono s).ws⟩⟩
    | _ => cases e
  | tw l =>
    cases e
    cases h with
    | tw q r => exact ⟨_, rfl, fun ρ2 G2 S2 H2 p s R2 _ => ⟨_, .inl (.inl (R2.ex _ _ (s _ _ q))), RepWs.mono p s r⟩⟩
  | loc k =>
    have e : (match S[k]? with
      | some (.l l) => _root_.B.R.ok (Kd.li, ws l, [(k, C.l l)])
      | some (.w l) => .ok (.li, l, [(k, .w l)])
      | _ => .stuck) = .ok (kd, l, wt) := e
    cases h with
    | loc ha =>
      rename_i a
      cases ec : S[k]? with
      | none => rw [ec] at e; cases e
      | some c =>
        rw [ec] at e
        cases c with
        | l xs =>
          cases e
          refine ⟨a, rfl, fun ρ2 G2 S2 H2 p s R2 wk => ?_⟩
          obtain ⟨b, h1, vs, h2, h3⟩ := R2.cell k _ (wk (k, .l xs) List.mem_cons_self)
          rw [p _ _ ha] at h1
          cases h1
          exact ⟨vs, .inl (.inl h2), h3.ws⟩
        | w xs =>
          cases e
          refine ⟨a, rfl, fun ρ2 G2 S2 H2 p s R2 wk => ?_⟩
          obtain ⟨b, h1, vs, h2, h3⟩ := R2.cell k _ (wk (k, .w _) List.mem_cons_self)
          rw [p _ _ ha] at h1
          cases h1
          exact ⟨vs, .inl (.inl h2), h3⟩
        | m _ _ => cases e
        | mw _ _ => cases e
        | o _ _ => cases e
theorem seqK_ex {w : W} {S : Sto} {x : Exc} {s : Sto} : seqK w S ≠ .ex x s := by
  unfold seqK
  intro h
  split at h <;> first | cases h | (split at h <;> cases h)
theorem seqK_watch {w : W} {S : Sto} {kd : Kd} {l : List W} {wt : Wt} (e : seqK w S = .ok (kd, l, wt)) : watchOk wt S := by
  unfold seqK at e
  split at e
  · cases e; exact watch_nil S
  · cases e; exact watch_nil S
  · cases e; exact watch_nil S
  · cases e; exact watch_nil S
  · cases e; exact watch_nil S
  · rename_i k
    split at e
    · rename_i q; cases e; intro p hp; rw [List.mem_singleton.mp hp]; exact q
    · rename_i q; cases e; intro p hp; rw [List.mem_singleton.mp hp]; exact q
    · cases e
  · cases e
theorem enW_get : ∀ (l : List W) (i j : Nat) (w : W), (enW i l)[j]? = some w → ∃ x, l[j]? = some x ∧ w = tupW [.d (.int ((i + j : Nat) : Int)), x]
  | [], i, j, w, h => by simp [enW] at h
  | x :: l, i, 0, w, h => by
    have h : some (tupW [.d (.int i), x]) = some w := h
    exact ⟨x, rfl, (Option.some.inj h).symm⟩
  | x :: l, i, j + 1, w, h => by
    have h : (enW (i + 1) l)[j]? = some w := h
    obtain ⟨y, h1, h2⟩ := enW_get l (i + 1) j w h
    exact ⟨y, h1, by rw [h2]; congr 4; omega⟩
theorem enW_len : ∀ (l : List W) (i : Nat), (enW i l).length = l.length
  | [], _ => rfl
  | x :: l, i => congrArg (· + 1) (enW_len l (i + 1))
theorem tupW_rep2 {ρ : List Addr} {G : Hp} {K : PySem.W.Frag} {x y : W} {u v : V} {p : Addr} (h : G p = some (.tup [u, v])) (r1 : RepW K ρ G x u) (r2 : RepW K ρ G y v) : RepW K ρ G (tupW [x, y]) (.ref p) := tupW_rep h (.cons r1 (.cons r2 .nil))
theorem si_en {te : TE} {m : Ev} (he : SimE B Wi te m) : SimIW B Wi (iEnumA B.K (tCons te tNil)) (iEn m) := by
  intro ρ G S H env σ Q R E h
  refine he ρ G S H env σ _ R E (postIW_bind (f := fun p => (seqK p.1 p.2).bind fun q => .ok (enW 0 q.2.1, q.2.2, p.2)) h fun w S1 ρ1 G1 H1 v l1 R1 r1 h1 => ?_)
  simp only at h1
  cases e : seqK w S1 with
  | stuck => rw [e] at h1; exact False.elim h1
  | ex x s => exact absurd e seqK_ex
  | ok q =>
    obtain ⟨kd, l, wt⟩ := q
    rw [e] at h1
    obtain ⟨a, rfl, hk⟩ := seqK_rep R1 e r1
    obtain ⟨vs, hv, _⟩ := hk ρ1 G1 S1 H1 (fun _ _ h => h) (fun _ _ h => h) R1 (seqK_watch e)
    cases kd with
    | li =>
      refine ⟨a, vs, rfl, .inl ⟨hv, h1 _ _ _ _ (Le.refl _ _ _) R1 fun i ρ2 G2 S2 H2 p s R2 wk => ?_⟩⟩
      obtain ⟨us, hu, ru⟩ := hk ρ2 G2 S2 H2 p s R2 wk
      refine ⟨fun hl => ⟨us, hu, by rw [← ru.length]; rw [enW_len] at hl; exact Nat.le_of_eq hl⟩, fun x hx => ?_⟩
      obtain ⟨y, hy, rfl⟩ := enW_get l 0 i x hx
      obtain ⟨u, gu, ry⟩ := ru.get hy
      refine ⟨⟨us, u, hu, gu⟩, fun xx H3 yy => ?_⟩
      obtain ⟨T, u2, rfl, hT, rfl, hall⟩ := yy
      have := (hall us hu).symm.trans gu
      cases this
      obtain ⟨R3, l3⟩ := R2.froz (.tup [.int ((i : Nat) : Int), u]) hT
      exact ⟨_, R3, l3, tupW_rep2 upd_same (.d (by rw [Nat.zero_add]; exact .int _)) (l3.w ry)⟩
    | tu =>
      refine ⟨a, vs, rfl, .inr ⟨hv, h1 _ _ _ _ (Le.refl _ _ _) R1 fun i ρ2 G2 S2 H2 p s R2 wk => ?_⟩⟩
      obtain ⟨us, hu, ru⟩ := hk ρ2 G2 S2 H2 p s R2 wk
      refine ⟨fun hl => ⟨us, hu, by rw [← ru.length]; rw [enW_len] at hl; exact Nat.le_of_eq hl⟩, fun x hx => ?_⟩
      obtain ⟨y, hy, rfl⟩ := enW_get l 0 i x hx
      obtain ⟨u, gu, ry⟩ := ru.get hy
      refine ⟨⟨us, u, hu, gu⟩, fun xx H3 yy => ?_⟩
      obtain ⟨T, u2, rfl, hT, rfl, hall⟩ := yy
      have := (hall us hu).symm.trans gu
      cases this
      obtain ⟨R3, l3⟩ := R2.froz (.tup [.int ((i : Nat) : Int), u]) hT
      exact ⟨_, R3, l3, tupW_rep2 upd_same (.d (by rw [Nat.zero_add]; exact .int _)) (l3.w ry)⟩
end
section
open PySem.Spec PyProof.Rows
variable {z : Zx} {k : Nat}
theorem sForWOk (ctx : Ctx k z) {tg it : Expr} {x : List Stmt} {mi : WkW} {mg : Tg} {s1 : Sx} {pos : Pos} (hi : OkIW z tg it mi) (hg : OkG z tg mg) (h1 : OkSs z x s1) (hs : ∀ x, foldedSetIterable it z.X.env x = pure x := by intro _; rfl) : OkS z (.For tg it x [] pos) (sForW mi mg s1) := ok_s (ps_for ctx.po ctx.calm hi hg.1 h1 hs) (ss_forW sim_iw hg.2 sim_g sim_s)
theorem iEnOk {e : Expr} {ma : Ev} {elts : List Expr} {kk : Nat} {p pos tpos : Pos} (ctx : Ctx k z) (hg : Gl z.X "enumerate") (hm : z.X.mg "enumerate" = none) (ha : OkE z e ma) (hs : starEach [e] z.X.env = [(false, eval e z.X.env)] := by rfl) :
    OkIW z (.Tuple elts kk tpos) (.Call (.Name "enumerate" p) [e] [] pos) (iEn ma) := ok_iw (pi_enumA hg hm (pa_cons ha pa_nil hs) hs) (si_en sim_e)
end
end B
/-! zip of a tuple and a list; find, index, startswith of texts; index of lists; >>; max of three. -/
namespace B
open PySem L2 PySem.Spec PyProof.Rows
/-! ### zip of things of either kind -/
def IsK : Kd → Heap → Addr → Array Value → Prop
  | .li => fun h a its => h.IsList a its
  | .tu => fun h a its => h.IsTuple a its
theorem IsK.lt : ∀ {kd : Kd} {h : Heap} {a : Addr} {its : Array Value}, IsK kd h a its → a < h.objs.size
  | .li, _, _, _, ⟨_, ho, _⟩ => Heap.lt_size ho
  | .tu, _, _, _, ⟨_, ho, _⟩ => Heap.lt_size ho
def zpM (x y : Kd × List W × Wt) (s : Sto) : R (List W × Wt × Sto) := .ok (zpW x.2.1 y.2.1, x.2.2 ++ y.2.2, s)
def iZm (a b : Ev) : WkW := fun e s => (a e s).bind fun p => (b e p.2).bind fun q => (seqK p.1 q.2).bind fun x => (seqK q.1 q.2).bind fun y => zpM x y q.2
section
variable {z : Zx} {k : Nat} {B : Bx} {Wi : WX}
end
section
variable {z : Zx} {k : Nat}
end
/-! ### texts: find, index, startswith -/
open StrLaws Builtin Builtin.Str in
open StrLaws Builtin Builtin.Str in
/-- the first place of a sign -/
def findC (c : Nat) (l : List Nat) : Option Nat := (List.range' 0 (l.length + 1)).find? fun i => l[i]? == some c
def bFind : D → D → R D
  | .str z, .str [c] => .ok (.int (match findC c z with | some i => (i : Int) | none => -1))
  | _, _ => .stuck
def bStarts : D → D → R D
  | .str x, .str y => .ok (.bl (decide (0 + y.length ≤ x.length) && ((x.drop 0).take y.length == y)))
  | _, _ => .stuck
section
variable {z : Zx} {k : Nat} {a b c : Expr} {ma mb mc : Ev} {pos p apos cpos : Pos}
/-! ### >> -/
/-! ### max(a, b, c) -/
def bMax3 (x y w : D) : R D := match x, y, w with
  | .int i, .int j, .int k => .ok (.int (let m := if j > i then j else i; if k > m then k else m))
  | _, _, _ => .stuck
def d3 (f : D → D → D → R D) : W → W → W → Sto → VS := fun x y w s => (dat s x).bind fun a => (dat s y).bind fun b => (dat s w).bind fun c => (f a b c).bind fun r => .ok (.d r, s)
/-! ### list.index -/
end
end B
/-! Unpacking a list. -/
namespace B
open PySem L2 PySem.Spec PyProof.Rows
section
variable {B : Bx}
end
section
variable {z : Zx} {k : Nat} {pos : Pos}
end
/-! len(set(..)) of whole numbers that differ -/
section
variable {B : Bx} {Wi : WX}
end
section
variable {z : Zx} {k : Nat} {a : Expr} {ma : Ev} {p p2 q pos : Pos}
end
end B
/-! Lists of the store, walked in a comprehension that is given to a name. -/
namespace B
open PySem L2 PySem.Spec PyProof.Rows
section
variable {z : Zx} {k : Nat}
end
end B
/-! The largest and the smallest of a list. -/
namespace B
open PySem L2 PySem.Spec PyProof.Rows
section
variable {z : Zx} {k : Nat} {a : Expr} {ma : Ev} {p pos : Pos}
end
end B
/-! int of a text of figures. -/
namespace B
open PySem L2 PySem.Spec PyProof.Rows
section
variable {z : Zx} {a : Expr} {ma : Ev} {p pos : Pos}
end
end B
/-! list(d), d a dict: its keys. -/
namespace B
open PySem L2 PySem.Spec PyProof.Rows
open Classical in
section
variable {B : Bx}
end
section
variable {K : PySem.W.Frag} {G : Hp}
end
section
variable {z : Zx} {k : Nat} {a : Expr} {ma : Ev} {p pos : Pos}
end
end B
/-! raise, try. -/
namespace B
open PySem L2 PySem.Spec PyProof.Rows
/-! ### raise -/
section
variable {z : Zx} {k : Nat}
end
/-! ### try -/
section
variable {z : Zx} {k : Nat}
end
end B
/-! In an except suite: isinstance(e, ..), e.f. -/
namespace B
open PySem L2 PySem.Spec PyProof.Rows
section
variable {z : Zx} {i : Nat} {a : Addr} {oe : Obj} {pn : List (Addr × Obj)} {x : Exc} {d : Option Addr} {G0 : Hp} {n : Str} {p p1 p2 pos : Pos} {tb : List Bool}
end
/-! ### own facts of the written part -/
section
variable {fa : List He.Fa} {fn : List He.DefD} {xs : List (PySem.W.Frag → Bool)} {K : PySem.W.Frag}
end
end B
/-! list(it), it an iterator: a range from its end. -/
namespace B
open PySem L2 PySem.Spec PyProof.Rows
section
variable {prog : Program} {w : World} {A : Around} {E : Value → Shared → Prop} {s : Shared}
variable {T : String} {it : Addr} {ds : List Addr} {n : Nat} {P : Nat → Value → Prop} {St : Nat → Heap → Prop}
end
theorem RepL.rev {K : PySem.W.Frag} {G : Hp} : ∀ {l : List D} {vs : List V}, RepL K G l vs → RepL K G l.reverse vs.reverse
  | _, _, .nil => .nil
  | _, _, .cons h r => by
    rw [List.reverse_cons, List.reverse_cons]
    exact (RepL.rev r).append (.cons h .nil)
section
variable {z : Zx} {k : Nat} {a : Expr} {ma : Ev} {p pos : Pos}
end
end B
/-! Objects: fields, methods, C(..). -/
namespace B
open PySem L2 PySem.Spec PyProof.Rows
def putB (f : List Nat) (w : W) : List (List Nat × W) → List (List Nat × W)
  | [] => [(f, w)]
  | (g, x) :: r => if g = f then (g, w) :: r else (g, x) :: putB f w r
/-- the object of class c at a place -/
def objO (c : Nat) (w : W) (s : Sto) : R (Nat × List (List Nat × W)) := match w with
  | .loc k => (match s[k]? with
    | some (.o d fs) => if d = c then .ok (k, fs) else .stuck
    | _ => .stuck)
  | _ => .stuck
def fldW (f : List Nat) (fs : List (List Nat × W)) (s : Sto) : VS := match fs.lookup f with
  | some w => .ok (w, s) | none => .stuck
def eFld (c : Nat) (f : List Nat) (a : Ev) : Ev := fun e s => (a e s).bind fun p => (objO c p.1 p.2).bind fun q => fldW f q.2 p.2
def sFldS (c : Nat) (f : List Nat) (a v : Ev) : Sx := fun e s => (v e s).bd e fun q => (a e q.2).bd e fun p => (objO c p.1 p.2).bd e fun r => need (decide (r.2.length < 1000)) (.ok (.nx e (p.2.set r.1 (.o c (putB f q.1 r.2)))))
def intW : W → R Int
  | .d (.int i) => .ok i | _ => .stuck
/-- o.f += e, whole numbers -/
def sFldA (c : Nat) (f : List Nat) (a v : Ev) : Sx := fun e s => (a e s).bd e fun p => (objO c p.1 p.2).bd e fun r => (fldW f r.2 p.2).bd e fun x => (intW x.1).bd e fun i => (v e p.2).bd e fun q => (intW q.1).bd e fun j =>
  (objO c p.1 q.2).bd e fun r2 => need (decide (r2.2.length < 1000)) (.ok (.nx e (q.2.set r2.1 (.o c (putB f (.d (.int (i + j))) r2.2)))))
/-- a call out of which nothing flies -/
def qv : VS → VS
  | .ok p => .ok p | _ => .stuck
def eMeth (c : Nat) (m : List Nat) (F : Fn) (a : Ev) (as : List Ev) : Ev := fun e s => (a e s).bind fun p => (objO c p.1 p.2).bind fun r => need (r.2.lookup m).isNone ((eAs as e p.2).bind fun q => qv (F (p.1 :: q.1) q.2))
def mkO (k : Nat) : VS → VS
  | .ok (.d .non, s) => .ok (.loc k, s)
  | _ => .stuck
def eMake (c : Nat) (F : Fn) (as : List Ev) : Ev := fun e s => (eAs as e s).bind fun q => mkO q.2.length (F (.loc q.2.length :: q.1) (q.2 ++ [.o c []]))
section
variable {B : Bx} {ρ : List Addr} {G H : Hp} {S : Sto}
theorem objO_rep {c : Nat} {w : W} {v : V} {q : Nat × List (List Nat × W)} (R : Rel B ρ G S H) (e : objO c w S = .ok q) (r : RepW B.K ρ G w v) :
    ∃ a dx vs, w = .loc q.1 ∧ v = .ref a ∧ ρ[q.1]? = some a ∧ S[q.1]? = some (.o c q.2) ∧ H a = some (.ins (B.oc c) dx vs) ∧ q.2.map (fun p => sof p.1) = vs.map (·.1) ∧ RepWs B.K ρ G (q.2.map (·.2)) (vs.map (·.2)) := by
  unfold objO at e
  split at e
  · rename_i k
    cases r with
    | loc ha =>
      obtain ⟨d, hd, hr⟩ := R.at_ ha
      rw [hd] at e
      cases d with
      | o d fs =>
        simp only at e
        by_cases hc : d = c
        · rw [if_pos hc] at e
          cases e
          subst hc
          obtain ⟨dx, vs, h1, h2, h3⟩ := hr
          exact ⟨_, dx, vs, rfl, rfl, ha, hd, h1, h2, h3⟩
        · rw [if_neg hc] at e; cases e
      | _ => cases e
  · cases e
theorem objO_ex (c : Nat) (w : W) (s : Sto) (x : Exc) (t : Sto) : objO c w s ≠ .ex x t := by
  unfold objO; intro h
  split at h
  · split at h
    · split at h <;> cases h
    · cases h
  · cases h
theorem lookB {f : List Nat} : ∀ (l : List (List Nat × W)) (vs : List (Str × V)), l.map (fun p => sof p.1) = vs.map (·.1) → RepWs B.K ρ G (l.map (·.2)) (vs.map (·.2)) → (∀ y, l.lookup f = some y → ∃ v, vs.lookup (sof f) = some v ∧ RepW B.K ρ G y v) ∧ (l.lookup f = none → vs.lookup (sof f) = none)
  | [], [], _, _ => ⟨fun _ h => (by cases h), fun _ => rfl⟩
  | [], _ :: _, h, _ => by simp at h
  | _ :: _, [], h, _ => by simp at h
  | (q1, q2) :: l, (r1, r2) :: vs, h1, h2 => by
    simp only [List.map_cons, List.cons.injEq] at h1
    cases h2 with
    | cons g1 g2 =>
      have ih := lookB (f := f) l vs h1.2 g2
      rw [List.lookup_cons, List.lookup_cons]
      by_cases c : f = q1
      · subst c
        rw [← h1.1, beq_self_eq_true, beq_self_eq_true]
        exact ⟨fun y e => (by cases e; exact ⟨r2, rfl, g1⟩), fun e => (by cases e)⟩
      · have c1 : (f == q1) = false := by simpa using c
        have c2 : (sof f == r1) = false := by rw [← h1.1]; simpa using fun e => c (sof_inj e)
        rw [c1, c2]
        exact ih
theorem putB_rep {f : List Nat} {w : W} {v : V} (hw : RepW B.K ρ G w v) : ∀ (l : List (List Nat × W)) (vs : List (Str × V)), l.map (fun p => sof p.1) = vs.map (·.1) → RepWs B.K ρ G (l.map (·.2)) (vs.map (·.2)) →
    (putB f w l).map (fun p => sof p.1) = (putF (sof f) v vs).map (·.1) ∧ RepWs B.K ρ G ((putB f w l).map (·.2)) ((putF (sof f) v vs).map (·.2))
  | [], [], _, _ => ⟨rfl, .cons hw .nil⟩
  | [], _ :: _, h, _ => by simp at h
  | _ :: _, [], h, _ => by simp at h
  | (q1, q2) :: l, (r1, r2) :: vs, h1, h2 => by
    simp only [List.map_cons, List.cons.injEq] at h1
    cases h2 with
    | cons g1 g2 =>
      have ih := putB_rep (f := f) hw l vs h1.2 g2
      unfold putB putF
      by_cases c : q1 = f
      · subst c
        rw [if_pos rfl, if_pos h1.1.symm]
        exact ⟨by simp [h1.1, h1.2], .cons hw g2⟩
      · have c2 : ¬ r1 = sof f := by rw [← h1.1]; exact fun e => c (sof_inj e)
        rw [if_neg c, if_neg c2]
        exact ⟨by simp [h1.1]; simpa using ih.1, .cons g1 ih.2⟩
theorem Rel.objSet (R : Rel B ρ G S H) {k c : Nat} {a : Addr} {dx : Addr} {vs' : List (Str × V)} {fs : List (List Nat × W)} (ha : ρ[k]? = some a) (hn : fs.map (fun p => sof p.1) = vs'.map (·.1)) (hr : RepWs B.K ρ G (fs.map (·.2)) (vs'.map (·.2))) :
    Rel B ρ G (S.set k (.o c fs)) (upd H a (.ins (B.oc c) dx vs')) ∧ Le ρ G H ρ G (upd H a (.ins (B.oc c) dx vs')) := R.cellSet ha ⟨dx, vs', upd_same, hn, hr⟩
end
section
variable {z : Zx} {j k c : Nat} {o e v : Expr} {es : List Expr} {mo mv m : Ev} {ms : List Ev} {pos tpos apos p : Pos}
theorem kFld (f : List Nat) {fs : Str} (hf : fs = sof f) (cl : Cls z.X.K (z.oc c)) (na : NoAttr z.X.K (z.oc c) fs) (ho : OkE z o mo) (hb : attributeBase o fs z.X.env (eval o z.X.env) = eval o z.X.env := by rfl) : OkE z (.Attribute o fs pos) (eFld c f mo) := by
  refine ok_e (pe_fld ho hb) ?_
  intro ρ G S H env σ Q R E h
  refine sim_e ρ G S H env σ _ R E (post_bind h fun w S1 ρ1 G1 H1 v l1 R1 r1 h1 => ?_)
  simp only at h1
  cases e1 : objO c w S1 with
  | stuck => rw [e1] at h1; exact False.elim h1
  | ex x t => exact absurd e1 (objO_ex _ _ _ _ _)
  | ok q =>
    rw [e1, _root_.B.R.bind_ok] at h1
    obtain ⟨a, dx, vs, g1, g2, g3, g4, g5, g6, g7⟩ := objO_rep R1 e1 r1
    unfold fldW at h1
    cases e2 : q.2.lookup f with
    | none => rw [e2] at h1; exact False.elim h1
    | some y =>
      rw [e2] at h1
      obtain ⟨u, u1, u2⟩ := (lookB _ _ g6 g7).1 y e2
      exact ⟨a, _, dx, vs, u, g2, g5, cl, na, by rw [hf]; exact u1, h1 _ _ _ _ (Le.refl _ _ _) R1 u2⟩
theorem sFldOk (f : List Nat) {fs : Str} (hf : fs = sof f) (cl : Cls z.X.K (z.oc c)) (na : NoAttr z.X.K (z.oc c) fs) (ho : OkE z o mo) (hv : OkE z v mv) (hs : swapsWith v (some (.Attribute o fs tpos)) pos.line z.X.env = pure false := by rfl) :
    OkS z (.Assign [.Attribute o fs tpos] v pos) (sFldS c f mo mv) := by
  refine ok_s (ps_fld ho hv hs) ?_
  intro ρ G S H env σ D R E h
  refine sim_e ρ G S H env σ _ R E (postS_bd E h fun w S1 ρ1 G1 H1 y l1 R1 r1 h1 => ?_)
  have E1 := l1.env E
  refine sim_e ρ1 G1 S1 H1 env σ _ R1 E1 (postS_bd E1 h1 fun w2 S2 ρ2 G2 H2 x l2 R2 r2 h2 => ?_)
  simp only at h2
  cases e1 : objO c w2 S2 with
  | stuck => rw [e1] at h2; exact False.elim h2
  | ex x t => exact absurd e1 (objO_ex _ _ _ _ _)
  | ok q =>
    rw [e1, _root_.B.R.bd_ok] at h2
    obtain ⟨a, dx, vs, g1, g2, g3, g4, g5, g6, g7⟩ := objO_rep R2 e1 r2
    by_cases hl : q.2.length < 1000
    · rw [need_of (decide_eq_true hl)] at h2
      obtain ⟨p1, p2⟩ := putB_rep (f := f) (l2.w r1) _ _ g6 g7
      obtain ⟨R3, l3⟩ := R2.objSet (dx := dx) g3 p1 p2
      refine ⟨a, _, dx, vs, g2, g5, cl, na, ?_, ?_⟩
      · have := congrArg List.length g6
        simp only [List.length_map] at this
        omega
      · rw [hf]; exact h2 _ _ _ _ l3 R3 (l3.env (l2.env E1))
    · rw [show decide (q.2.length < 1000) = false from decide_eq_false hl] at h2; exact False.elim h2
theorem intW_rep {K : PySem.W.Frag} {ρ : List Addr} {G : Hp} {w : W} {v : V} {i : Int} (e : intW w = .ok i) (r : RepW K ρ G w v) : v = .int i := by
  unfold intW at e
  split at e
  · cases e; exact rep_int r
  · cases e
theorem intW_ex (w : W) (x : Exc) (t : Sto) : intW w ≠ .ex x t := by unfold intW; intro h; split at h <;> cases h
def FnM (P : Program) (w : World) (K : PySem.W.Frag) (mg : Str → Option Value) (base : Heap) (xc : Nat → Value) (oc : Nat → Addr) (k : Nat) (f : Addr) (ps : List Str) (fn : Fn) : Prop :=
  ∃ fd : FuncData, PySem.W.keepIn K (.ref f) = true ∧ Binds K fd ps [] ∧ FnOk P w K mg base (L2.CX P w) k f fd ps (spM ⟨K, xc, oc, none⟩ ps.length fn)
theorem post_qv {B : Bx} {Wi E : XK} {ρ : List Addr} {G H : Hp} {r : VS} {Q : VK} (h : Post B Wi ρ G H (qv r) Q) : Post B E ρ G H r Q := by
  cases r with
  | ok p => exact h
  | stuck => exact h
  | ex x s => exact False.elim h
/-- o.m(e, ..) -/
theorem kMeth {ps : List Str} {F : Fn} {f : Addr} {mm : Str} {pl : Sem Bool} (ctx : Ctx j z) (mc : List Nat) (hmc : mm = sof mc) (cl : Cls z.X.K (z.oc c)) (hm : Meth z.X.K (z.oc c) mm f) (hF : FnM z.X.prog z.X.w z.X.K z.X.mg z.X.base z.xc z.oc k f ps F) (hk : k ≤ j)
    (ho : OkE z o mo) (ha : OkA z (e :: es) (m :: ms)) (hn : (m :: ms).length + 1 = ps.length := by rfl)
    (hst : starEach (e :: es) z.X.env = (false, eval e z.X.env) :: starEach es z.X.env := by rfl) (hpl : (backTo pos (starEach es z.X.env)).any (·.1) = false := by rfl)
    (ht : eval (.Call (.Attribute o mm apos) (e :: es) [] pos) z.X.env = (do
      let ov ← eval o z.X.env
      standAt apos.atName
      let (f, first) ← holding [ov] (getMethod ov mm pl)
      callWith pos f first (backTo pos (starEach (e :: es) z.X.env)) (backToKw pos (keywordEach [] z.X.env))) := by rfl) :
    OkE z (.Call (.Attribute o mm apos) (e :: es) [] pos) (eMeth c mc F mo (m :: ms)) := by
  obtain ⟨fd, h1, h2, h3⟩ := hF
  refine ok_e (pe_meth (dvs := []) (ds := []) (E := E0) ho cl hm h3 (ctx.hr.mono hk) h2 .nil L2.passL ha hst hpl ht) ?_
  intro ρ G S H env σ Q R E h
  refine sim_e ρ G S H env σ _ R E (post_bind h fun w S1 ρ1 G1 H1 x l1 R1 r1 h1 => ?_)
  simp only at h1
  cases e1 : objO c w S1 with
  | stuck => rw [e1] at h1; exact False.elim h1
  | ex x t => exact absurd e1 (objO_ex _ _ _ _ _)
  | ok q =>
    rw [e1, _root_.B.R.bind_ok] at h1
    obtain ⟨a, dx, vs, g1, g2, g3, g4, g5, g6, g7⟩ := objO_rep R1 e1 r1
    obtain ⟨hno, h1⟩ := postN h1
    refine ⟨a, dx, vs, g2, g5, by rw [hmc]; exact (lookB _ _ g6 g7).2 (Option.isNone_iff_eq_none.mp hno), ?_⟩
    refine sim_a ρ1 G1 S1 H1 env σ _ R1 (l1.env E) ?_
    cases e2 : eAs (m :: ms) env S1 with
    | stuck => rw [e2] at h1; exact h1
    | ex y S2 => rw [e2] at h1; exact h1
    | ok t =>
      rw [e2] at h1
      intro ρ2 G2 H2 us l2 R2 r2
      have h2' := post_le l2 h1
      rw [List.append_nil]
      refine spM_unpin (p := z.pin) ⟨?_, ρ2, G2, t.2, w :: t.1, R2, .cons (l2.w r1) r2, post_qv h2'⟩
      rw [List.length_cons, ← r2.length, eAs_len e2, hn]
theorem kMeth0 {ps : List Str} {F : Fn} {f : Addr} {mm : Str} {pl : Sem Bool} (ctx : Ctx j z) (mc : List Nat) (hmc : mm = sof mc) (cl : Cls z.X.K (z.oc c)) (hm : Meth z.X.K (z.oc c) mm f) (hF : FnM z.X.prog z.X.w z.X.K z.X.mg z.X.base z.xc z.oc k f ps F) (hk : k ≤ j)
    (ho : OkE z o mo) (hn : 1 = ps.length := by rfl)
    (ht : eval (.Call (.Attribute o mm apos) [] [] pos) z.X.env = (do
      let ov ← eval o z.X.env
      standAt apos.atName
      let (f, first) ← holding [ov] (getMethod ov mm pl)
      callWith pos f first (backTo pos (starEach [] z.X.env)) (backToKw pos (keywordEach [] z.X.env))) := by rfl) :
    OkE z (.Call (.Attribute o mm apos) [] [] pos) (eMeth c mc F mo []) := by
  obtain ⟨fd, h1, h2, h3⟩ := hF
  refine ok_e (pe_meth0 (dvs := []) (ds := []) (E := E0) ho cl hm h3 (ctx.hr.mono hk) h2 .nil L2.passL ht) ?_
  intro ρ G S H env σ Q R E h
  refine sim_e ρ G S H env σ _ R E (post_bind h fun w S1 ρ1 G1 H1 x l1 R1 r1 h1 => ?_)
  simp only at h1
  cases e1 : objO c w S1 with
  | stuck => rw [e1] at h1; exact False.elim h1
  | ex x t => exact absurd e1 (objO_ex _ _ _ _ _)
  | ok q =>
    rw [e1, _root_.B.R.bind_ok] at h1
    obtain ⟨a, dx, vs, g1, g2, g3, g4, g5, g6, g7⟩ := objO_rep R1 e1 r1
    obtain ⟨hno, h1⟩ := postN h1
    refine ⟨a, dx, vs, g2, g5, by rw [hmc]; exact (lookB _ _ g6 g7).2 (Option.isNone_iff_eq_none.mp hno), ?_⟩
    exact spM_unpin (p := z.pin) ⟨hn, ρ1, G1, S1, [w], R1, .cons r1 .nil, post_qv h1⟩
/-- C(e, ..) -/
theorem make_post {B : Bx} {ρ : List Addr} {G H : Hp} {S : Sto} {l : List W} {vs : List V} {F : Fn} {Wi : XK} {Q : VK} {n : Nat} (R : Rel B ρ G S H) (r : RepWs B.K ρ G l vs) (hn : vs.length + 1 = n) (h : Post B Wi ρ G H (mkO S.length (F (.loc S.length :: l) (S ++ [.o c []]))) Q) :
    ∀ x dx, H x = none → H dx = none → dx ≠ x → spM B n F (.ref x :: (vs ++ [])) (upd (upd H dx (.own x)) x (.ins (B.oc c) dx [])) (fun v H2 => v = .non ∧ Q (.ref x) H2) E0 := by
  intro x dx hx hdx hne
  obtain ⟨R1, l1⟩ := R.grow (.own x) hdx
  have hx1 : upd H dx (.own x) x = none := by rw [upd_ne (Ne.symm hne)]; exact hx
  obtain ⟨R2, l2⟩ := R1.cellNew (o := .ins (B.oc c) dx []) (c := .o c []) hx1 ⟨dx, [], upd_same, rfl, .nil⟩
  have l12 := l1.trans l2
  rw [List.append_nil]
  have hix : (ρ ++ [x])[S.length]? = some x := by rw [← R.len]; simp
  refine ⟨by rw [List.length_cons, hn], ρ ++ [x], G, _, .loc S.length :: l, R2, .cons (.loc hix) (l12.ws r), ?_⟩
  cases e : F (.loc S.length :: l) (S ++ [.o c []]) with
  | stuck => rw [e] at h; exact h
  | ex y s => rw [e] at h; exact False.elim h
  | ok q =>
    rw [e] at h
    obtain ⟨w, s⟩ := q
    unfold mkO at h
    split at h
    · rename_i e2
      cases e2
      intro ρ' G' H' v le R' rv
      have hv : v = .non := by cases rv with | d rv => cases rv; rfl
      exact ⟨hv, h ρ' G' H' (.ref x) (l12.trans le) R' (.loc (le.ix _ _ hix))⟩
    · exact False.elim h
theorem kMake {ps : List Str} {F : Fn} {f : Addr} {x : Str} (ctx : Ctx j z) (M : Mk z.X.K (z.oc c) f) (hF : FnM z.X.prog z.X.w z.X.K z.X.mg z.X.base z.xc z.oc k f ps F) (hk : k + 1 ≤ j) (hg : Gl z.X x) (hmg : z.X.mg x = some (.ref (z.oc c)))
    (ha : OkA z (e :: es) (m :: ms)) (hn : (m :: ms).length + 1 = ps.length := by rfl) (hdb : (x == ("__debug__" : Str)) = false := by decide)
    (he : starEach (e :: es) z.X.env = (false, eval e z.X.env) :: starEach es z.X.env := by rfl) (hpl : (backTo pos (starEach es z.X.env)).any (·.1) = false := by rfl) :
    OkE z (.Call (.Name x p) (e :: es) [] pos) (eMake c F (m :: ms)) := by
  obtain ⟨fd, h1, h2, h3⟩ := hF
  refine ok_e (pe_make (dvs := []) (ds := []) (E := E0) M h3 (ctx.hr.mono hk) hg hmg h2 .nil L2.passL ha hdb he hpl) ?_
  intro ρ G S H env σ Q R E h
  refine sim_a ρ G S H env σ _ R E ?_
  have h' : Post z.B (atS z.Wi σ) ρ G H ((eAs (m :: ms) env S).bind fun q => mkO q.2.length (F (.loc q.2.length :: q.1) (q.2 ++ [.o c []]))) Q := h
  cases e2 : eAs (m :: ms) env S with
  | stuck => rw [e2] at h'; exact h'
  | ex y S2 => rw [e2] at h'; exact h'
  | ok t =>
    rw [e2] at h'
    intro ρ2 G2 H2 us l2 R2 r2 x dx hx hdx hne
    exact spM_unpin (p := z.pin) (make_post R2 r2 (by rw [← r2.length, eAs_len e2, hn]) (post_le l2 h') x dx hx hdx hne)
/-- o.f += e -/
theorem sFldAOk (f : List Nat) {fs : Str} (hf : fs = sof f) (cl : Cls z.X.K (z.oc c)) (na : NoAttr z.X.K (z.oc c) fs) (ho : OkE z o mo) (hv : OkE z v mv) :
    OkS z (.AugAssign (.Attribute o fs tpos) .Add v pos) (sFldA c f mo mv) := by
  refine ok_s (ps_fldaug ho hv in_add) ?_
  intro ρ G S H env σ D R E h
  refine sim_e ρ G S H env σ _ R E (postS_bd E h fun w S1 ρ1 G1 H1 x l1 R1 r1 h1 => ?_)
  have E1 := l1.env E
  simp only at h1
  cases e1 : objO c w S1 with
  | stuck => rw [e1] at h1; exact False.elim h1
  | ex x t => exact absurd e1 (objO_ex _ _ _ _ _)
  | ok q =>
    rw [e1, _root_.B.R.bd_ok] at h1
    obtain ⟨a, dx, vs, g1, g2, g3, g4, g5, g6, g7⟩ := objO_rep R1 e1 r1
    unfold fldW at h1
    cases e2 : q.2.lookup f with
    | none => rw [e2] at h1; exact False.elim h1
    | some y =>
      rw [e2, _root_.B.R.bd_ok] at h1
      obtain ⟨u, u1, u2⟩ := (lookB _ _ g6 g7).1 y e2
      simp only at h1
      cases e3 : intW y with
      | stuck => rw [e3] at h1; exact False.elim h1
      | ex x t => exact absurd e3 (intW_ex _ _ _)
      | ok i =>
        rw [e3, _root_.B.R.bd_ok] at h1
        have hu := intW_rep e3 u2
        subst hu
        refine ⟨a, _, dx, vs, .int i, g2, g5, cl, na, by rw [hf]; exact u1, ?_⟩
        refine sim_e ρ1 G1 S1 H1 env σ _ R1 E1 (postS_bd E1 h1 fun w2 S2 ρ2 G2 H2 x2 l2 R2 r2 h2 => ?_)
        simp only at h2
        cases e4 : intW w2 with
        | stuck => rw [e4] at h2; exact False.elim h2
        | ex x t => exact absurd e4 (intW_ex _ _ _)
        | ok j =>
          rw [e4, _root_.B.R.bd_ok] at h2
          have hx := intW_rep e4 r2
          subst hx
          cases e5 : objO c w S2 with
          | stuck => rw [e5] at h2; exact False.elim h2
          | ex x t => exact absurd e5 (objO_ex _ _ _ _ _)
          | ok q2 =>
            rw [e5, _root_.B.R.bd_ok] at h2
            obtain ⟨a2, dx2, vs2, k1, k2, k3, k4, k5, k6, k7⟩ := objO_rep R2 e5 (l2.w r1)
            have ea : a2 = a := by
              rw [g2] at k2; cases k2; rfl
            subst ea
            by_cases hl : q2.2.length < 1000
            · rw [need_of (decide_eq_true hl)] at h2
              obtain ⟨p1, p2⟩ := putB_rep (f := f) (RepW.d (Rep.int (i + j))) _ _ k6 k7
              obtain ⟨R3, l3⟩ := R2.objSet (dx := dx2) k3 p1 p2
              refine ⟨i, j, rfl, rfl, dx2, vs2, k5, ?_, ?_⟩
              · have := congrArg List.length k6
                simp only [List.length_map] at this
                omega
              · rw [hf]; exact h2 _ _ _ _ l3 R3 (l3.env (l2.env E1))
            · rw [show decide (q2.2.length < 1000) = false from decide_eq_false hl] at h2; exact False.elim h2
end
section
variable {P : Program} {w : World} {K : PySem.W.Frag} {mg : Str → Option Value} {base : Heap} {xc : Nat → Value} {oc : Nat → Addr} {name qual : Str} {params : Arguments} {body : List Stmt} {scope : Scope} {f : Addr} {fd : FuncData} {N ps : List Str} {k : Nat} {b : Sx}
theorem fnMF (F : FunD K name qual params body scope [] [] f fd) (hbind : ∀ (kV doc pm : Value) (an : Option Addr) (cdv ct : Value) (us : List Value), us.length = ps.length → bindArgs (PySem.W.fnOf name qual params body scope .none kV doc pm an cdv ct) ⟨us, []⟩ = pure (ps.zip us))
    (S : FnScope N ps scope) (hN : ps.length ≤ N.length)
    (hb : ∀ (cdv : Value) (A : Around) (outer : List PySem.Env) (s : Shared) (H : Hp) (E : XK), Ctx k (zOf P w K mg base xc oc N qual scope f cdv A outer s H E) → OkSs (zOf P w K mg base xc oc N qual scope f cdv A outer s H E) body b) :
    FnM P w K mg base xc oc (k + 1) f ps (mkF N.length b) := ⟨fd, F.kp, F.bindsN hbind, fnOkF F S hN hb⟩
theorem fnMK (F : FunD K name qual params body scope [] [] f fd) (hbind : ∀ (kV doc pm : Value) (an : Option Addr) (cdv ct : Value) (us : List Value), us.length = ps.length → bindArgs (PySem.W.fnOf name qual params body scope .none kV doc pm an cdv ct) ⟨us, []⟩ = pure (ps.zip us))
    (S : FnScope N ps scope) (hN : ps.length ≤ N.length)
    (hb : ∀ (cdv : Value) (A : Around) (outer : List PySem.Env) (s : Shared) (H : Hp) (E : XK), Ctx k (zOf P w K mg base xc oc N qual scope f cdv A outer s H E) → OkSs (zOf P w K mg base xc oc N qual scope f cdv A outer s H E) body b) :
    FnM P w K mg base xc oc (k + 1) f ps (mkK N.length b) := ⟨fd, F.kp, F.bindsN hbind, fnOkK F S hN hb⟩
end
theorem law_endO {rw : PySem.W.OpenLaw} {w : World} {mg : Str → Option Value} {fa : Addr} {h : Heap} {K : PySem.W.Frag} {Y : PySem.W.Frag → Prop} (xc : PySem.W.Frag → Nat → Value) (oc : PySem.W.Frag → Nat → Addr) {Tx : PySem.W.Frag → (Str → Option Value) → Prop} {k : Nat} {f : Fn} {qual : Str} {params : Arguments} {body : List Stmt} {scope : Scope} {x : Str}
    (KX : K.In h) (G : h.Ns mainGlobals mg) (hmg : mg ("law" : Str) = some (.ref fa)) (c : Y K)
    (tx : ∀ {K : PySem.W.Frag} {h : Heap} {mg : Str → Option Value}, K.In h → h.Ns mainGlobals mg → Y K → Tx K mg)
    (d : ∀ {K : PySem.W.Frag} {mg : Str → Option Value}, Tx K mg → ∃ fd, FunD K "law" qual params body scope [] [] (He.ga K "law") fd)
    (g : ∀ {K : PySem.W.Frag} {mg : Str → Option Value}, Tx K mg → mg "law" = some (.ref (He.ga K "law")))
    (hbind : ∀ (kV doc pm : Value) (an : Option Addr) (cdv ct : Value) (us : List Value), us.length = [x].length → bindArgs (PySem.W.fnOf "law" qual params body scope .none kV doc pm an cdv ct) ⟨us, []⟩ = pure ([x].zip us))
    (F : ∀ (T : Tx K mg) (base : Heap), FnB rw.prog w K mg base (xc K) (oc K) k "law" [x] f)
    (ok : ∀ ns : List Int, ns.length ≤ 63 → f [.d (.inp (ns.map .int))] [] = .ok (.d (.bl true), [])) :
    ∃ (K : PySem.W.Frag) (fd : FuncData) (sp : Sp), K.In h ∧ (∀ (s : Shared) (u : Value), BindsTo s fd ⟨[u], []⟩ [(x, u)]) ∧
        (∀ (H : Hp) (a : Addr) (ns : List Int), ns.length ≤ 63 → Only H → SqL K H a (ns.map V.int) → sp [.ref a] H (fun v _ => v = .bl true) fun _ _ _ => False) ∧
        ∀ base : Heap, K.In base → base.Ns mainGlobals mg → FnOk rw.prog w K mg base CX0 k fa fd [x] sp := by
  have T := tx KX G c
  obtain ⟨fd, FD⟩ := d T
  have e := hmg.symm.trans (g T)
  cases e
  refine ⟨K, fd, fun vs H Q _ => spM ⟨K, xc K, oc K, none⟩ 1 f vs H Q fun _ _ _ => False, KX, fun s u => FunD.bindsA (ps := [x]) FD hbind s [u] rfl, fun H a ns hl _ hS => ?_, fun base _ _ => ?_⟩
  · refine ⟨rfl, [], H, [], [.d (.inp (ns.map .int))], rel_nil fun _ _ h => h, .cons (.d (.inp hS (ints_int ns))) .nil, ?_⟩
    rw [ok ns hl]
    intro ρ' G' H' v le R r
    exact rep_bl r
  · obtain ⟨a, fd2, h1, h2, ⟨oc2, od2, osl2, h3⟩, _, h4⟩ := F T base
    have e1 := h1.symm.trans (g T)
    cases e1
    obtain ⟨oc, od, osl, lk⟩ := lkOf FD
    rw [lk] at h3
    cases h3
    exact no_x h4
end B
/-! further rules -/
namespace B
open PySem L2
/-! list(d), d a dict of the store -/
section
variable {K : PySem.W.Frag} {G : Hp} {α : Type}
end
section
variable {z : Zx} {k : Nat} {a : Expr} {ma : Ev} {p pos : Pos}
end
end B
/-! Products of many bits; the end of a row with the script's bits told. -/
namespace B
open PySem L2 PySem.Spec PyProof.Rows
/-! len of a dict of the store -/
section
variable {z : Zx} {k : Nat} {a : Expr} {ma : Ev} {p pos : Pos}
end
end B
/-! a is True, a is False: truths. -/
namespace B
open PySem L2 PySem.Spec PyProof.Rows
end B
/-! x in T, T a tuple of texts of the module. -/
namespace B
open PySem L2 PySem.Spec PyProof.Rows
section
variable {z : Zx} {e : Expr} {m : Ev} {x : Str} {a : Addr} {pos : Pos}
end
end B
/-! Walks over a dict of data, locked meanwhile; a tail upon data. -/
namespace B
open PySem L2 PySem.Spec PyProof.Rows
section
variable {a : Addr} {G1 G2 : Hp} {K : PySem.W.Frag}
variable {ρ : List Addr}
variable {B : Bx} {H1 H2 : Hp} {b : Addr}
end
section
variable {B : Bx} {Wi : WX} {ρ : List Addr} {G H : Hp} {S : Sto} {a : Addr} {o : Obj} {u : HO}
end
section
variable {z : Zx} {k : Nat}
end
/-! ### a tail upon data -/
end B
/-! setdefault, items, tails upon data with dicts of lists. -/
namespace B
open PySem L2 PySem.Spec PyProof.Rows
section
variable {B : Bx} {Wi : WX}
end
/-! ### for k, v in d.items() -/
section
variable {B : Bx} {Wi : WX} {ρ : List Addr} {G H : Hp} {S : Sto} {a : Addr} {o : Obj}
end
section
variable {z : Zx} {k : Nat}
end
/-! ### a tail upon data, dicts of lists too -/
end B
/-! defs with defaults, every parameter written -/
namespace B
open PySem L2 PySem.Spec PyProof.Rows
section
variable {P : Program} {w : World} {K : PySem.W.Frag} {mg : Str → Option Value} {base : Heap} {xc : Nat → Value} {oc : Nat → Addr} {x qual : Str} {params : Arguments} {body : List Stmt} {scope : Scope} {f : Addr} {fd : FuncData} {N ps : List Str} {k : Nat} {b : Sx} {dvs : List V}
end
end B
/-! d.get(k, x) -/
namespace B
open PySem L2 PySem.Spec PyProof.Rows
section
variable {B : Bx} {Wi : WX}
end
section
variable {z : Zx} {k : Nat}
end
end B
/-! sorted of pairs of a text and a whole number -/
namespace SrtO
open PySem PyProof.Rows Srt
section
variable {prog : Program} {w : World} {A : Around} {E : Value → Shared → Prop} {s : Shared}
end
end SrtO
namespace L2
open PySem PySem.Spec PyProof.Rows
section
variable {X : Cx}
end
end L2
/-! sorted of pairs of a text and a whole number: as a step of B -/
namespace B
open PySem L2 PySem.Spec PyProof.Rows
section
variable {z : Zx} {k : Nat} {ma : Ev} {a : Expr} {p pos : Pos}
end
end B
/-! tuple(reversed(a tuple)) -/
namespace RT
open PySem PySem.Spec PyProof.Rows
section
variable {prog : Program} {w : World} {A : Around} {E : Value → Shared → Prop} {s : Shared}
/-! ### tuple(reversed(a tuple)) -/
end
end RT
namespace RZ
open PySem PySem.Spec PyProof.Rows L2 RT
section
variable {X : Cx}
end
end RZ
namespace B
open PySem L2 PySem.Spec PyProof.Rows
section
variable {B : Bx} {Wi : WX}
end
section
variable {z : Zx} {k : Nat} {a : Expr} {ma : Ev} {p p2 q pos : Pos}
end
end B
/-! a[lo::st] of a list, st above 0. -/
namespace B
open PySem L2 PySem.Spec PyProof.Rows
/-! ### the B term -/
section
variable {z : Zx} {a : Expr} {ma : Ev} {pos : Pos}
end
end B
/-! sorted of a list of texts, fewer than 64 -/
namespace B
open PySem L2 PySem.Spec PyProof.Rows
section
variable {z : Zx} {k : Nat} {ma : Ev} {a : Expr} {p pos : Pos}
end
end B
/-! d.get(k, x) of a dict in the store or told as data; calls where defaults fill up -/
namespace B
open PySem L2 PySem.Spec PyProof.Rows
section
variable {B : Bx} {Wi : WX}
end
section
variable {z : Zx} {k : Nat}
end
/-! ### defaults fill up -/
theorem RepWs.app {K : PySem.W.Frag} {ρ : List Addr} {G : Hp} : ∀ {l : List W} {vs : List V} {m : List W} {us : List V}, RepWs K ρ G l vs → RepWs K ρ G m us → RepWs K ρ G (l ++ m) (vs ++ us)
  | _, _, _, _, .nil, h => h
  | _, _, _, _, .cons h r, h2 => .cons h (RepWs.app r h2)
section
variable {z : Zx} {j k : Nat} {x : Str} {ps : List Str} {f : Fn} {e : Expr} {es : List Expr} {m : Ev} {ms : List Ev} {p pos : Pos} {dvs : List V}
end
/-! ### a def that tells a dict of lists which it made -/
/-! ### tuples joined, the left one may be empty -/
end B
/-! raise C(e, ..) where C's own __init__ sets fields. -/
namespace B
open PySem L2 PySem.Spec PyProof.Rows
section
variable {X : Cx} {e : Expr} {es : List Expr} {ta : TA} {x : Str} {p1 p2 pos : Pos} {Bc : Addr}
end
/-! ### such an __init__ -/
/-! ### the raise -/
section
variable {z : Zx} {k j : Nat} {C fI : Addr} {x f1 : Str} {p pos pos' : Pos} {e : Expr} {es : List Expr} {m : Ev} {ms : List Ev} {ps : List Str}
end
section
variable {z : Zx} {k j : Nat} {C fI : Addr} {x f1 f2 : Str} {p pos pos' : Pos} {e : Expr} {es : List Expr} {m : Ev} {ms : List Ev} {ps : List Str}
end
/-! ### the hook with the interpreter's own statics -/
end B
/-! t[lo::st] of a tuple, st above 0. -/
namespace B
open PySem L2 PySem.Spec PyProof.Rows HT
section
variable {prog : Program} {w : World} {A : Around} {E : Value → Shared → Prop} {s : Shared}
end
section
variable {z : Zx} {a : Expr} {ma : Ev} {pos : Pos}
end
end B
/-! A caught exception kept: except X as e: y = e; later isinstance(y, ..), y.f. -/
namespace L2
open PySem PySem.Spec PyProof.Rows
section
variable {X : Cx} {pins : List (Addr × Obj)} {σ : St} {H : Hp} {s : Shared}
end
section
variable {X : Cx} {x n : Str} {c : Value} {i : Nat} {body suite : List Stmt} {b₀ : Stmt} {np pos pos' : Pos} {tb : WX → TS} {ts : Addr → Value → Option Addr → TS} {Wout : WX}
end
end L2
namespace B
open PySem L2 PySem.Spec PyProof.Rows
section
variable {z : Zx} {k : Nat}
end
/-! ### isinstance of such a value, or of None -/
section
variable {z : Zx} {p p2 pos : Pos} {tb : List (List Nat × Bool)} {a : Expr} {ma : Ev}
end
/-! ### y.f -/
end B
/-! try: b / except X: h / else: el. -/
namespace B
open PySem L2 PySem.Spec PyProof.Rows
section
variable {z : Zx} {k : Nat}
end
end B
/-! A tail for which the cells from m on are data, the ones ahead stay. -/
namespace B
open PySem L2
end B
/-! y = [a for t in d], d a dict that an expression yields: it is locked from then on until the list is done. -/
namespace L2
open PySem PySem.Spec PyProof.Rows
section
variable {X : Cx}
end
end L2
namespace B
open PySem L2
open L2 (It)
section
variable {B : Bx} {Wi : WX}
end
section
variable {z : Zx} {k : Nat}
end
end B
/-! list(reversed(x)), x a list: a new list of the store. -/
namespace RT
open PySem PySem.Spec PyProof.Rows
section
variable {prog : Program} {w : World} {A : Around} {E : Value → Shared → Prop} {s : Shared}
def RevAt (items : Array Value) (i : Nat) (v : Value) : Prop := items[items.size - 1 - i]? = some v
theorem extend_rev {it l S : Addr} {items : Array Value} {R : Result → Shared → Prop} {c₀ : Nat} (hh : A.handled = none) (hit : s.heap.IsRevIter it l ((items.size : Int) - 1)) (hl : s.heap.IsList l items) (hne : l ≠ it) (hn : items.size ≤ sizeLine)
    (hS : s.heap.get? S = some { cls := .type "list", data := .seq #[] c₀ }) (hSi : S ≠ it) (hSl : S ≠ l)
    (hR : ∀ h' tk acc' c', (∀ b o, b ≠ S → b ≠ it → s.heap.get? b = some o → h'.get? b = some o) → h'.get? S = some { cls := .type "list", dict := none, data := .seq acc' c', slots := #[] } →
      ItemsOf (RevAt items) acc' items.size → R (.ok (.ret .none)) { s with heap := h', toks := tk }) :
    wpAny (model prog w) A.in1 (Builtin.List.listExtendWith (.ref S) (.ref it) .none)
      (fun fin s' => match fin with | .done f => R (.ok f) s' | .again c' => c'.quiet = true ∧ codeAny (model prog w) A c' R s') (fun e s' => R (.error e) s') s := by
  have W := (Walks.listRev (prog := prog) (w := w) (A := A.in1) hh it l hne items).toS
  have hSf : S ∉ [it, l] := by simp only [List.mem_cons, List.not_mem_nil, or_false, not_or]; exact ⟨hSi, hSl⟩
  have hT : s.TypeIs (.ref it) "list_reverseiterator" := hit.typeIs
  have h1 : Builtin.List.listSameRef (.ref S) (.ref it) = false := by simp [Builtin.List.listSameRef, hSi]
  unfold Builtin.List.listExtendWith
  refine wpAny_bind (wpAny_typeOf hT ?_)
  rw [if_neg (by rw [h1]; decide)]
  refine wpAny_bind (wpAny_pyIter_revIter hit ?_)
  refine wpAny_bind (wpAny_holding ?_)
  unfold Builtin.List.listLengthHint
  refine wpAny_bind (wpAny_specialOf hT nolen_lri ?_)
  show wpAny _ A.in1 (specialOf (Value.ref it) (Str.ofString "__length_hint__") >>= _) _ _ _
  refine wpAny_bind (wpAny_specialOf hT hint_lri ?_)
  generalize hid : ("list_reverseiterator.__length_hint__" : String) = id0
  wp_delta
  rw [show splitId id0 = some ("list_reverseiterator", "__length_hint__") from by subst hid; decide +kernel]
  subst hid
  refine wpAny_bind (wpAny_isInstance (b := true) hT (by rw [isSubtype_type]; kernel_rfl) ?_)
  refine wpAny_pure ?_
  rw [if_neg (by decide)]
  have e0 : ((items.size : Nat) : Int) - 1 - ((0 : Nat) : Int) = (items.size : Int) - 1 := by omega
  refine wpAny_pure ⟨plainId_quiet F.plain_extend_loop _, codeAny_extend_loopS W hn _ hSf _ items.size 0 _ _ _ rfl (Nat.zero_le _) ⟨Nat.zero_le _, by rw [e0]; exact hit, hl⟩ hS (ItemsOf.nil _) fun s' acc' c' hm hS' hacc => ?_⟩
  rw [Moved.eq_with hm]
  refine hR s'.heap s'.toks acc' c' (fun b o hb hb2 e => hm.heap b o (fun hmem => ?_) e) hS' hacc
  rcases List.mem_cons.mp hmem with e' | hmem
  · exact hb e'
  · exact hb2 (List.mem_singleton.mp hmem)
theorem list_init_rev {it l S : Addr} {items : Array Value} {R : Result → Shared → Prop} (hh : A.handled = none) (hit : s.heap.IsRevIter it l ((items.size : Int) - 1)) (hl : s.heap.IsList l items) (hne : l ≠ it) (hn : items.size ≤ sizeLine)
    (hS : s.heap.get? S = some { cls := .type "list", data := .seq #[] }) (hSi : S ≠ it) (hSl : S ≠ l)
    (hR : ∀ h' tk acc' c', (∀ b o, b ≠ S → b ≠ it → s.heap.get? b = some o → h'.get? b = some o) → h'.get? S = some { cls := .type "list", dict := none, data := .seq acc' c', slots := #[] } →
      ItemsOf (RevAt items) acc' items.size → R (.ok (.ret .none)) { s with heap := h', toks := tk }) :
    wpAny (model prog w) A.in1 (Builtin.«list.__init__» ⟨[.ref S, .ref it], []⟩)
      (fun fin s' => match fin with | .done f => R (.ok f) s' | .again c' => c'.quiet = true ∧ codeAny (model prog w) A c' R s') (fun e s' => R (.error e) s') s := by
  show wpAny _ _ (do let old ← Builtin.List.listItems (.ref S); Builtin.List.listUpdate (.ref S) (fun _ => #[]); letGo old.toList.reverse; Builtin.List.listExtendWith (.ref S) (.ref it) .none) _ _ s
  refine wpAny_bind ?_
  unfold Builtin.List.listItems
  refine wpAny_bind (wpAny_seqItems hS rfl (wpAny_pure ?_))
  show wpAny _ _ (updateSeq S (fun _ => #[]) >>= fun _ => letGo (#[] : Array Value).toList.reverse >>= fun _ => Builtin.List.listExtendWith (.ref S) (.ref it) .none) _ _ s
  refine wpAny_bind (wpAny_updateSeq hS rfl ?_)
  have hS₂ := Heap.get?_update_self (Obj.mapSeq (fun _ => (#[] : Array Value))) hS rfl
  have oth : ∀ b o, b ≠ S → s.heap.get? b = some o → (s.heap.update S (Obj.mapSeq (fun _ => (#[] : Array Value)))).get? b = some o :=
    fun b o hb e => (Heap.get?_update_other _ _ (Ne.symm hb)).trans e
  refine wpAny_bind (wpAny_letGo ?_)
  refine extend_rev hh (hit.at fun o e => oth it o (Ne.symm hSi) e) (hl.at fun o e => oth l o (Ne.symm hSl) e) hne hn hS₂ hSi hSl (fun h' tk acc' c' hk hS' hacc => ?_)
  exact hR h' tk acc' c' (fun b o hb hb2 e => hk b o hb hb2 (oth b o hb e)) hS' hacc
theorem call_list_rev {it l : Addr} {items : Array Value} {Q : Value → Shared → Prop} (hh : A.handled = none) (hit : s.heap.IsRevIter it l ((items.size : Int) - 1)) (hl : s.heap.IsList l items) (hne : l ≠ it) (hn : items.size ≤ sizeLine)
    (hQ : ∀ h' tk acc' c', (∀ b o, b ≠ it → s.heap.get? b = some o → h'.get? b = some o) →
      h'.get? s.heap.objs.size = some { cls := .type "list", dict := none, data := .seq acc' c', slots := #[] } → ItemsOf (RevAt items) acc' items.size → Q (.ref s.heap.objs.size) { s with heap := h', toks := tk }) :
    wpAny (model prog w) A (call (.type "list") [.ref it]) Q E s := by
  refine callType_codes (Q₁ := fun obj s₁ => obj = .ref s.heap.objs.size ∧ s₁ = { s with heap := s.heap.push { cls := .type "list", data := .seq #[] } }) PySem.F.called_list (PySem.F.typeCall_list_1 _) PySem.F.entry_list_init
    (code_list_new _ ⟨rfl, rfl⟩) fun obj s₁ h₁ => ?_
  obtain ⟨rfl, rfl⟩ := h₁
  obtain ⟨oi, hoi, _⟩ := id hit
  obtain ⟨ol, hol, _⟩ := id hl
  have hSi : s.heap.objs.size ≠ it := Nat.ne_of_gt (Heap.lt_size hoi)
  have hSl : s.heap.objs.size ≠ l := Nat.ne_of_gt (Heap.lt_size hol)
  have hS : (s.heap.push { cls := .type "list", data := .seq #[] }).get? s.heap.objs.size = some { cls := .type "list", data := .seq #[] } := Heap.get?_push_size _ rfl
  refine ⟨⟨_, hS, rfl⟩, PySem.F.args_list_init_2 _ _, list_init_rev (A := A.in1) hh (hit.at fun o e => Heap.get?_push_of_some _ e) (hl.push _) hne hn hS hSi hSl (fun h' tk acc' c' hk hS' hacc => ?_)⟩
  exact ⟨rfl, hQ h' tk acc' c' (fun b o hb e => hk b o (Nat.ne_of_lt (Heap.lt_size e)) hb (Heap.get?_push_of_some _ e)) hS' hacc⟩
end
end RT
namespace RZ
open PySem PySem.Spec PyProof.Rows L2 RT
/-- list(reversed(x)), x a list: a new list -/
def tLstRev (K : PySem.W.Frag) (te : TE) : TE := fun σ H Q => te σ H fun v H1 => ∃ (a : Addr) (xs : List V), v = .ref a ∧ SqL K H1 a xs ∧ ∀ q, H1 q = none → Q (.ref q) (upd H1 q (.lst xs.reverse))
section
variable {X : Cx}
theorem pe_lstRev {e : Expr} {te : TE} {p p2 pos pos2 : Pos} (hc : X.calm = true) (hg : Gl X "list") (hm : X.mg "list" = none) (hg2 : Gl X "reversed") (hm2 : X.mg "reversed" = none) (he : PE X e te)
    (hs : starEach [e] X.env = (false, eval e X.env) :: starEach [] X.env := by rfl)
    (hs2 : starEach [.Call (.Name "reversed" p2) [e] [] pos2] X.env = (false, eval (.Call (.Name "reversed" p2) [e] [] pos2) X.env) :: starEach [] X.env := by rfl) :
    PE X (.Call (.Name "list" p) [.Call (.Name "reversed" p2) [e] [] pos2] [] pos) (tLstRev X.K te) := by
  refine ⟨fun pins s σ H Q I h => ?_⟩
  refine Call_ (ld_blt I hg hm boot_list (PyProof.Rows.callWith_type1 (args_cons (Call_ (ld_blt I hg2 hm2 PyProof.Rows.boot_reversed (PyProof.Rows.callWith_type1 (args_cons (thn (he.run pins s σ H _ I h) fun u s1 ⟨v, H1, I1, r1, q1⟩ => args_nil ?_) hs) hs rfl))) hs2) hs2 rfl))
  obtain ⟨a, xs, ev, hq, q⟩ := q1
  subst ev
  obtain rfl : u = Value.ref a := r1
  obtain ⟨its, rv, p', hz⟩ := I1.list hq
  refine call_reversed_list p'.isList (args_nil ?_)
  have hl := p'.isList
  obtain ⟨ol, hol, _⟩ := id hl
  have hne : a ≠ s1.heap.objs.size := Nat.ne_of_lt (Heap.lt_size hol)
  have hn : its.toArray.size ≤ sizeLine := by rw [List.size_toArray, ← rv.length]; exact hz
  refine call_list_rev (s := { s1 with heap := s1.heap.push (revObj a ((its.toArray.size : Int) - 1)) }) (I1.ok.hd hc) ⟨_, Heap.get?_push_size _ rfl, rfl, rfl⟩ (hl.push _) hne hn fun h' tk acc c' hk hS hi => ?_
  have le : s1.heap.objs.size ≤ (s1.heap.push (revObj a ((its.toArray.size : Int) - 1))).objs.size := by simp [Heap.push]
  refine ⟨.ref _, upd H1 _ (.lst xs.reverse), I1.laid (t' := tk) (fun c o e => hk c o (Nat.ne_of_lt (Heap.lt_size e)) (Heap.get?_push_of_some _ e)) le (show ObjOk X.prog X.w _ _ _ (.lst xs.reverse) from ⟨by rw [List.length_reverse]; exact hz, acc.toList, c', vals_rev rv hi, ?_⟩), rfl, q _ (I1.hok.fresh le)⟩
  rw [Array.toArray_toList]
  exact hS
end
end RZ
namespace B
open PySem L2 PySem.Spec PyProof.Rows
section
variable {B : Bx} {Wi : WX}
end
section
variable {z : Zx} {k : Nat} {a : Expr} {ma : Ev} {p p2 q pos : Pos}
end
end B
/-! Unpacking a list of the store. -/
namespace B
open PySem L2 PySem.Spec PyProof.Rows
section
variable {B : Bx}
end
section
variable {z : Zx} {k : Nat} {pos : Pos}
end
end B
/-! isinstance(o, C) of an own object; C() of a class without an __init__ of its own. -/
namespace MkO
open PySem PySem.W PySem.Calls PySem.Spec PyProof.Rows Builtin L2
/-- a class that is made by object's __init__ -/
structure MkB (K : PySem.W.Frag) (C : Addr) : Prop where
  makes : PySem.W.makesIn K C = true
  init : PySem.W.findIn K (.ref C) "__init__" = some (some (.builtin "object.__init__"))
  kp : PySem.W.keepIn K (.ref C) = true
  top : PySem.W.mroIn K C (.type "object") = some true
theorem mkbB_ok {K : PySem.W.Frag} {C : Addr} (h : mkbB K C = true) : MkB K C := by
  obtain ⟨h1, h⟩ := Bool.and_eq_true_iff.mp h
  obtain ⟨h2, h⟩ := Bool.and_eq_true_iff.mp h
  obtain ⟨h3, h4⟩ := Bool.and_eq_true_iff.mp h
  exact ⟨h1, of_decide_eq_true h2, h3, of_decide_eq_true h4⟩
theorem run_makeB {X : Cx} {C : Addr} {pins : List (Addr × Obj)} {σ : L2.St} {H : Hp} {s : Shared} {Q : VK} (M : MkB X.K C) (I : Inv X pins σ H s)
    (h : ∀ x dx, H x = none → H dx = none → dx ≠ x → Q (.ref x) (upd (upd H dx (.own x)) x (.ins C dx []))) :
    wpAny (model X.prog X.w) X.A (call (.ref C) []) (EP X pins σ Q) X.xe s := by
  have hq := h (s.heap.objs.size + 1) s.heap.objs.size (I.hok.fresh (Nat.le_succ _)) (I.hok.fresh (Nat.le_refl _)) (Nat.ne_of_lt (Nat.lt_succ_self _))
  have I2 := Inv.made (C := C) I
  refine wpAny_call (make_map0 I.kIn M.makes M.init (fun self => Looks.of_pure (oi_bind _)) ?_)
  have hget : ((s.heap.push PySem.W.emptyDict).push (PySem.W.instObj C s.heap.objs.size)).get? (s.heap.objs.size + 1) = some (PySem.W.instObj C s.heap.objs.size) := by
    have e : (s.heap.push PySem.W.emptyDict).objs.size = s.heap.objs.size + 1 := by rw [Heap.size_push]
    have := Heap.get?_push_size (h := s.heap.push PySem.W.emptyDict) (o := PySem.W.instObj C s.heap.objs.size) (by rfl)
    rw [e] at this
    exact this
  have t1 : Looks (model X.prog X.w) ((s.heap.push PySem.W.emptyDict).push (PySem.W.instObj C s.heap.objs.size)) (typeOf (.ref (s.heap.objs.size + 1))) (.ref C) := NwA.type_at (o := PySem.W.instObj C s.heap.objs.size) hget rfl
  have t2 : Looks (model X.prog X.w) ((s.heap.push PySem.W.emptyDict).push (PySem.W.instObj C s.heap.objs.size)) (isInstance (.ref (s.heap.objs.size + 1)) (.type "object")) true := t1.andThen (looks_mroIn I2.kIn M.top)
  refine codeAny_call_builtin oi_plain entry_oi (@check_slot (model X.prog X.w) _ _ _ "object.__init__" "object" "__init__" (.ref (s.heap.objs.size + 1)) [] [] _ oi_kind oi_split t2 (NwA.oi_args_any (.ref (s.heap.objs.size + 1)) [] []) ?_)
  rw [oi_run]
  exact wpAny_pure ⟨rfl, ⟨V.ref (s.heap.objs.size + 1), _, I2, rfl, hq⟩⟩
def tMakeB (C : Addr) : TE := fun _ H Q => ∀ x dx, H x = none → H dx = none → dx ≠ x → Q (.ref x) (upd (upd H dx (.own x)) x (.ins C dx []))
theorem pe_makeB {X : Cx} {C : Addr} {x : PySem.Str} {p pos : Pos} (M : MkB X.K C) (hg : Gl X x) (hm : X.mg x = some (.ref C)) (hdb : (x == ("__debug__" : PySem.Str)) = false := by decide) : PE X (.Call (.Name x p) [] [] pos) (tMakeB C) := by
  refine ⟨fun pins s σ H Q I h => ?_⟩
  refine wpAny_Call_Name_kw (ld_glob I hg hm ?_ hdb)
  exact PySem.W.callWith_K0 I.kIn M.kp (run_makeB M I h)
end MkO
namespace B
open PySem L2 PySem.Spec PyProof.Rows MkO
/-- C() -/
def eMkB (c : Nat) : Ev := fun _ s => .ok (.loc s.length, s ++ [.o c []])
/-- isinstance(o, D), o an object of class c -/
def eIsO (c : Nat) (b : Bool) (mo : Ev) : Ev := fun e s => (mo e s).bind fun p => (objO c p.1 p.2).bind fun _ => .ok (.d (.bl b), p.2)
/-- what isinstance asks of an object's class -/
structure OwC (K : PySem.W.Frag) (C : Addr) : Prop where
  ha : PySem.W.findIn K (.ref C) "__class__" = some (some (.builtin "object.__class__"))
  hn : PySem.W.specialIn K (.builtin "object.__class__") "__get__" = some (some (.builtin "getset_descriptor.__get__"))
  htk : PySem.W.takesIn K (.builtin "object.__class__") = some true
  hm : PySem.W.mroIn K C (.type "object") = some true
theorem owcB_ok {K : PySem.W.Frag} {C : Addr} (h : owcB K C = true) : OwC K C := by
  obtain ⟨h1, h⟩ := Bool.and_eq_true_iff.mp h
  obtain ⟨h2, h⟩ := Bool.and_eq_true_iff.mp h
  obtain ⟨h3, h4⟩ := Bool.and_eq_true_iff.mp h
  exact ⟨of_decide_eq_true h1, of_decide_eq_true h2, of_decide_eq_true h3, of_decide_eq_true h4⟩
section
variable {z : Zx} {c : Nat} {p p2 pos : Pos} {o : Expr} {mo : Ev}
theorem kMakeB {x : Str} (M : MkB z.X.K (z.oc c)) (hg : Gl z.X x) (hmg : z.X.mg x = some (.ref (z.oc c))) (hdb : (x == ("__debug__" : Str)) = false := by decide) : OkE z (.Call (.Name x p) [] [] pos) (eMkB c) := by
  refine ok_e (pe_makeB M hg hmg hdb) ?_
  intro ρ G S H env σ Q R E h x dx hx hdx hne
  obtain ⟨R1, l1⟩ := R.grow (.own x) hdx
  have hx1 : upd H dx (.own x) x = none := by rw [upd_ne (Ne.symm hne)]; exact hx
  obtain ⟨R2, l2⟩ := R1.cellNew (o := .ins (z.B.oc c) dx []) (c := .o c []) hx1 ⟨dx, [], upd_same, rfl, .nil⟩
  have hix : (ρ ++ [x])[S.length]? = some x := by rw [← R.len]; simp
  exact h _ _ _ _ (l1.trans l2) R2 (.loc hix)
theorem kIsO {y : Str} {v : V} {cv : Value} {b : Bool} (kv : ClsV v cv) (cl : Cls z.X.K (z.oc c)) (ow : OwC z.X.K (z.oc c)) (kit : PySem.W.kitOne z.X.K (.ref (z.oc c)) cv = some b) (hg : Gl z.X "isinstance") (hm : z.X.mg "isinstance" = none)
    (ho : OkE z o mo) (hcl : PE z.X (.Name y p2) (tC v))
    (hs : starEach [o, .Name y p2] z.X.env = (false, eval o z.X.env) :: starEach [.Name y p2] z.X.env := by rfl) (hs2 : starEach [.Name y p2] z.X.env = (false, eval (.Name y p2) z.X.env) :: starEach [] z.X.env := by rfl)
    (hpl : (backTo pos (starEach [.Name y p2] z.X.env)).any (·.1) = false := by rfl) : OkE z (.Call (.Name "isinstance" p) [o, .Name y p2] [] pos) (eIsO c b mo) := by
  refine ok_e (pe_callB call_isi hg hm boot_isinstance (pa_cons ho (pa_cons hcl pa_nil hs2) hs) (by decide) (by decide) hs hpl) ?_
  intro ρ G S H env σ Q R E h
  refine sim_e ρ G S H env σ _ R E (post_bind h fun w S1 ρ1 G1 H1 x l1 R1 r1 h1 => ?_)
  simp only at h1
  cases e1 : objO c w S1 with
  | stuck => rw [e1] at h1; exact False.elim h1
  | ex x t => exact absurd e1 (objO_ex _ _ _ _ _)
  | ok q =>
    rw [e1, _root_.B.R.bind_ok] at h1
    obtain ⟨a, dx, vs, g1, g2, g3, g4, g5, g6, g7⟩ := objO_rep R1 e1 r1
    refine ⟨x, v, .ref (z.oc c), cv, b, rfl, kv, ?_, kit, post_bl R1 h1⟩
    rw [g2]
    exact .base (.ins g5 cl ow.ha ow.hn ow.htk ow.hm)
end
end B
namespace B
open PySem L2 PySem.Spec PyProof.Rows
/-- list(reversed(list)), as data -/
def bLstRvD : W → Sto → VS := fun w s => match w with | .d (.lst l) => .ok (.d (.lst l.reverse), s) | _ => .stuck
section
variable {B : Bx} {Wi : WX}
theorem se_lstRvD {te : TE} {m : Ev} (he : SimE B Wi te m) : SimE B Wi (RZ.tLstRev B.K te) (e1 bLstRvD m) := by
  intro ρ G S H env σ Q R E h
  refine he ρ G S H env σ _ R E (post_bind h fun w S1 ρ1 G1 H1 v l1 R1 r1 h1 => ?_)
  simp only [bLstRvD] at h1
  cases w with
  | d x =>
    cases x with
    | lst l =>
      cases r1 with
      | d rx =>
        cases rx with
        | @lst ad vs _ g rl =>
          refine ⟨ad, vs, rfl, .inl (.inl (R1.ex _ _ g)), fun q hq => ?_⟩
          obtain ⟨R2, l2⟩ := R1.froz (.lst vs.reverse) hq
          exact h1 _ _ _ _ l2 R2 (.d (.lst upd_same ((RepL.rev rl).mono l2.ex)))
    | _ => exact False.elim h1
  | _ => exact False.elim h1
end
section
variable {z : Zx} {k : Nat} {a : Expr} {ma : Ev} {p p2 q pos : Pos}
theorem kLstRvD (ctx : Ctx k z) (hg : Gl z.X "list") (hm : z.X.mg "list" = none) (hg2 : Gl z.X "reversed") (hm2 : z.X.mg "reversed" = none) (ha : OkE z a ma)
    (na : starEach [a] z.X.env = (false, eval a z.X.env) :: starEach [] z.X.env := by rfl)
    (na2 : starEach [.Call (.Name "reversed" p2) [a] [] q] z.X.env = (false, eval (.Call (.Name "reversed" p2) [a] [] q) z.X.env) :: starEach [] z.X.env := by rfl) : OkE z (.Call (.Name "list" p) [.Call (.Name "reversed" p2) [a] [] q] [] pos) (e1 bLstRvD ma) := ok_e (RZ.pe_lstRev ctx.calm hg hm hg2 hm2 ha na na2) (se_lstRvD sim_e)
end
end B
/-! How B terms are run: rules for simp only, in bundles. -/
namespace B
/-! ### fin, calls -/
theorem outOf_rt {w : W} {s : Sto} : outOf (.ok (.rt w s)) = .ok (w, s) := rfl
theorem outOf_nx {e : Env} {s : Sto} : outOf (.ok (.nx e s)) = .ok (.d .non, s) := rfl
theorem outOf_xx {x : Exc} {e : Env} {s : Sto} : outOf (.ok (.xx x e s)) = .ex x s := rfl
/-! ### expressions -/
theorem eV_ap (i : Nat) (e : Env) (s : Sto) : eV i e s = match e[i]? with | some (some w) => .ok (w, s) | _ => .stuck := rfl
theorem eK_ap (x : D) (e : Env) (s : Sto) : eK x e s = .ok (.d x, s) := rfl
theorem e1_ap (f : W → Sto → VS) (a : Ev) (e : Env) (s : Sto) : e1 f a e s = (a e s).bind fun p => f p.1 p.2 := rfl
theorem e2_ap (f : W → W → Sto → VS) (a b : Ev) (e : Env) (s : Sto) : e2 f a b e s = (a e s).bind fun p => (b e p.2).bind fun q => f p.1 q.1 q.2 := rfl
theorem eN_ap (f : Fn) (as : List Ev) (e : Env) (s : Sto) : eN f as e s = (eAs as e s).bind fun p => f p.1 p.2 := rfl
theorem eAs_nil (e : Env) (s : Sto) : eAs [] e s = .ok ([], s) := rfl
theorem eAs_cons (a : Ev) (r : List Ev) (e : Env) (s : Sto) : eAs (a :: r) e s = (a e s).bind fun p => (eAs r e p.2).bind fun q => .ok (p.1 :: q.1, q.2) := rfl
theorem d1_ap (f : D → R D) (x : D) (s : Sto) : d1 f (.d x) s = (f x).bind fun r => .ok (.d r, s) := rfl
theorem d2_ap (f : D → D → R D) (x y : D) (s : Sto) : d2 f (.d x) (.d y) s = (f x y).bind fun r => .ok (.d r, s) := rfl
theorem tB_ap (a : Ev) (e : Env) (s : Sto) : tB a e s = (a e s).bind fun p => match p.1 with | .d (.bl b) => .ok (b, p.2) | _ => .stuck := rfl
theorem tAnd_ap (a b : Tx) (e : Env) (s : Sto) : tAnd a b e s = (a e s).bind fun p => if p.1 then b e p.2 else .ok (false, p.2) := rfl
theorem tOr_ap (a b : Tx) (e : Env) (s : Sto) : tOr a b e s = (a e s).bind fun p => if p.1 then .ok (true, p.2) else b e p.2 := rfl
theorem tNot_ap (a : Tx) (e : Env) (s : Sto) : tNot a e s = (a e s).bind fun p => .ok (!p.1, p.2) := rfl
theorem tYes_ap (e : Env) (s : Sto) : tYes e s = .ok (true, s) := rfl
theorem eAnd_ap (a b : Ev) (e : Env) (s : Sto) : eAnd a b e s = (a e s).bind fun p => match p.1 with | .d (.bl true) => b e p.2 | .d (.bl false) => .ok (.d (.bl false), p.2) | _ => .stuck := rfl
theorem eOr_ap (a b : Ev) (e : Env) (s : Sto) : eOr a b e s = (a e s).bind fun p => match p.1 with | .d (.bl true) => .ok (.d (.bl true), p.2) | .d (.bl false) => b e p.2 | _ => .stuck := rfl
theorem eNot_ap (a : Ev) (e : Env) (s : Sto) : eNot a e s = (a e s).bind fun p => match p.1 with | .d (.bl b) => .ok (.d (.bl (!b)), p.2) | _ => .stuck := rfl
theorem eIf_ap (t : Tx) (a b : Ev) (e : Env) (s : Sto) : eIf t a b e s = (t e s).bind fun p => if p.1 then a e p.2 else b e p.2 := rfl
theorem bind_ite {α β : Type} (c : Prop) [Decidable c] (x y : R α) (f : α → R β) : (if c then x else y).bind f = if c then x.bind f else y.bind f := by split <;> rfl
theorem bd_ite {α : Type} (c : Prop) [Decidable c] (x y : R α) (e : Env) (f : α → R O) : (if c then x else y).bd e f = if c then x.bd e f else y.bd e f := by split <;> rfl
/-! statements -/
theorem sSkip_ap (e : Env) (s : Sto) : sSkip e s = .ok (.nx e s) := rfl
theorem sSeq_ap (a b : Sx) (e : Env) (s : Sto) : sSeq a b e s = (a e s).bind fun o => match o with | .nx e s => b e s | o => .ok o := rfl
theorem sAsg_ap (g : Tg) (a : Ev) (e : Env) (s : Sto) : sAsg g a e s = (a e s).bd e fun p => (g p.1 e p.2).bd e fun q => .ok (.nx q.1 q.2) := rfl
theorem sX_ap (a : Ev) (e : Env) (s : Sto) : sX a e s = (a e s).bd e fun p => .ok (.nx e p.2) := rfl
theorem sRet_ap (a : Ev) (e : Env) (s : Sto) : sRet a e s = (a e s).bd e fun p => .ok (.rt p.1 p.2) := rfl
theorem sRetN_ap (e : Env) (s : Sto) : sRetN e s = .ok (.rt (.d .non) s) := rfl
theorem sIf_ap (t : Tx) (a b : Sx) (e : Env) (s : Sto) : sIf t a b e s = (t e s).bd e fun p => if p.1 then a e p.2 else b e p.2 := rfl
theorem sBrk_ap (e : Env) (s : Sto) : sBrk e s = .ok (.bk e s) := rfl
theorem sCnt_ap (e : Env) (s : Sto) : sCnt e s = .ok (.ct e s) := rfl
theorem sKill_ap (ks : List Nat) (a : Sx) (e : Env) (s : Sto) : sKill ks a e s = (a e s).bind fun o => match o with | .nx e s => .ok (.nx (kill ks e) s) | .ct e s => .ok (.ct (kill ks e) s) | .bk e s => .ok (.bk (kill ks e) s) | o => .ok o := rfl
theorem kill_nil (e : Env) : kill [] e = e := rfl
theorem kill_cons (i : Nat) (r : List Nat) (e : Env) : kill (i :: r) e = kill r (e.set i none) := rfl
theorem sFor_ap (i : Wk) (g : Tg) (b : Sx) (e : Env) (s : Sto) : sFor i g b e s = (i e s).bd e fun p => loop g b p.1 e p.2 := rfl
theorem loop_nil (g : Tg) (b : Sx) (e : Env) (s : Sto) : loop g b [] e s = .ok (.nx e s) := rfl
theorem loop_cons (g : Tg) (b : Sx) (x : W) (xs : List W) (e : Env) (s : Sto) : loop g b (x :: xs) e s = (g x e s).bd e fun p => (b p.1 p.2).bind fun o => turn o (loop g b xs) := rfl
theorem gN_ap (i : Nat) (w : W) (e : Env) (s : Sto) : gN i w e s = .ok (e.set i (some w), s) := rfl
theorem gT_tup (gs : List Tg) (l : List D) (e : Env) (s : Sto) : gT gs (.d (.tup l)) e s = gTs gs (ws l) e s := rfl
theorem gT_tw (gs : List Tg) (l : List W) (e : Env) (s : Sto) : gT gs (.tw l) e s = gTs gs l e s := rfl
theorem gTs_nil (e : Env) (s : Sto) : gTs [] [] e s = .ok (e, s) := rfl
theorem gTs_cons (g : Tg) (gs : List Tg) (w : W) (l : List W) (e : Env) (s : Sto) : gTs (g :: gs) (w :: l) e s = (g w e s).bind fun p => gTs gs l p.1 p.2 := rfl
theorem ws_nil : ws [] = [] := rfl
theorem ws_cons (d : D) (l : List D) : ws (d :: l) = .d d :: ws l := rfl
theorem turn_nx (e : Env) (s : Sto) (k : Env → Sto → R O) : turn (.nx e s) k = k e s := rfl
theorem turn_ct (e : Env) (s : Sto) (k : Env → Sto → R O) : turn (.ct e s) k = k e s := rfl
theorem turn_bk (e : Env) (s : Sto) (k : Env → Sto → R O) : turn (.bk e s) k = .ok (.nx e s) := rfl
theorem turn_rt (w : W) (s : Sto) (k : Env → Sto → R O) : turn (.rt w s) k = .ok (.rt w s) := rfl
theorem turn_xx (x : Exc) (e : Env) (s : Sto) (k : Env → Sto → R O) : turn (.xx x e s) k = .ok (.xx x e s) := rfl
/-! data -/
theorem asDs_nil : asDs [] = some [] := rfl
theorem asDs_d (x : D) (r : List W) : asDs (.d x :: r) = (asDs r).map (x :: ·) := rfl
theorem asDs_loc (n : Nat) (r : List W) : asDs (.loc n :: r) = none := rfl
theorem asDs_tw (n : List W) (r : List W) : asDs (.tw n :: r) = none := rfl

/-! arithmetic -/
theorem oAdd_i (i j : Int) (s : Sto) : oAdd (.d (.int i)) (.d (.int j)) s = .ok (.d (.int (i + j)), s) := rfl
theorem oAdd_s (x y : List Nat) (s : Sto) (h : x.length + y.length ≤ sizeL) : oAdd (.d (.str x)) (.d (.str y)) s = .ok (.d (.str (x ++ y)), s) := by
  show need (decide (x.length + y.length ≤ sizeL)) _ = _
  rw [decide_eq_true h]; rfl
theorem oAdd_t (x y : List D) (s : Sto) (h : x.length + y.length ≤ sizeL) (h0 : 0 < x.length) : oAdd (.d (.tup x)) (.d (.tup y)) s = .ok (.d (.tup (x ++ y)), s) := by
  show need (decide (x.length + y.length ≤ sizeL) && decide (0 < x.length)) _ = _
  rw [decide_eq_true h, decide_eq_true h0]; rfl
theorem asDs_ws' (ds : List D) : asDs (ws ds) = some ds := by
  induction ds with
  | nil => rfl
  | cons d ds ih => show (asDs (ws ds)).map _ = _; rw [ih]; rfl
theorem ws_app (x y : List D) : ws x ++ ws y = ws (x ++ y) := by simp [ws]
theorem oAdd_l (x y : List D) (s : Sto) (h : x.length + y.length ≤ sizeL) : oAdd (.d (.lst x)) (.d (.lst y)) s = .ok (.d (.lst (x ++ y)), s) := by
  show ((lstOf s (.d (.lst x))).bind fun l => (lstOf s (.d (.lst y))).bind fun m => (ofO (asDs (l ++ m))).bind fun r => need (decide (r.length ≤ sizeL)) (R.ok (W.d (D.lst r), s))) = _
  simp only [lstOf, R.bind_ok]
  rw [ws_app, asDs_ws', ofO_some, R.bind_ok, decide_eq_true (by simpa using h), need_true]
theorem oSub_i (i j : Int) : oSub (.int i) (.int j) = .ok (.int (i - j)) := rfl
theorem oAddI_i (i j : Int) : oAddI (.int i) (.int j) = .ok (.int (i + j)) := rfl
theorem oMul_r (i j : Int) (h : small j = true) : oMul (.int i) (.int j) = .ok (.int (i * j)) := by
  simp [oMul, mulOk, h]
theorem oMul_l (i j : Int) (h : small i = true) : oMul (.int i) (.int j) = .ok (.int (i * j)) := by
  simp [oMul, mulOk, h]
theorem oMul_s (z : List Nat) (j : Int) (h : 0 ≤ j) (h1 : j ≤ 1000) (h2 : z.length ≤ 1000) : oMul (.str z) (.int j) = .ok (.str (List.replicate j.toNat z).flatten) := by
  simp [oMul, h, h1, h2]
theorem small_of {i : Int} (h1 : -(2 ^ 64) < i) (h2 : i < 2 ^ 64) : small i = true := by
  unfold small; rw [Bool.and_eq_true]; exact ⟨decide_eq_true h1, decide_eq_true h2⟩
theorem oDiv_i (i j : Int) (h : divOk j = true) : oDiv (.int i) (.int j) = .ok (.int (i / j)) := by
  show need (divOk j) _ = _
  rw [h]; rfl
theorem oMod_i (i j : Int) (h : 0 < j) : oMod (.int i) (.int j) = .ok (.int (i % j)) := by
  show need (decide (0 < j)) _ = _
  rw [decide_eq_true h]; rfl
theorem oPow_i (i j : Int) (h : (decide (0 ≤ j) && decide (j ≤ 1000000) && decide (i.natAbs < 2 ^ 64)) = true) : oPow (.int i) (.int j) = .ok (.int (i ^ j.toNat)) := by
  show need _ _ = _
  rw [h]; rfl
theorem oNeg_i (i : Int) : oNeg (.int i) = .ok (.int (-i)) := rfl
theorem cLt_i (i j : Int) : cLt (.int i) (.int j) = .ok (.bl (decide (i < j))) := rfl
theorem cLe_i (i j : Int) : cLe (.int i) (.int j) = .ok (.bl (decide (i ≤ j))) := rfl
theorem cGt_i (i j : Int) : cGt (.int i) (.int j) = .ok (.bl (decide (j < i))) := rfl
theorem cGe_i (i j : Int) : cGe (.int i) (.int j) = .ok (.bl (decide (j ≤ i))) := rfl
theorem beq_int (i j : Int) : (i == j) = decide (i = j) := by by_cases h : i = j <;> simp [h]
theorem cEq_i (i j : Int) : cEq (.int i) (.int j) = .ok (.bl (decide (i = j))) := by
  show R.ok (D.bl (i == j)) = _; rw [beq_int]
theorem cNe_i (i j : Int) : cNe (.int i) (.int j) = .ok (.bl (!decide (i = j))) := by
  show R.ok (D.bl (!(i == j))) = _; rw [beq_int]
theorem beq_str (i j : List Nat) : (i == j) = decide (i = j) := by by_cases h : i = j <;> simp [h]
theorem cEq_s (i j : List Nat) : cEq (.str i) (.str j) = .ok (.bl (decide (i = j))) := by
  show R.ok (D.bl (i == j)) = _; rw [beq_str]
theorem cNe_s (i j : List Nat) : cNe (.str i) (.str j) = .ok (.bl (!decide (i = j))) := by
  show R.ok (D.bl (!(i == j))) = _; rw [beq_str]
theorem cEq_of {a b : D} (ha : okD 60 a = true) (hb : okD 60 b = true) : cEq a b = .ok (.bl (eqv a b)) := by
  simp [cEq, ha, hb]
theorem cNe_of {a b : D} (ha : okD 60 a = true) (hb : okD 60 b = true) : cNe a b = .ok (.bl (!eqv a b)) := by
  simp [cNe, ha, hb]
theorem cIsN_d (x : D) (s : Sto) : cIsN (.d x) s = .ok (.d (.bl (isN x)), s) := rfl
theorem cNotN_d (x : D) (s : Sto) : cNotN (.d x) s = .ok (.d (.bl (!isN x)), s) := rfl
theorem isN_int (i : Int) : isN (.int i) = false := rfl
theorem isN_str (i : List Nat) : isN (.str i) = false := rfl
theorem isN_tup (i : List D) : isN (.tup i) = false := rfl
theorem isN_non : isN .non = true := rfl
theorem cIn_lst (x : D) (l : List D) (h : (flat x && l.all flat) = true) : cIn x (.lst l) = .ok (.bl (inL x l)) := by
  simp only [cIn, oneOf, h, Bool.true_or, need_true, R.bind_ok]
theorem cNin_lst (x : D) (l : List D) (h : (flat x && l.all flat) = true) : cNin x (.lst l) = .ok (.bl (!inL x l)) := by
  simp only [cNin, oneOf, h, Bool.true_or, need_true, R.bind_ok]
theorem cIn_tup (x : D) (l : List D) (h : (flat x && l.all flat) = true) : cIn x (.tup l) = .ok (.bl (inL x l)) := by
  simp only [cIn, oneOf, h, Bool.true_or, need_true, R.bind_ok]
theorem cNin_tup (x : D) (l : List D) (h : (flat x && l.all flat) = true) : cNin x (.tup l) = .ok (.bl (!inL x l)) := by
  simp only [cNin, oneOf, h, Bool.true_or, need_true, R.bind_ok]
theorem cIn_dct (x : D) (t : Bool) (l : List (D × D)) (h : keyOk t x = true) : cIn x (.dct t l) = .ok (.bl (lookD l x).isSome) := by
  simp only [cIn, oneOf, h, Bool.true_or, need_true, R.bind_ok]
theorem cNin_dct (x : D) (t : Bool) (l : List (D × D)) (h : keyOk t x = true) : cNin x (.dct t l) = .ok (.bl (!(lookD l x).isSome)) := by
  simp only [cNin, oneOf, h, Bool.true_or, need_true, R.bind_ok]
/-! displays, built-ins -/
theorem tupW_ws (l : List D) : tupW (ws l) = .d (.tup l) := by simp only [tupW, asDs_ws']
theorem fTup0 (s : Sto) : fTup [] s = .ok (.d (.tup []), s) := rfl
theorem fTup1 (a : D) (s : Sto) : fTup [.d a] s = .ok (.d (.tup [a]), s) := rfl
theorem fTup2 (a b : D) (s : Sto) : fTup [.d a, .d b] s = .ok (.d (.tup [a, b]), s) := rfl
theorem fTup3 (a b c : D) (s : Sto) : fTup [.d a, .d b, .d c] s = .ok (.d (.tup [a, b, c]), s) := rfl
theorem fTup4 (a b c d : D) (s : Sto) : fTup [.d a, .d b, .d c, .d d] s = .ok (.d (.tup [a, b, c, d]), s) := rfl
theorem fLst0 (s : Sto) : fLst [] s = .ok (.d (.lst []), s) := rfl
theorem fLst1 (a : D) (s : Sto) : fLst [.d a] s = .ok (.d (.lst [a]), s) := rfl
theorem fLst2 (a b : D) (s : Sto) : fLst [.d a, .d b] s = .ok (.d (.lst [a, b]), s) := rfl
theorem fLst3 (a b c : D) (s : Sto) : fLst [.d a, .d b, .d c] s = .ok (.d (.lst [a, b, c]), s) := rfl
theorem fLst4 (a b c d : D) (s : Sto) : fLst [.d a, .d b, .d c, .d d] s = .ok (.d (.lst [a, b, c, d]), s) := rfl
theorem fLst5 (a b c d e : D) (s : Sto) : fLst [.d a, .d b, .d c, .d d, .d e] s = .ok (.d (.lst [a, b, c, d, e]), s) := rfl
theorem fLst6 (a b c d e f : D) (s : Sto) : fLst [.d a, .d b, .d c, .d d, .d e, .d f] s = .ok (.d (.lst [a, b, c, d, e, f]), s) := rfl
theorem fLstC0 (s : Sto) : fLstC [] s = .ok (.loc s.length, s ++ [.l []]) := rfl
theorem fLstC1 (a : D) (s : Sto) : fLstC [.d a] s = .ok (.loc s.length, s ++ [.l [a]]) := rfl
theorem eDct_ap (t : Bool) (e : Env) (s : Sto) : eDct t e s = .ok (.loc s.length, s ++ [.m t []]) := rfl
theorem bLen_str (z : List Nat) (s : Sto) (h : z.length ≤ sizeL) : bLen (.d (.str z)) s = .ok (.d (.int z.length), s) := by
  show need (decide (z.length ≤ sizeL)) _ = _; rw [decide_eq_true h]; rfl
theorem bLen_lst (l : List D) (s : Sto) : bLen (.d (.lst l)) s = .ok (.d (.int l.length), s) := by
  show R.ok (W.d (.int (ws l).length), s) = _; simp [ws]
theorem bLen_tup (l : List D) (s : Sto) : bLen (.d (.tup l)) s = .ok (.d (.int l.length), s) := by
  show R.ok (W.d (.int (ws l).length), s) = _; simp [ws]
theorem bLen_inp (l : List D) (s : Sto) : bLen (.d (.inp l)) s = .ok (.d (.int l.length), s) := by
  show R.ok (W.d (.int (ws l).length), s) = _; simp [ws]
theorem bTup_lst (l : List D) (s : Sto) : bTup (.d (.lst l)) s = .ok (.d (.tup l), s) := by
  show R.ok (tupW (ws l), s) = _; rw [tupW_ws]
theorem bTup_tup (l : List D) (s : Sto) : bTup (.d (.tup l)) s = .ok (.d (.tup l), s) := rfl
theorem bLst_tup (l : List D) (s : Sto) : bLst (.d (.tup l)) s = .ok (.d (.lst l), s) := by
  simp only [bLst, items, R.bind_ok, asDs_ws', ofO_some]
theorem bLst_lst (l : List D) (s : Sto) : bLst (.d (.lst l)) s = .ok (.d (.lst l), s) := by
  simp only [bLst, items, R.bind_ok, asDs_ws', ofO_some]
theorem bLstC_tup (l : List D) (s : Sto) : bLstC (.d (.tup l)) s = .ok (.loc s.length, s ++ [.l l]) := by
  simp only [bLstC, items, R.bind_ok, newL, asDs_ws']
theorem bLstC_lst (l : List D) (s : Sto) : bLstC (.d (.lst l)) s = .ok (.loc s.length, s ++ [.l l]) := by
  simp only [bLstC, items, R.bind_ok, newL, asDs_ws']
theorem isI_d (t : Ty) (x : D) (s : Sto) (h : noDct x = true) : isI t (.d x) s = .ok (.d (.bl (tyD t x)), s) := by
  show need (noDct x) _ = _; rw [h]; rfl
theorem bMin2_i (i j : Int) : bMin2 (.int i) (.int j) = .ok (.int (if j < i then j else i)) := rfl
theorem bMax2_i (i j : Int) : bMax2 (.int i) (.int j) = .ok (.int (if j > i then j else i)) := rfl
theorem bInt_b (b : Bool) : bInt (.bl b) = .ok (.int (if b then 1 else 0)) := rfl
theorem bInt_i (i : Int) : bInt (.int i) = .ok (.int i) := rfl
theorem bDivmod_i (i j : Int) (s : Sto) (h : divOk j = true) : bDivmod (.d (.int i)) (.d (.int j)) s = .ok (.d (.tup [.int (i / j), .int (i % j)]), s) := by
  show need (divOk j) _ = _; rw [h]; rfl
theorem bStr_i (i : Int) (h : 0 ≤ i) (h2 : i.natAbs.log2 < 1920) : bStr (.int i) = .ok (.str (numL i.toNat)) := by
  show need (decide (0 ≤ i) && decide (i.natAbs.log2 < 1920)) _ = _
  rw [decide_eq_true h, decide_eq_true h2]; rfl
theorem bStr_s (z : List Nat) : bStr (.str z) = .ok (.str z) := rfl
theorem intsD_map (l : List Int) : intsD (l.map .int) = some l := by
  induction l with
  | nil => rfl
  | cons i l ih => show (intsD (l.map .int)).map _ = _; rw [ih]; rfl
theorem boolsD_map (l : List Bool) : boolsD (l.map .bl) = some l := by
  induction l with
  | nil => rfl
  | cons i l ih => show (boolsD (l.map .bl)).map _ = _; rw [ih]; rfl
theorem bSum_i (l : List Int) : bSum (.lst (l.map .int)) = .ok (.int l.sum) := by
  simp only [bSum, listD, R.bind_ok, intsD_map, ofO_some]
theorem bAny_b (l : List Bool) : bAny (.lst (l.map .bl)) = .ok (.bl (l.any id)) := by
  simp only [bAny, listD, R.bind_ok, boolsD_map, ofO_some]
theorem bSortI_l (l : List Int) : bSortI (.lst (l.map .int)) = .ok (.lst ((l.mergeSort (fun a b => decide (a ≤ b))).map .int)) := by
  simp only [bSortI, seqOf, R.bind_ok, intsD_map, ofO_some]
theorem bSortI_t (l : List Int) : bSortI (.tup (l.map .int)) = .ok (.lst ((l.mergeSort (fun a b => decide (a ≤ b))).map .int)) := by
  simp only [bSortI, seqOf, R.bind_ok, intsD_map, ofO_some]
/-! subscripts -/
theorem oIx_str (z : List Nat) (i : Int) (s : Sto) (c : Nat) (hz : z.length ≤ sizeL) (h : atI z i = some c) : oIx (.d (.str z)) (.d (.int i)) s = .ok (.d (.str [c]), s) := by
  show need (decide (z.length ≤ sizeL)) _ = _
  rw [decide_eq_true hz, need_true, h]; rfl
theorem atI_nat {α : Type} {l : List α} {i : Int} {x : α} (h0 : 0 ≤ i) (h : l[i.toNat]? = some x) : atI l i = some x := by
  have hl : i.toNat < l.length := (List.getElem?_eq_some_iff.mp h).1
  unfold atI ixN
  rw [if_pos h0, if_pos (by omega)]
  exact h
/-! methods of lists -/
theorem m0_ap (p : W → Sto → Bool) (f : W → Sto → VS) (a : Ev) (e : Env) (s : Sto) : m0 p f a e s = (a e s).bind fun q => need (p q.1 q.2) (f q.1 q.2) := rfl
theorem m1_ap (p : W → Sto → Bool) (f : W → W → Sto → VS) (a b : Ev) (e : Env) (s : Sto) : m1 p f a b e s = (a e s).bind fun q => need (p q.1 q.2) ((b e q.2).bind fun r => f q.1 r.1 r.2) := rfl
theorem m2_ap (p : W → Sto → Bool) (f : W → W → W → Sto → VS) (a b c : Ev) (e : Env) (s : Sto) : m2 p f a b c e s = (a e s).bind fun q => need (p q.1 q.2) ((b e q.2).bind fun r => (c e r.2).bind fun t => f q.1 r.1 t.1 t.2) := rfl
theorem seqW_tup (s : Sto) (l : List D) : seqW s (.d (.tup l)) = .ok (ws l) := rfl
theorem seqW_lst (s : Sto) (l : List D) : seqW s (.d (.lst l)) = .ok (ws l) := rfl
/-! walks -/
theorem iSeq_ap (a : Ev) (e : Env) (s : Sto) : iSeq a e s = (a e s).bind fun p => match p.1 with | .d (.lst l) => .ok (ws l, p.2) | .d (.tup l) => .ok (ws l, p.2) | .d (.inp l) => .ok (ws l, p.2) | .d (.inq l) => .ok (ws l, p.2) | .tw l => .ok (l, p.2) | _ => .stuck := rfl
theorem iR1_ap (a : Ev) (e : Env) (s : Sto) : iR1 a e s = (a e s).bind fun p => match p.1 with | .d (.int i) => need (small62 i) (.ok (rng 0 i.toNat, p.2)) | _ => .stuck := rfl
theorem iR2_ap (a b : Ev) (e : Env) (s : Sto) : iR2 a b e s = (a e s).bind fun p => (b e p.2).bind fun q => rng2 p.1 q.1 q.2 := rfl
theorem rng2_i (i j : Int) (s : Sto) (h : small62 i = true) (h2 : small62 j = true) : rng2 (.d (.int i)) (.d (.int j)) s = .ok (rng i (j - i).toNat, s) := by
  show need _ _ = _; rw [h, h2]; rfl
theorem iStr_ap (a : Ev) (e : Env) (s : Sto) : iStr a e s = (a e s).bind fun p => match p.1 with | .d (.str z) => .ok (z.map (fun c => .d (.str [c])), p.2) | _ => .stuck := rfl
theorem s62_of {i : Int} (h0 : -(2 ^ 62) ≤ i) (h1 : i < 2 ^ 62) : small62 i = true := by
  unfold small62; rw [Bool.and_eq_true]; exact ⟨decide_eq_true h0, decide_eq_true h1⟩
theorem eSl_ap (a : Ev) (lo hi : Option Ev) (e : Env) (s : Sto) : eSl a lo hi e s = (a e s).bind fun p => (pt lo e p.2).bind fun l => (pt hi e l.2).bind fun h => slice l.1 h.1 p.1 h.2 := rfl
theorem pt_none (e : Env) (s : Sto) : pt none e s = .ok (none, s) := rfl
theorem pt_some (b : Ev) (e : Env) (s : Sto) : pt (some b) e s = (b e s).bind fun q => (asI q.1).bind fun i => .ok (i, q.2) := rfl
theorem asI_i (i : Int) : asI (.d (.int i)) = .ok (some i) := rfl
theorem eComp_ap (i : Wk) (g : Tg) (t : Tx) (a : Ev) (own : List Nat) (e : Env) (s : Sto) : eComp i g t a own e s = (i e s).bind fun p => need (decide (p.1.length ≤ sizeL)) ((comp g t a own e p.1 p.2).bind fun q => (ofO (asDs q.1)).bind fun l => .ok (.d (.lst l), q.2)) := rfl
theorem comp_nil (g : Tg) (t : Tx) (a : Ev) (own : List Nat) (e0 : Env) (s : Sto) : comp g t a own e0 [] s = .ok ([], s) := rfl
theorem comp_cons (g : Tg) (t : Tx) (a : Ev) (own : List Nat) (e0 : Env) (x : W) (xs : List W) (s : Sto) : comp g t a own e0 (x :: xs) s = (qt (g x (kill own e0) s)).bind fun p => (qt (t p.1 p.2)).bind fun q => if q.1 then
      (qt (a p.1 q.2)).bind fun r => (comp g t a own e0 xs r.2).bind fun z => .ok (r.1 :: z.1, z.2)
    else comp g t a own e0 xs q.2 := rfl
theorem qt_ok' {α : Type} (x : α) : qt (R.ok x) = .ok x := rfl
theorem qt_stuck' {α : Type} : qt (R.stuck : R α) = .stuck := rfl
/-- a comprehension over data, each turn by itself -/
theorem comp_map {α : Type} (g : Tg) (t : Tx) (a : Ev) (own : List Nat) (e0 : Env) (s : Sto) (en : α → W) (keep : α → Bool) (f : α → D) (l : List α)
    (h : ∀ x ∈ l, ∃ e', g (en x) (kill own e0) s = .ok (e', s) ∧ t e' s = .ok (keep x, s) ∧ (keep x = true → a e' s = .ok (.d (f x), s))) : comp g t a own e0 (l.map en) s = .ok (ws ((l.filter keep).map f), s) := by
  induction l with
  | nil => rfl
  | cons x l ih =>
    obtain ⟨e', h1, h2, h3⟩ := h x List.mem_cons_self
    have ih := ih fun y hy => h y (List.mem_cons_of_mem _ hy)
    rw [List.map_cons, comp_cons, h1, qt_ok', R.bind_ok, h2, qt_ok', R.bind_ok]
    cases k : keep x with
    | false => simp only [Bool.false_eq_true, if_false]; rw [ih, List.filter_cons_of_neg (by simp [k])]
    | true => simp only [if_true]; rw [h3 k, qt_ok', R.bind_ok, ih, R.bind_ok, List.filter_cons_of_pos k]; rfl
/-! what lies in the store -/
def datO (s : Sto) (k : Nat) : R D := dat s (.loc k)
theorem dat_lc (s : Sto) (k : Nat) : dat s (.loc k) = match s[k]? with | some (.l xs) => .ok (.lst xs) | some (.m t kv) => .ok (.dct t kv) | _ => datO s k := by
  cases h : s[k]? with
  | none => rfl
  | some c => cases c with
    | l xs => show dat s (.loc k) = .ok (.lst xs); simp [dat, toD, FU, h]
    | m t kv => show dat s (.loc k) = .ok (.dct t kv); simp [dat, toD, FU, h]
    | w _ => rfl
    | mw _ _ => rfl
    | o _ _ => rfl
theorem dat_dd (s : Sto) (x : D) : dat s (.d x) = .ok x := rfl
theorem d1_lc (f : D → R D) (k : Nat) (s : Sto) : d1 f (.loc k) s = (dat s (.loc k)).bind fun a => (f a).bind fun r => .ok (.d r, s) := rfl
theorem d2_dlc (f : D → D → R D) (x : D) (k : Nat) (s : Sto) : d2 f (.d x) (.loc k) s = (dat s (.loc k)).bind fun a => (f x a).bind fun r => .ok (.d r, s) := rfl
theorem d2_lcd (f : D → D → R D) (x : D) (k : Nat) (s : Sto) : d2 f (.loc k) (.d x) s = (dat s (.loc k)).bind fun a => (f a x).bind fun r => .ok (.d r, s) := rfl
theorem d2_lclc (f : D → D → R D) (j k : Nat) (s : Sto) : d2 f (.loc j) (.loc k) s = (dat s (.loc j)).bind fun a => (dat s (.loc k)).bind fun b => (f a b).bind fun r => .ok (.d r, s) := rfl
theorem isL_lc (k : Nat) (s : Sto) : isL (.loc k) s = match s[k]? with | some (.l _) => true | some (.w _) => true | _ => false := rfl
theorem lws (l : List D) : (ws l).length = l.length := by simp [ws]
theorem lAppend_lc (k : Nat) (x : D) (s : Sto) : lAppend (.loc k) (.d x) s = match s[k]? with | some (.l l) => need (decide (l.length < sizeL)) (.ok (.d .non, s.set k (.l (l ++ [x])))) | some (.w l) => need (decide (l.length < sizeL)) (.ok (.d .non, s.set k (.w (l ++ [.d x])))) | _ => .stuck := rfl
theorem lPop_lc (k : Nat) (s : Sto) : lPop (.loc k) s = match s[k]? with | some (.l l) => (match l.getLast? with | some v => .ok (.d v, s.set k (.l l.dropLast)) | none => .stuck) | some (.w l) => (match l.getLast? with | some v => .ok (v, s.set k (.w l.dropLast)) | none => .stuck) | _ => .stuck := by
  unfold lPop
  cases h : s[k]? with
  | none => simp only [h]
  | some c => cases c with
    | l xs => simp only [h]; cases xs.getLast? <;> rfl
    | w xs => simp only [h]; cases xs.getLast? <;> rfl
    | m _ _ => simp only [h]
    | mw _ _ => simp only [h]
    | o _ _ => simp only [h]
theorem lReverse_lc (k : Nat) (s : Sto) : lReverse (.loc k) s = match s[k]? with | some (.l l) => .ok (.d .non, s.set k (.l l.reverse)) | some (.w l) => .ok (.d .non, s.set k (.w l.reverse)) | _ => .stuck := rfl
theorem bLen_lc (k : Nat) (s : Sto) : bLen (.loc k) s = match s[k]? with | some (.l l) => .ok (.d (.int l.length), s) | some (.w l) => .ok (.d (.int l.length), s) | _ => .stuck := rfl
theorem lstOf_lc (k : Nat) (s : Sto) : lstOf s (.loc k) = match s[k]? with | some (.l l) => .ok (ws l) | some (.w l) => .ok l | _ => .stuck := rfl
theorem bTup_lc (k : Nat) (s : Sto) : bTup (.loc k) s = (lstOf s (.loc k)).bind fun l => .ok (tupW l, s) := rfl
theorem tupW_ws0 (l : List D) : tupW (ws l) = .d (.tup l) := by simp only [tupW, asDs_ws']
theorem bLst_lc (k : Nat) (s : Sto) : bLst (.loc k) s = match s[k]? with | some (.l l) => .ok (.d (.lst l), s) | some (.w l) => (ofO (asDs l)).bind fun l => .ok (.d (.lst l), s) | _ => .stuck := by
  unfold bLst items
  cases h : s[k]? with
  | none => simp only [h, R.bind_stuck]
  | some c => cases c with
    | l xs => simp only [h, R.bind_ok, asDs_ws', ofO_some]
    | w xs => simp only [h, R.bind_ok]
    | m _ _ => simp only [h, R.bind_stuck]
    | mw _ _ => simp only [h, R.bind_stuck]
    | o _ _ => simp only [h, R.bind_stuck]
theorem mkC_ws0 (l : List D) : mkC (ws l) = .l l := by simp only [mkC, asDs_ws']
theorem lExtend_lc (k : Nat) (y : W) (s : Sto) : lExtend (.loc k) y s = (lstOf s (.loc k)).bind fun l => (seqW s y).bind fun m => need (decide (l.length + m.length ≤ sizeL)) (.ok (.d .non, s.set k (mkC (l ++ m)))) := rfl
theorem seqW_lc (k : Nat) (s : Sto) : seqW s (.loc k) = match s[k]? with | some (.l l) => .ok (ws l) | some (.w l) => .ok l | _ => .stuck := rfl
theorem ixW_i (l : List D) (i : Int) (s : Sto) : ixW (ws l) (.d (.int i)) s = match atI l i with | some x => .ok (.d x, s) | none => .stuck := by
  have : atI (ws l) i = (atI l i).map .d := by
    unfold atI; rw [lws]
    cases ixN l.length i with
    | none => rfl
    | some j => show (ws l)[j]? = (l[j]?).map .d; rw [ws, List.getElem?_map]
  show (ofO (atI (ws l) i)).bind _ = _
  rw [this]
  cases atI l i <;> rfl
theorem ixW0 (a : W) (l : List W) (s : Sto) : ixW (a :: l) (.d (.int 0)) s = .ok (a, s) := by
  show (ofO (atI (a :: l) 0)).bind _ = _; rw [atI_nat (i := 0) (by decide) (x := a) rfl]; rfl
theorem ixW1 (a b : W) (l : List W) (s : Sto) : ixW (a :: b :: l) (.d (.int 1)) s = .ok (b, s) := by
  show (ofO (atI (a :: b :: l) 1)).bind _ = _; rw [atI_nat (i := 1) (by decide) (x := b) rfl]; rfl
theorem ixW2 (a b c : W) (l : List W) (s : Sto) : ixW (a :: b :: c :: l) (.d (.int 2)) s = .ok (c, s) := by
  show (ofO (atI (a :: b :: c :: l) 2)).bind _ = _; rw [atI_nat (i := 2) (by decide) (x := c) rfl]; rfl
theorem ixW3 (a b c d : W) (l : List W) (s : Sto) : ixW (a :: b :: c :: d :: l) (.d (.int 3)) s = .ok (d, s) := by
  show (ofO (atI (a :: b :: c :: d :: l) 3)).bind _ = _; rw [atI_nat (i := 3) (by decide) (x := d) rfl]; rfl
theorem oIx_tw (l : List W) (y : W) (s : Sto) : oIx (.tw l) y s = ixW l y s := rfl
theorem oIx_l (l : List D) (y : W) (s : Sto) : oIx (.d (.lst l)) y s = ixW (ws l) y s := rfl
theorem oIx_t (l : List D) (y : W) (s : Sto) : oIx (.d (.tup l)) y s = ixW (ws l) y s := rfl
theorem oIx_p (l : List D) (y : W) (s : Sto) : oIx (.d (.inp l)) y s = ixW (ws l) y s := rfl
theorem oIx_q (l : List D) (y : W) (s : Sto) : oIx (.d (.inq l)) y s = ixW (ws l) y s := rfl
theorem oIx_m (t : Bool) (l : List (D × D)) (y : W) (s : Sto) : oIx (.d (.dct t l)) y s = ixM t l y s := rfl
theorem oIx_lc (k : Nat) (y : W) (s : Sto) : oIx (.loc k) y s = match s[k]? with | some (.l l) => ixW (ws l) y s | some (.w l) => ixW l y s | some (.m t l) => ixM t l y s | some (.mw t l) => ixMW t l y s | _ => .stuck := rfl
theorem ixM_d (t : Bool) (l : List (D × D)) (x : D) (s : Sto) : ixM t l (.d x) s = need (keyOk t x) (match lookD l x with | some v => .ok (.d v, s) | none => .stuck) := by
  show need _ _ = _; cases lookD l x <;> rfl
theorem gSb_ap (o i : Ev) (w : W) (e : Env) (s : Sto) : gSb o i w e s = qt ((o e s).bind fun p => (i e p.2).bind fun q => (setAny p.1 q.1 w q.2).bind fun s' => .ok (e, s')) := rfl
theorem setAny_lc (k : Nat) (i v : D) (s : Sto) : setAny (.loc k) (.d i) (.d v) s = match s[k]? with
    | some (.l l) => (match i with
      | .int i => (ofO (ixN l.length i)).bind fun j => .ok (s.set k (.l (l.set j v)))
      | _ => .stuck)
    | some (.w l) => (match i with
      | .int i => (ofO (ixN l.length i)).bind fun j => .ok (s.set k (.w (l.set j (.d v))))
      | _ => .stuck)
    | some (.m t l) => need (keyOk t i && decide (l.length < sizeL)) (.ok (s.set k (.m t (putD l i v))))
    | some (.mw t l) => need (keyOk t i && decide (l.length < sizeL)) (.ok (s.set k (.mw t (putD l i (.d v)))))
    | _ => .stuck := by
  unfold setAny
  cases h : s[k]? with
  | none => simp only [h]
  | some c => cases c with
    | l xs => simp only [h]; cases i <;> rfl
    | w xs => simp only [h]; cases i <;> rfl
    | m _ _ => simp only [h, dat_dd, R.bind_ok]
    | mw _ _ => simp only [h, dat_dd, R.bind_ok]
    | o _ _ => simp only [h]
def st :=
  And.intro @dat_lc (And.intro @dat_dd (And.intro @d1_lc (And.intro @d2_dlc (And.intro @d2_lcd (And.intro @d2_lclc (And.intro @isL_lc (And.intro @lws (And.intro @lAppend_lc (And.intro @lPop_lc (And.intro @lReverse_lc (And.intro @bLen_lc (And.intro @lstOf_lc (And.intro @bTup_lc (And.intro @tupW_ws0 (And.intro @bLst_lc (And.intro @mkC_ws0 (And.intro @lExtend_lc (And.intro @seqW_lc (And.intro @oIx_l (And.intro @oIx_t (And.intro @oIx_p (And.intro @oIx_q (And.intro @oIx_m (And.intro @oIx_lc (And.intro @ixM_d (And.intro @gSb_ap (And.intro @setAny_lc (And.intro @ws_app (And.intro @ixW0 (And.intro @ixW1 (And.intro @ixW2 (And.intro @ixW3 (And.intro @oIx_tw (True.intro))))))))))))))))))))))))))))))))))
theorem gEz (a : Option W) (l : List (Option W)) : (a :: l)[0]? = some a := rfl
theorem gEs (a : Option W) (l : List (Option W)) (n : Nat) : (a :: l)[n + 1]? = l[n]? := rfl
theorem sEz (a b : Option W) (l : List (Option W)) : (a :: l).set 0 b = b :: l := rfl
theorem sEs (a b : Option W) (l : List (Option W)) (n : Nat) : (a :: l).set (n + 1) b = a :: l.set n b := rfl
theorem lEn : ([] : List (Option W)).length = 0 := rfl
theorem lEc (a : Option W) (l : List (Option W)) : (a :: l).length = l.length + 1 := rfl
theorem aEn (l : List (Option W)) : [] ++ l = l := rfl
theorem aEc (a : Option W) (l m : List (Option W)) : a :: l ++ m = a :: (l ++ m) := rfl
theorem gCz (a : C) (l : List (C)) : (a :: l)[0]? = some a := rfl
theorem gCs (a : C) (l : List (C)) (n : Nat) : (a :: l)[n + 1]? = l[n]? := rfl
theorem sCz (a b : C) (l : List (C)) : (a :: l).set 0 b = b :: l := rfl
theorem sCs (a b : C) (l : List (C)) (n : Nat) : (a :: l).set (n + 1) b = a :: l.set n b := rfl
theorem lCn : ([] : List (C)).length = 0 := rfl
theorem lCc (a : C) (l : List (C)) : (a :: l).length = l.length + 1 := rfl
theorem aCn (l : List (C)) : [] ++ l = l := rfl
theorem aCc (a : C) (l m : List (C)) : a :: l ++ m = a :: (l ++ m) := rfl
theorem gWz (a : W) (l : List (W)) : (a :: l)[0]? = some a := rfl
theorem gWs (a : W) (l : List (W)) (n : Nat) : (a :: l)[n + 1]? = l[n]? := rfl
theorem sWz (a b : W) (l : List (W)) : (a :: l).set 0 b = b :: l := rfl
theorem sWs (a b : W) (l : List (W)) (n : Nat) : (a :: l).set (n + 1) b = a :: l.set n b := rfl
theorem lWn : ([] : List (W)).length = 0 := rfl
theorem lWc (a : W) (l : List (W)) : (a :: l).length = l.length + 1 := rfl
theorem aWn (l : List (W)) : [] ++ l = l := rfl
theorem aWc (a : W) (l m : List (W)) : a :: l ++ m = a :: (l ++ m) := rfl
theorem gDz (a : D) (l : List (D)) : (a :: l)[0]? = some a := rfl
theorem gDs (a : D) (l : List (D)) (n : Nat) : (a :: l)[n + 1]? = l[n]? := rfl
theorem sDz (a b : D) (l : List (D)) : (a :: l).set 0 b = b :: l := rfl
theorem sDs (a b : D) (l : List (D)) (n : Nat) : (a :: l).set (n + 1) b = a :: l.set n b := rfl
theorem lDn : ([] : List (D)).length = 0 := rfl
theorem lDc (a : D) (l : List (D)) : (a :: l).length = l.length + 1 := rfl
theorem aDn (l : List (D)) : [] ++ l = l := rfl
theorem aDc (a : D) (l m : List (D)) : a :: l ++ m = a :: (l ++ m) := rfl
theorem lMi (l : List Int) (f : Int → D) : (l.map f).length = l.length := List.length_map f
theorem lMs (l : List (List Nat)) (f : List Nat → D) : (l.map f).length = l.length := List.length_map f
theorem lMd (l : List D) (f : D → D) : (l.map f).length = l.length := List.length_map f
def en :=
  And.intro @gEz (And.intro @gEs (And.intro @sEz (And.intro @sEs (And.intro @lEn (And.intro @lEc (And.intro @aEn (And.intro @aEc (And.intro @gCz (And.intro @gCs (And.intro @sCz (And.intro @sCs (And.intro @lCn (And.intro @lCc (And.intro @aCn (And.intro @aCc (And.intro @gWz (And.intro @gWs (And.intro @sWz (And.intro @sWs (And.intro @lWn (And.intro @lWc (And.intro @aWn (And.intro @aWc (And.intro @gDz (And.intro @gDs (And.intro @sDz (And.intro @sDs (And.intro @lDn (And.intro @lDc (And.intro @aDn (And.intro @aDc (And.intro @lMi (And.intro @lMs (And.intro @lMd (True.intro)))))))))))))))))))))))))))))))))))
/-- the run of a B term: rules without premises -/
def ev :=
  And.intro @eV_ap (And.intro @eK_ap (And.intro @e1_ap (And.intro @e2_ap (And.intro @eN_ap (And.intro @eAs_nil (And.intro @eAs_cons (And.intro @d1_ap (And.intro @d2_ap (And.intro @tB_ap (And.intro @tAnd_ap (And.intro @tOr_ap (And.intro @tNot_ap (And.intro @tYes_ap (And.intro @eAnd_ap (And.intro @eOr_ap (And.intro @eNot_ap (And.intro @eIf_ap (And.intro @bind_ite (And.intro @bd_ite (And.intro @sSkip_ap (And.intro @sSeq_ap (And.intro @sAsg_ap (And.intro @sX_ap (And.intro @sRet_ap (And.intro @sRetN_ap (And.intro @sIf_ap (And.intro @sBrk_ap (And.intro @sCnt_ap (And.intro @sKill_ap (And.intro @kill_nil (And.intro @kill_cons (And.intro @sFor_ap (And.intro @loop_nil (And.intro @gN_ap (And.intro @gT_tup (And.intro @gT_tw (And.intro @gTs_nil (And.intro @gTs_cons (And.intro @ws_nil (And.intro @ws_cons (And.intro @turn_nx (And.intro @turn_ct (And.intro @turn_bk (And.intro @turn_rt (And.intro @turn_xx (And.intro @asDs_nil (And.intro @asDs_d (And.intro @asDs_loc (And.intro @asDs_tw (And.intro @oAdd_i (And.intro @oSub_i (And.intro @oAddI_i (And.intro @oNeg_i (And.intro @cLt_i (And.intro @cLe_i (And.intro @cGt_i (And.intro @cGe_i (And.intro @cEq_i (And.intro @cNe_i (And.intro @cEq_s (And.intro @cNe_s (And.intro @cIsN_d (And.intro @cNotN_d (And.intro @isN_int (And.intro @isN_str (And.intro @isN_tup (And.intro @isN_non (And.intro @fTup0 (And.intro @fTup1 (And.intro @fTup2 (And.intro @fTup3 (And.intro @fTup4 (And.intro @fLst0 (And.intro @fLst1 (And.intro @fLst2 (And.intro @fLst3 (And.intro @fLst4 (And.intro @fLst5 (And.intro @fLst6 (And.intro @fLstC0 (And.intro @fLstC1 (And.intro @eDct_ap (And.intro @bLen_lst (And.intro @bLen_tup (And.intro @bLen_inp (And.intro @bTup_lst (And.intro @bTup_tup (And.intro @bLst_tup (And.intro @bLst_lst (And.intro @bLstC_tup (And.intro @bLstC_lst (And.intro @bMin2_i (And.intro @bMax2_i (And.intro @bInt_b (And.intro @bInt_i (And.intro @bStr_s (And.intro @bSum_i (And.intro @bAny_b (And.intro @bSortI_l (And.intro @bSortI_t (And.intro @m0_ap (And.intro @m1_ap (And.intro @m2_ap (And.intro @seqW_tup (And.intro @seqW_lst (And.intro @iSeq_ap (And.intro @iR1_ap (And.intro @iR2_ap (And.intro @iStr_ap (And.intro @eSl_ap (And.intro @pt_none (And.intro @pt_some (And.intro @asI_i (And.intro @eComp_ap (And.intro @comp_nil (And.intro @qt_ok' (And.intro @qt_stuck' (And.intro @outOf_rt (And.intro @outOf_nx (And.intro @outOf_xx (And.intro @R.bind_ok (And.intro @R.bind_stuck (And.intro @R.bind_ex (And.intro @R.bd_ok (And.intro @R.bd_stuck (And.intro @R.bd_ex (And.intro @need_true (And.intro @ofO_some (True.intro)))))))))))))))))))))))))))))))))))))))))))))))))))))))))))))))))))))))))))))))))))))))))))))))))))))))))))))))))))))))))))))))))
end B
/-! Loops by an invariant, facts of plain data. -/
namespace B
theorem rngLen : ∀ (lo : Int) (n : Nat), (rng lo n).length = n
  | lo, 0 => rfl
  | lo, n + 1 => by show (rng (lo + 1) n).length + 1 = _; rw [rngLen]
theorem rngGet : ∀ (lo : Int) (n i : Nat) (x : W), (rng lo n)[i]? = some x → i < n ∧ x = .d (.int (lo + i))
  | lo, 0, i, x, h => by simp [rng] at h
  | lo, n + 1, 0, x, h => by
    have h : some (W.d (.int lo)) = some x := h
    exact ⟨Nat.succ_pos _, by rw [← Option.some.inj h]; simp⟩
  | lo, n + 1, i + 1, x, h => by
    have := rngGet (lo + 1) n i x h
    exact ⟨by omega, by rw [this.2]; congr 2; omega⟩
theorem rng_map (lo : Int) : ∀ n, rng lo n = (List.range n).map fun i => W.d (.int (lo + (i : Nat)))
  | n => by
    apply List.ext_getElem?
    intro i
    rw [List.getElem?_map]
    by_cases h : i < n
    · rw [List.getElem?_range h]
      cases q : (rng lo n)[i]? with
      | none => rw [List.getElem?_eq_none_iff, rngLen] at q; omega
      | some x => rw [(rngGet lo n i x q).2]; rfl
    · rw [List.getElem?_eq_none (by rw [rngLen]; omega), List.getElem?_eq_none (by simp; omega)]; rfl
theorem rngD_map (lo : Int) (n : Nat) : rngD lo n = (List.range n).map fun i => D.int (lo + (i : Nat)) := by
  induction n generalizing lo with
  | zero => rfl
  | succ n ih =>
    show D.int lo :: rngD (lo + 1) n = _
    rw [ih, List.range_succ_eq_map, List.map_cons, List.map_map]
    congr 1
    · simp
    · apply List.map_congr_left; intro a _; show D.int _ = D.int _; congr 1; simp; omega
theorem bLstR_i (n : Int) (s : Sto) (h : 0 ≤ n ∧ n ≤ 16777216) : bLstR (.d (.int n)) s = .ok (.d (.lst (((List.range n.toNat).map fun i => ((i : Nat) : Int)).map .int)), s) := by
  show need (small24 n) (R.ok (W.d (.lst (rngD 0 n.toNat)), s)) = _
  have : small24 n = true := by unfold small24; rw [Bool.and_eq_true]; exact ⟨decide_eq_true h.1, decide_eq_true h.2⟩
  rw [this, need_true, rngD_map, List.map_map]
  simp only [Int.zero_add, Function.comp_def]
theorem bTupR_i (n : Int) (s : Sto) (h : 0 ≤ n ∧ n ≤ 16777216) : bTupR (.d (.int n)) s = .ok (.d (.tup (((List.range n.toNat).map fun i => ((i : Nat) : Int)).map .int)), s) := by
  show need (small24 n) (R.ok (W.d (.tup (rngD 0 n.toNat)), s)) = _
  have : small24 n = true := by unfold small24; rw [Bool.and_eq_true]; exact ⟨decide_eq_true h.1, decide_eq_true h.2⟩
  rw [this, need_true, rngD_map, List.map_map]
  simp only [Int.zero_add, Function.comp_def]
theorem sWhl_ap (t : Tx) (b : Sx) (e : Env) (s : Sto) : sWhl t b e s = whl t b TURNS e s := rfl
theorem comp_all {α : Type} (g : Tg) (a : Ev) (own : List Nat) (e0 : Env) (s : Sto) (en : α → W) (f : α → D) (l : List α)
    (h : ∀ x ∈ l, ∃ e', g (en x) (kill own e0) s = .ok (e', s) ∧ a e' s = .ok (.d (f x), s)) : comp g tYes a own e0 (l.map en) s = .ok (ws (l.map f), s) := by
  refine (comp_map g tYes a own e0 s en (fun _ => true) f l fun x hx => ?_).trans (by rw [List.filter_eq_self.mpr (fun _ _ => rfl)])
  obtain ⟨e', h1, h2⟩ := h x hx
  exact ⟨e', h1, rfl, fun _ => h2⟩
theorem ws_map {α : Type} (f : α → D) (l : List α) : ws (l.map f) = l.map fun x => W.d (f x) := by simp [ws]
/-! plain data -/
theorem flat_ints (l : List Int) : (l.map D.int).all flat = true := by induction l with | nil => rfl | cons a l ih => exact ih
theorem flat_strs (l : List (List Nat)) : (l.map D.str).all flat = true := by induction l with | nil => rfl | cons a l ih => exact ih
theorem eqv_int (i j : Int) : eqv (.int i) (.int j) = decide (i = j) := beq_int i j
theorem eqv_str (i j : List Nat) : eqv (.str i) (.str j) = decide (i = j) := beq_str i j
theorem inL_ints (x : Int) (l : List Int) : inL (.int x) (l.map .int) = decide (x ∈ l) := by
  induction l with
  | nil => rfl
  | cons a l ih =>
    show (eqv (.int a) (.int x) || inL (.int x) (l.map .int)) = _
    rw [ih, eqv_int]
    by_cases h : a = x <;> by_cases h2 : x ∈ l <;> simp [h, h2, eq_comm]
    intro q; exact absurd q.symm h
theorem inL_strs (x : List Nat) (l : List (List Nat)) : inL (.str x) (l.map .str) = decide (x ∈ l) := by
  induction l with
  | nil => rfl
  | cons a l ih =>
    show (eqv (.str a) (.str x) || inL (.str x) (l.map .str)) = _
    rw [ih, eqv_str]
    by_cases h : a = x <;> by_cases h2 : x ∈ l <;> simp [h, h2, eq_comm]
    intro q; exact absurd q.symm h
theorem cIn_ints (x : Int) (l : List Int) : cIn (.int x) (.lst (l.map .int)) = .ok (.bl (decide (x ∈ l))) := by
  rw [cIn_lst _ _ (by rw [flat_ints]; rfl), inL_ints]
theorem cIn_intsT (x : Int) (l : List Int) : cIn (.int x) (.tup (l.map .int)) = .ok (.bl (decide (x ∈ l))) := by
  rw [cIn_tup _ _ (by rw [flat_ints]; rfl), inL_ints]
theorem cNin_ints (x : Int) (l : List Int) : cNin (.int x) (.lst (l.map .int)) = .ok (.bl (!decide (x ∈ l))) := by
  rw [cNin_lst _ _ (by rw [flat_ints]; rfl), inL_ints]
theorem cNin_intsT (x : Int) (l : List Int) : cNin (.int x) (.tup (l.map .int)) = .ok (.bl (!decide (x ∈ l))) := by
  rw [cNin_tup _ _ (by rw [flat_ints]; rfl), inL_ints]
theorem cIn_strs (x : List Nat) (l : List (List Nat)) : cIn (.str x) (.lst (l.map .str)) = .ok (.bl (decide (x ∈ l))) := by
  rw [cIn_lst _ _ (by rw [flat_strs]; rfl), inL_strs]
theorem cNin_strs (x : List Nat) (l : List (List Nat)) : cNin (.str x) (.lst (l.map .str)) = .ok (.bl (!decide (x ∈ l))) := by
  rw [cNin_lst _ _ (by rw [flat_strs]; rfl), inL_strs]
mutual
theorem eqv_self : ∀ (n : Nat) (x : D), okD n x = true → eqv x x = true
  | _, .non, _ => rfl
  | _, .bl a, _ => by show (a == a) = true; simp
  | _, .int a, _ => by show (a == a) = true; simp
  | _, .str a, _ => by show (a == a) = true; simp
  | n + 1, .tup l, h => by show eqvL l l = true; exact eqvL_self n l h
  | n + 1, .lst l, h => by show eqvL l l = true; exact eqvL_self n l h
  | 0, .tup l, h => by cases h
  | 0, .lst l, h => by cases h
  | n, .dct t l, h => by cases n <;> cases h
  | n, .inp l, h => by cases n <;> cases h
  | n, .inq l, h => by cases n <;> cases h
theorem eqvL_self : ∀ (n : Nat) (l : List D), okL n l = true → eqvL l l = true
  | _, [], _ => rfl
  | n, x :: l, h => by
    have h : (okD n x && okL n l) = true := by cases n <;> exact h
    rw [Bool.and_eq_true] at h
    show (eqv x x && eqvL l l) = true
    rw [eqv_self n x h.1, eqvL_self n l h.2]; rfl
end
theorem cEq_self {x : D} (h : okD 60 x = true) : cEq x x = .ok (.bl true) := by rw [cEq_of h h, eqv_self 60 x h]
theorem cNe_self {x : D} (h : okD 60 x = true) : cNe x x = .ok (.bl false) := by rw [cNe_of h h, eqv_self 60 x h]; rfl
theorem okL_all (n : Nat) (l : List D) (h : ∀ x ∈ l, okD n x = true) : okL n l = true := by
  induction l with
  | nil => cases n <;> rfl
  | cons x l ih =>
    have : (okD n x && okL n l) = true := by rw [h x List.mem_cons_self, ih fun y hy => h y (List.mem_cons_of_mem _ hy)]; rfl
    cases n <;> exact this
theorem okD_lst (n : Nat) (l : List D) (h : ∀ x ∈ l, okD n x = true) : okD (n + 1) (.lst l) = true := okL_all n l h
theorem okD_tup (n : Nat) (l : List D) (h : ∀ x ∈ l, okD n x = true) : okD (n + 1) (.tup l) = true := okL_all n l h
theorem okD_int (n : Nat) (i : Int) : okD n (.int i) = true := by cases n <;> rfl
/-! the marks that do not fall twice -/
end B
/-! Walks over lists of the store, run. -/
namespace B
end B
/-! Runs with premises that arithmetic shows; calls as rules. -/
namespace B
abbrev ei (i : Int) : Option W := some (.d (.int i))
abbrev es (z : List Nat) : Option W := some (.d (.str z))
abbrev ed (x : D) : Option W := some (.d x)
abbrev el (k : Nat) : Option W := some (.loc k)
abbrev e_ : Option W := none
/-! premises that are tests -/
theorem need_lt {α : Type} {n : Nat} (h : n < 16777216) (r : R α) : need (decide (n < sizeL)) r = r := need_of (decide_eq_true h) r
theorem need_le {α : Type} {n : Nat} (h : n ≤ 16777216) (r : R α) : need (decide (n ≤ sizeL)) r = r := need_of (decide_eq_true h) r
theorem need_s62 {α : Type} {i : Int} (h : -4611686018427387904 ≤ i ∧ i < 4611686018427387904) (r : R α) : need (small62 i) r = r := need_of (s62_of h.1 h.2) r
theorem need_s62p {α : Type} {i : Int} (h : 0 ≤ i ∧ i < 4611686018427387904) (r : R α) : need (small62 i && decide (0 ≤ i)) r = r := need_of (by rw [s62_of (by omega) h.2, decide_eq_true h.1]; rfl) r
theorem rng2_c {i j : Int} (s : Sto) (h : -4611686018427387904 ≤ i ∧ i < 4611686018427387904 ∧ -4611686018427387904 ≤ j ∧ j < 4611686018427387904) : rng2 (.d (.int i)) (.d (.int j)) s = .ok (rng i (j - i).toNat, s) := rng2_i i j s (s62_of h.1 h.2.1) (s62_of h.2.2.1 h.2.2.2)
/-! arithmetic -/
theorem oMul_c {i j : Int} (h : (-18446744073709551616 < j ∧ j < 18446744073709551616) ∨ (-18446744073709551616 < i ∧ i < 18446744073709551616)) : oMul (.int i) (.int j) = .ok (.int (i * j)) := by
  rcases h with h | h
  · exact oMul_r _ _ (small_of h.1 h.2)
  · exact oMul_l _ _ (small_of h.1 h.2)
theorem divOk_s {j : Int} (h : 0 < j ∧ j < 18446744073709551616) : divOk j = true := by
  unfold divOk
  have h2 : j.natAbs.log2 < 9000 := by
    have : j.natAbs.log2 < 64 := (Nat.log2_lt (by omega)).mpr (by omega)
    omega
  rw [decide_eq_true h.1, decide_eq_true h2]; rfl
theorem oDiv_c {i j : Int} (h : 0 < j ∧ j < 18446744073709551616) : oDiv (.int i) (.int j) = .ok (.int (i / j)) := oDiv_i i j (divOk_s h)
theorem oMod_c {i j : Int} (h : 0 < j) : oMod (.int i) (.int j) = .ok (.int (i % j)) := oMod_i i j h
theorem oDivB_c {j : Int} (h : 0 < j ∧ j < 18446744073709551616) (i : Int) (s : Sto) : bDivmod (.d (.int i)) (.d (.int j)) s = .ok (.d (.tup [.int (i / j), .int (i % j)]), s) := bDivmod_i i j s (divOk_s h)
theorem oPow_l (i : Int) (n : Nat) (h : n ≤ 1000000 ∧ -18446744073709551616 < i ∧ i < 18446744073709551616) : oPow (.int i) (.int (no_index (OfNat.ofNat n))) = .ok (.int (i ^ n)) :=
  oPow_i i (n : Int) (by rw [decide_eq_true (show (0 : Int) ≤ (n : Int) by omega), decide_eq_true (show (n : Int) ≤ 1000000 by omega), decide_eq_true (show i.natAbs < 2 ^ 64 by omega)]; rfl)
theorem bStr_c {i : Int} (h : 0 ≤ i ∧ i < 18446744073709551616) : bStr (.int i) = .ok (.str (numL i.toNat)) := bStr_i i h.1 (by
  by_cases h0 : i.natAbs = 0
  · rw [h0]; decide
  · have : i.natAbs.log2 < 64 := (Nat.log2_lt h0).mpr (by omega)
    omega)
theorem bLen_sc {z : List Nat} (h : z.length ≤ 16777216) (s : Sto) : bLen (.d (.str z)) s = .ok (.d (.int z.length), s) := bLen_str z s h
theorem oAdd_sc {x y : List Nat} (h : x.length + y.length ≤ 16777216) (s : Sto) : oAdd (.d (.str x)) (.d (.str y)) s = .ok (.d (.str (x ++ y)), s) := oAdd_s x y s h
theorem oAdd_lc {x y : List D} (h : x.length + y.length ≤ 16777216) (s : Sto) : oAdd (.d (.lst x)) (.d (.lst y)) s = .ok (.d (.lst (x ++ y)), s) := oAdd_l x y s h
theorem oAdd_tc {x y : List D} (h : x.length + y.length ≤ 16777216 ∧ 0 < x.length) (s : Sto) : oAdd (.d (.tup x)) (.d (.tup y)) s = .ok (.d (.tup (x ++ y)), s) := oAdd_t x y s h.1 h.2
theorem oMul_sc {z : List Nat} {j : Int} (h : 0 ≤ j ∧ j ≤ 1000 ∧ z.length ≤ 1000) : oMul (.str z) (.int j) = .ok (.str (List.replicate j.toNat z).flatten) := oMul_s z j h.1 h.2.1 h.2.2
/-! subscripts -/
theorem atI_c {α : Type} (l : List α) (d : α) {i : Int} (h : 0 ≤ i ∧ i < l.length) : atI l i = some (l.getD i.toNat d) := by
  refine atI_nat h.1 ?_
  rw [List.getD_eq_getElem?_getD]
  have : i.toNat < l.length := by omega
  rw [List.getElem?_eq_getElem this]; rfl
theorem ixW_c (l : List D) {i : Int} (h : 0 ≤ i ∧ i < l.length) (s : Sto) : ixW (ws l) (.d (.int i)) s = .ok (.d (l.getD i.toNat .non), s) := by
  rw [ixW_i, atI_c l .non h]
theorem ixW_int (l : List Int) {i : Int} (h : 0 ≤ i ∧ i < l.length) (s : Sto) : ixW (ws (l.map .int)) (.d (.int i)) s = .ok (.d (.int (l.getD i.toNat 0)), s) := by
  rw [ixW_c _ (by simpa using h)]
  congr 3
  have : i.toNat < l.length := by omega
  simp [List.getD_eq_getElem?_getD, this]
theorem ixW_str (l : List (List Nat)) {i : Int} (h : 0 ≤ i ∧ i < l.length) (s : Sto) : ixW (ws (l.map .str)) (.d (.int i)) s = .ok (.d (.str (l.getD i.toNat [])), s) := by
  rw [ixW_c _ (by simpa using h)]
  congr 3
  have : i.toNat < l.length := by omega
  simp [List.getD_eq_getElem?_getD, this]
theorem ixW_map {α : Type} (d : α) (f : α → D) (l : List α) {i : Int} (h : 0 ≤ i ∧ i < l.length) (s : Sto) : ixW (ws (l.map f)) (.d (.int i)) s = .ok (.d (f (l.getD i.toNat d)), s) := by
  rw [ixW_c _ (by simpa using h)]
  congr 3
  have : i.toNat < l.length := by omega
  simp [List.getD_eq_getElem?_getD, this]
theorem ixI2 (a b : Int) {i : Int} (h : 0 ≤ i ∧ i < 2) (s : Sto) : ixW [.d (.int a), .d (.int b)] (.d (.int i)) s = .ok (.d (.int ([a, b].getD i.toNat 0)), s) := ixW_int [a, b] h s
theorem ixI3 (a b c : Int) {i : Int} (h : 0 ≤ i ∧ i < 3) (s : Sto) : ixW [.d (.int a), .d (.int b), .d (.int c)] (.d (.int i)) s = .ok (.d (.int ([a, b, c].getD i.toNat 0)), s) := ixW_int [a, b, c] h s
theorem ixI4 (a b c d : Int) {i : Int} (h : 0 ≤ i ∧ i < 4) (s : Sto) : ixW [.d (.int a), .d (.int b), .d (.int c), .d (.int d)] (.d (.int i)) s = .ok (.d (.int ([a, b, c, d].getD i.toNat 0)), s) := ixW_int [a, b, c, d] h s
theorem ixI5 (a b c d e : Int) {i : Int} (h : 0 ≤ i ∧ i < 5) (s : Sto) : ixW [.d (.int a), .d (.int b), .d (.int c), .d (.int d), .d (.int e)] (.d (.int i)) s = .ok (.d (.int ([a, b, c, d, e].getD i.toNat 0)), s) := ixW_int [a, b, c, d, e] h s
theorem ixI6 (a b c d e f : Int) {i : Int} (h : 0 ≤ i ∧ i < 6) (s : Sto) : ixW [.d (.int a), .d (.int b), .d (.int c), .d (.int d), .d (.int e), .d (.int f)] (.d (.int i)) s = .ok (.d (.int ([a, b, c, d, e, f].getD i.toNat 0)), s) := ixW_int [a, b, c, d, e, f] h s
theorem ixS2 (a b : List Nat) {i : Int} (h : 0 ≤ i ∧ i < 2) (s : Sto) : ixW [.d (.str a), .d (.str b)] (.d (.int i)) s = .ok (.d (.str ([a, b].getD i.toNat [])), s) := ixW_str [a, b] h s
theorem ixS3 (a b c : List Nat) {i : Int} (h : 0 ≤ i ∧ i < 3) (s : Sto) : ixW [.d (.str a), .d (.str b), .d (.str c)] (.d (.int i)) s = .ok (.d (.str ([a, b, c].getD i.toNat [])), s) := ixW_str [a, b, c] h s
theorem ixS4 (a b c d : List Nat) {i : Int} (h : 0 ≤ i ∧ i < 4) (s : Sto) : ixW [.d (.str a), .d (.str b), .d (.str c), .d (.str d)] (.d (.int i)) s = .ok (.d (.str ([a, b, c, d].getD i.toNat [])), s) := ixW_str [a, b, c, d] h s
theorem ixSt (z : List Nat) {i : Int} (h : 0 ≤ i ∧ i < z.length ∧ z.length ≤ 16777216) (s : Sto) : oIx (.d (.str z)) (.d (.int i)) s = .ok (.d (.str [z.getD i.toNat 0]), s) :=
  oIx_str z i s _ h.2.2 (atI_c z 0 ⟨h.1, h.2.1⟩)
theorem isI_str (t : Ty) (z : List Nat) (s : Sto) : isI t (.d (.str z)) s = .ok (.d (.bl (tyD t (.str z))), s) := isI_d t _ s rfl
theorem isI_int (t : Ty) (z : Int) (s : Sto) : isI t (.d (.int z)) s = .ok (.d (.bl (tyD t (.int z))), s) := isI_d t _ s rfl
theorem isI_bl (t : Ty) (z : Bool) (s : Sto) : isI t (.d (.bl z)) s = .ok (.d (.bl (tyD t (.bl z))), s) := isI_d t _ s rfl
theorem isI_tup (t : Ty) (z : List D) (s : Sto) : isI t (.d (.tup z)) s = .ok (.d (.bl (tyD t (.tup z))), s) := isI_d t _ s rfl
theorem isI_lst (t : Ty) (z : List D) (s : Sto) : isI t (.d (.lst z)) s = .ok (.d (.bl (tyD t (.lst z))), s) := isI_d t _ s rfl
theorem isI_non (t : Ty) (s : Sto) : isI t (.d .non) s = .ok (.d (.bl (tyD t .non)), s) := isI_d t _ s rfl
theorem ty1 (z : List Nat) : tyD .str (.str z) = true := rfl
theorem ty2 (z : List Nat) : tyD .int (.str z) = false := rfl
theorem ty3 (z : List Nat) : tyD .bool (.str z) = false := rfl
theorem ty4 (z : List Nat) : tyD .tuple (.str z) = false := rfl
theorem ty5 (z : List Nat) : tyD .list (.str z) = false := rfl
theorem ty6 (z : Int) : tyD .str (.int z) = false := rfl
theorem ty7 (z : Int) : tyD .int (.int z) = true := rfl
theorem ty8 (z : Int) : tyD .bool (.int z) = false := rfl
theorem ty9 (z : Int) : tyD .tuple (.int z) = false := rfl
theorem ty10 (z : Int) : tyD .list (.int z) = false := rfl
theorem ty11 (z : List D) : tyD .tuple (.tup z) = true := rfl
theorem ty12 (z : List D) : tyD .list (.lst z) = true := rfl
theorem ty13 (z : List D) : tyD .str (.tup z) = false := rfl
theorem ty14 (z : List D) : tyD .int (.tup z) = false := rfl
theorem ty15 (z : List D) : tyD .list (.tup z) = false := rfl
theorem ty16 (z : List D) : tyD .tuple (.lst z) = false := rfl
theorem ty17 : tyD .str .non = false := rfl
theorem ty18 : tyD .int .non = false := rfl
theorem ty19 : tyD .tuple .non = false := rfl
theorem ty20 (z : List D) : tyD .str (.lst z) = false := rfl
/-! calls -/
def finC (r : VS) (s0 : Sto) : VS := match r with
  | .ok (.d x, _) => .ok (.d x, s0)
  | .ok (w, s) => (match frz 0 s w with | some (.d x) => .ok (.d x, s0) | _ => .stuck)
  | .ex x _ => .ex x s0
  | .stuck => .stuck
theorem finC_d (x : D) (s s0 : Sto) : finC (.ok (.d x, s)) s0 = .ok (.d x, s0) := rfl
theorem finC_ex (x : Exc) (s s0 : Sto) : finC (.ex x s) s0 = .ex x s0 := rfl
theorem finC_lc (k : Nat) (s s0 : Sto) : finC (.ok (.loc k, s)) s0 = match s[k]? with | some (.l xs) => .ok (.d (.lst xs), s0) | some (.m t kv) => .ok (.d (.dct t kv), s0) | _ => finC (.ok (.loc k, s)) s0 := by
  cases h : s[k]? with
  | none => rfl
  | some c => cases c with
    | l xs => simp [finC, frz, cl, toD, FU, h]
    | m t kv => simp [finC, frz, cl, toD, FU, h]
    | w _ => rfl
    | mw _ _ => rfl
    | o _ _ => rfl
theorem finC_ite (c : Prop) [Decidable c] (x y : VS) (s : Sto) : finC (if c then x else y) s = if c then finC x s else finC y s := by split <;> rfl
theorem outOf_ite (c : Prop) [Decidable c] (x y : R O) : outOf (if c then x else y) = if c then outOf x else outOf y := by split <;> rfl
theorem callD_fin (n : Nat) (b : Sx) (ds : List D) (s : Sto) : callD (mkF n b) ds s = finC (outOf (b (start n (ws ds)) [])) s := by
  unfold callD mkF
  show (match fin 0 (outOf (b (start n (ws ds)) [])) with | .ok (.d x, []) => R.ok (W.d x, s) | .ex x _ => .ex x s | _ => .stuck) = _
  cases outOf (b (start n (ws ds)) []) with
  | stuck => rfl
  | ex x t => rfl
  | ok p =>
    obtain ⟨w, t⟩ := p
    have key : ∀ w, (∀ x, w ≠ W.d x) → (match (match frz 0 t w with | some w' => if clS 0 (t.take 0) then R.ok (w', t.take 0) else .stuck | none => (.stuck : VS)) with | .ok (.d x, []) => R.ok (W.d x, s) | .ex x _ => .ex x s | _ => .stuck) = (match frz 0 t w with | some (.d x) => R.ok (W.d x, s) | _ => .stuck) := fun w hw => by
      cases frz 0 t w with
      | none => rfl
      | some w' => cases w' <;> rfl
    cases w with
    | d x => rfl
    | loc k => exact key (.loc k) fun x h => by cases h
    | tw l => exact key (.tw l) fun x h => by cases h
theorem callP_ws (f : Fn) (ds : List D) (s : Sto) : callP f (ws ds) s = callD f ds s := by unfold callP; rw [asDs_ws']
theorem callP0' (n : Nat) (b : Sx) (s : Sto) : callP (mkF n b) [] s = finC (outOf (b (start n []) [])) s := (callP_ws _ [] s).trans (callD_fin n b [] s)
theorem callP1 (n : Nat) (b : Sx) (x1 : D) (s : Sto) : callP (mkF n b) [.d x1] s = finC (outOf (b (start n [.d x1]) [])) s := (callP_ws _ [x1] s).trans (callD_fin n b [x1] s)
theorem callP2 (n : Nat) (b : Sx) (x1 x2 : D) (s : Sto) : callP (mkF n b) [.d x1, .d x2] s = finC (outOf (b (start n [.d x1, .d x2]) [])) s := (callP_ws _ [x1, x2] s).trans (callD_fin n b [x1, x2] s)
theorem callP3 (n : Nat) (b : Sx) (x1 x2 x3 : D) (s : Sto) : callP (mkF n b) [.d x1, .d x2, .d x3] s = finC (outOf (b (start n [.d x1, .d x2, .d x3]) [])) s := (callP_ws _ [x1, x2, x3] s).trans (callD_fin n b [x1, x2, x3] s)
theorem callP4 (n : Nat) (b : Sx) (x1 x2 x3 x4 : D) (s : Sto) : callP (mkF n b) [.d x1, .d x2, .d x3, .d x4] s = finC (outOf (b (start n [.d x1, .d x2, .d x3, .d x4]) [])) s := (callP_ws _ [x1, x2, x3, x4] s).trans (callD_fin n b [x1, x2, x3, x4] s)
theorem callP5 (n : Nat) (b : Sx) (x1 x2 x3 x4 x5 : D) (s : Sto) : callP (mkF n b) [.d x1, .d x2, .d x3, .d x4, .d x5] s = finC (outOf (b (start n [.d x1, .d x2, .d x3, .d x4, .d x5]) [])) s := (callP_ws _ [x1, x2, x3, x4, x5] s).trans (callD_fin n b [x1, x2, x3, x4, x5] s)
theorem callP6 (n : Nat) (b : Sx) (x1 x2 x3 x4 x5 x6 : D) (s : Sto) : callP (mkF n b) [.d x1, .d x2, .d x3, .d x4, .d x5, .d x6] s = finC (outOf (b (start n [.d x1, .d x2, .d x3, .d x4, .d x5, .d x6]) [])) s := (callP_ws _ [x1, x2, x3, x4, x5, x6] s).trans (callD_fin n b [x1, x2, x3, x4, x5, x6] s)
theorem start_c (n : Nat) (w : W) (a : List W) : start (n + 1) (w :: a) = some w :: start n a := by
  show some w :: (a.map some ++ List.replicate (n + 1 - (a.length + 1)) none) = _
  rw [Nat.add_sub_add_right]; rfl
theorem start_n (n : Nat) : start (n + 1) [] = none :: start n [] := by
  show ([] : Env) ++ List.replicate (n + 1 - 0) none = none :: ([] ++ List.replicate (n - 0) none)
  simp [List.replicate_succ]
theorem start_0 : start 0 [] = [] := rfl
/-- a list or dict of the store, lent to a def that returns data -/
def chkL (r : VS) : VS := match r with
  | .ok (.d x, s) => if noL x then .ok (.d x, s) else .stuck
  | _ => .stuck
theorem chkL_d (x : D) (s : Sto) : chkL (.ok (.d x, s)) = if noL x then .ok (.d x, s) else .stuck := rfl
theorem law_run {n : Nat} {b : Sx} {x : D} {y : D} (h : finC (outOf (b (start n [.d x]) [])) [] = .ok (.d y, [])) : mkF n b [.d x] [] = .ok (.d y, []) := by
  have e : callD (mkF n b) [x] [] = .ok (.d y, []) := (callD_fin n b [x] []).trans h
  have e : (match mkF n b [.d x] [] with | .ok (.d x, []) => R.ok (W.d x, ([] : Sto)) | .ex x _ => .ex x [] | _ => .stuck) = .ok (.d y, []) := e
  cases q : mkF n b [.d x] [] with
  | stuck => rw [q] at e; cases e
  | ex x t => rw [q] at e; cases e
  | ok p =>
    obtain ⟨w, t⟩ := p
    rw [q] at e
    cases t with
    | cons _ _ => cases w <;> cases e
    | nil => cases w <;> first | (cases e; rfl) | cases e
def cl_ :=
  And.intro @finC_d (And.intro @finC_ex (And.intro @finC_lc (And.intro @finC_ite (And.intro @outOf_ite (And.intro @callP0' (And.intro @callP1 (And.intro @callP2 (And.intro @callP3 (And.intro @callP4 (And.intro @callP5 (And.intro @callP6 (And.intro @start_c (And.intro @start_n (And.intro @start_0 (And.intro @chkL_d True.intro)))))))))))))))
theorem ite_tt {α : Type} (x y : α) : (if (true = true) then x else y) = x := rfl
theorem ite_ff {α : Type} (x y : α) : (if (false = true) then x else y) = y := rfl
theorem ite_T {α : Type} {h : Decidable True} (x y : α) : (if True then x else y) = x := if_pos trivial
theorem ite_F {α : Type} {h : Decidable False} (x y : α) : (if False then x else y) = y := if_neg id
def lg :=
  And.intro @decide_eq_true_eq (And.intro @ite_tt (And.intro @ite_ff (And.intro @ite_T (And.intro @ite_F (And.intro @Bool.not_true (And.intro @Bool.not_false (And.intro @decide_true (And.intro @decide_false (And.intro @Bool.true_and (And.intro @Bool.false_and (And.intro @Bool.false_eq_true (And.intro @Bool.true_or (And.intro @Bool.false_or (And.intro @Bool.not_eq_true' (And.intro @Bool.not_eq_eq_eq_not True.intro)))))))))))))))
def cn :=
  And.intro @need_lt (And.intro @need_le (And.intro @need_s62 (And.intro @need_s62p (And.intro @rng2_c (And.intro @oMul_c (And.intro @oDiv_c (And.intro @oMod_c (And.intro @oDivB_c (And.intro @oPow_l (And.intro @bStr_c (And.intro @bLen_sc (And.intro @oAdd_sc (And.intro @oAdd_lc (And.intro @oAdd_tc (And.intro @oMul_sc (And.intro @ixI2 (And.intro @ixI3 (And.intro @ixI4 (And.intro @ixI5 (And.intro @ixI6 (And.intro @ixS2 (And.intro @ixS3 (And.intro @ixS4 (And.intro @ixSt (And.intro @ixW_int (And.intro @ixW_str (And.intro @bTupR_i (And.intro @bLstR_i (And.intro @sWhl_ap (And.intro @cIn_ints (And.intro @cIn_intsT (And.intro @cNin_ints (And.intro @cNin_intsT (And.intro @cIn_strs (And.intro @cNin_strs (And.intro @isI_str (And.intro @isI_int (And.intro @isI_bl (And.intro @isI_tup (And.intro @isI_lst (And.intro @isI_non (And.intro @ty1 (And.intro @ty2 (And.intro @ty3 (And.intro @ty4 (And.intro @ty5 (And.intro @ty6 (And.intro @ty7 (And.intro @ty8 (And.intro @ty9 (And.intro @ty10 (And.intro @ty11 (And.intro @ty12 (And.intro @ty13 (And.intro @ty14 (And.intro @ty15 (And.intro @ty16 (And.intro @ty17 (And.intro @ty18 (And.intro @ty19 (And.intro @ty20 True.intro)))))))))))))))))))))))))))))))))))))))))))))))))))))))))))))
end B
/-! Slices, joins, watched walks: how they are run. -/
namespace B
/-! watched walks -/
theorem watch_nil' (s : Sto) : watchOk [] s = True := eq_true (watch_nil s)
theorem watch_cons (k : Nat) (c : C) (r : Wt) (s : Sto) : watchOk ((k, c) :: r) s = (s[k]? = some c ∧ watchOk r s) := by
  apply propext
  constructor
  · exact fun h => ⟨h (k, c) List.mem_cons_self, fun p hp => h p (List.mem_cons_of_mem _ hp)⟩
  · rintro ⟨h1, h2⟩ p hp
    rcases List.mem_cons.mp hp with rfl | hp
    · exact h1
    · exact h2 p hp
theorem sForW_ap (i : WkW) (g : Tg) (b : Sx) (e : Env) (s : Sto) : sForW i g b e s = (i e s).bd e fun p => loopW p.2.1 g b p.1 e p.2.2 := rfl
theorem eCompW_ap (i : WkW) (g : Tg) (t : Tx) (a : Ev) (own : List Nat) (e : Env) (s : Sto) : eCompW i g t a own e s = (i e s).bind fun p => need (decide (p.1.length ≤ sizeL)) ((compW p.2.1 g t a own e p.1 p.2.2).bind fun q =>
  (ofO (asDs q.1)).bind fun l => .ok (.d (.lst l), q.2)) := rfl
theorem eCompWC_ap (i : WkW) (g : Tg) (t : Tx) (a : Ev) (own : List Nat) (e : Env) (s : Sto) : eCompWC i g t a own e s = (i e s).bind fun p => need (decide (p.1.length ≤ sizeL)) ((compW p.2.1 g t a own e p.1 p.2.2).bind fun q => newL q.1 q.2) := rfl
theorem eCompC_ap (i : Wk) (g : Tg) (t : Tx) (a : Ev) (own : List Nat) (e : Env) (s : Sto) : eCompC i g t a own e s = (i e s).bind fun p => need (decide (p.1.length ≤ sizeL)) ((comp g t a own e p.1 p.2).bind fun q => newL q.1 q.2) := rfl
theorem iEn_ap (a : Ev) (e : Env) (s : Sto) : iEn a e s = (a e s).bind fun p => (seqK p.1 p.2).bind fun q => .ok (enW 0 q.2.1, q.2.2, p.2) := rfl
theorem iZp_ap (a b : Ev) (e : Env) (s : Sto) : iZp a b e s = (a e s).bind fun p => (b e p.2).bind fun q => (seqK p.1 q.2).bind fun x => (seqK q.1 q.2).bind fun y => zpK x y q.2 := rfl
theorem iRv_ap (a : Ev) (e : Env) (s : Sto) : iRv a e s = (a e s).bind fun p => (seqK p.1 p.2).bind fun q => .ok (q.2.1.reverse, q.2.2, p.2) := rfl
theorem seqK_l (l : List D) (s : Sto) : seqK (.d (.lst l)) s = .ok (.li, ws l, []) := rfl
theorem seqK_p (l : List D) (s : Sto) : seqK (.d (.inp l)) s = .ok (.li, ws l, []) := rfl
theorem seqK_t (l : List D) (s : Sto) : seqK (.d (.tup l)) s = .ok (.tu, ws l, []) := rfl
theorem seqK_q (l : List D) (s : Sto) : seqK (.d (.inq l)) s = .ok (.tu, ws l, []) := rfl
theorem seqK_w (l : List W) (s : Sto) : seqK (.tw l) s = .ok (.tu, l, []) := rfl
theorem seqK_c (k : Nat) (s : Sto) : seqK (.loc k) s = match s[k]? with
    | some (.l l) => .ok (.li, ws l, [(k, .l l)])
    | some (.w l) => .ok (.li, l, [(k, .w l)])
    | _ => .stuck := rfl
theorem zpK_l (a b : List W) (u v : Wt) (s : Sto) : zpK (.li, a, u) (.li, b, v) s = .ok (zpW a b, u ++ v, s) := rfl
theorem zpK_t (a b : List W) (u v : Wt) (s : Sto) : zpK (.tu, a, u) (.tu, b, v) s = .ok (zpW a b, u ++ v, s) := rfl
theorem enW_ws : ∀ (l : List D) (i : Nat), enW i (ws l) = ws (l.mapIdx fun j d => .tup [.int ((i + j : Nat) : Int), d])
  | [], i => rfl
  | d :: l, i => by
    show tupW [.d (.int i), .d d] :: enW (i + 1) (ws l) = _
    rw [enW_ws l (i + 1), List.mapIdx_cons]
    show W.d (.tup [.int i, d]) :: ws _ = W.d (.tup [.int ((i + 0 : Nat) : Int), d]) :: ws _
    congr 2
    congr 1
    funext j d
    have : i + 1 + j = i + (j + 1) := by omega
    rw [this]
theorem zpW_ws : ∀ l m : List D, zpW (ws l) (ws m) = ws (List.zipWith (fun a b => .tup [a, b]) l m)
  | [], m => rfl
  | a :: l, [] => rfl
  | a :: l, b :: m => by
    show tupW [.d a, .d b] :: zpW (ws l) (ws m) = _
    rw [zpW_ws l m]; rfl
theorem rev_ws (l : List D) : (ws l).reverse = ws l.reverse := by simp [ws]
/-! slices -/
theorem slice_l (lo hi : Option Int) (l : List D) (s : Sto) : slice lo hi (.d (.lst l)) s = .ok (.d (.lst (cut l lo hi)), s) := by
  have e : cut (ws l) lo hi = ws (cut l lo hi) := by simp [cut, ws, List.map_drop, List.map_take]
  show ((lstOf s (.d (.lst l))).bind fun l => (ofO (asDs (cut l lo hi))).bind fun l => R.ok (W.d (.lst l), s)) = _
  simp only [lstOf, R.bind_ok, e, asDs_ws', ofO_some]
theorem slice_lc (lo hi : Option Int) (k : Nat) (s : Sto) : slice lo hi (.loc k) s = (lstOf s (.loc k)).bind fun l => (ofO (asDs (cut l lo hi))).bind fun l => .ok (.d (.lst l), s) := rfl
theorem slice_t (lo hi : Option Int) (l : List D) (s : Sto) : slice lo hi (.d (.tup l)) s = .ok (.d (.tup (cut l lo hi)), s) := rfl
theorem slice_p (lo hi : Option Int) (l : List D) (s : Sto) : slice lo hi (.d (.inp l)) s = .ok (.d (.lst (cut l lo hi)), s) := rfl
theorem slice_s {z : List Nat} (h : z.length ≤ 16777216) (lo hi : Option Int) (s : Sto) : slice lo hi (.d (.str z)) s = .ok (.d (.str (cut z lo hi)), s) := by
  show need (decide (z.length ≤ sizeL)) _ = _; exact need_le h _
theorem cut_map {α β : Type} (f : α → β) (l : List α) (lo hi : Option Int) : cut (l.map f) lo hi = (cut l lo hi).map f := by
  simp [cut, List.map_drop, List.map_take]
theorem cut_ws (l : List D) (lo hi : Option Int) : cut (ws l) lo hi = ws (cut l lo hi) := cut_map _ _ _ _
/-! join -/
theorem bSplit_s {z : List Nat} {c : Nat} (h : z.length ≤ 16777000 ∧ c < 256) (s : Sto) : bSplit (.d (.str z)) (.d (.str [c])) s = .ok (.d (.lst ((splitC c [] z).map .str)), s) := by
  show need _ _ = _; rw [decide_eq_true h.1, decide_eq_true h.2]; rfl
theorem isS_s (z : List Nat) (s : Sto) : isS (.d (.str z)) s = true := rfl
theorem eCh_ap (f g : W → W → Sto → VS) (a b c : Ev) (e : Env) (s : Sto) : eCh f g a b c e s = (a e s).bind fun p => (b e p.2).bind fun q => (f p.1 q.1 q.2).bind fun r => match r.1 with
  | .d (.bl true) => (c e r.2).bind fun t => g q.1 t.1 t.2
  | .d (.bl false) => .ok (.d (.bl false), r.2)
  | _ => .stuck := rfl
theorem newL_d (l : List D) (s : Sto) : newL (ws l) s = .ok (.loc s.length, s ++ [.l l]) := by unfold newL; rw [asDs_ws']
theorem bTupQ_l (l : List D) (s : Sto) : bTupQ (.d (.lst l)) s = .ok (.d (.inq l), s) := by
  show (R.ok (ws l)).bind _ = _
  simp only [R.bind_ok, asDs_ws', ofO_some]
theorem tk_map {α β : Type} (f : α → β) (l : List α) (n : Nat) : (l.map f).take n = (l.take n).map f := List.map_take.symm
theorem dp_map {α β : Type} (f : α → β) (l : List α) (n : Nat) : (l.map f).drop n = (l.drop n).map f := List.map_drop.symm
def ev5 :=
  And.intro @tk_map (And.intro @dp_map (And.intro @asDs_ws' (And.intro @watch_nil' (And.intro @watch_cons (And.intro @sForW_ap (And.intro @eCompW_ap (And.intro @eCompWC_ap (And.intro @eCompC_ap (And.intro @iEn_ap (And.intro @iZp_ap (And.intro @iRv_ap (And.intro @seqK_l (And.intro @seqK_p (And.intro @seqK_t (And.intro @seqK_q (And.intro @seqK_w (And.intro @seqK_c (And.intro @zpK_l (And.intro @zpK_t (And.intro @enW_ws (And.intro @zpW_ws (And.intro @rev_ws (And.intro @slice_l (And.intro @slice_lc (And.intro @slice_t (And.intro @slice_p (And.intro @slice_s (And.intro @cut_map (And.intro @cut_ws (And.intro @isS_s (And.intro @eCh_ap (And.intro @newL_d (And.intro @bTupQ_l (And.intro @bSplit_s (And.intro @loopW_nil (And.intro @compW_nil True.intro))))))))))))))))))))))))))))))))))))
end B
/-! Loops as folds; defs that change the store; more operators. -/
namespace B
/-- one turn's target and body -/
def lstep (g : Tg) (b : Sx) (w : W) (e : Env) (s : Sto) : R O := (g w e s).bd e fun p => b p.1 p.2
theorem loop_step (g : Tg) (b : Sx) (x : W) (xs : List W) (e : Env) (s : Sto) : loop g b (x :: xs) e s = (lstep g b x e s).bind fun o => turn o (loop g b xs) := by
  unfold lstep; rw [loop_cons]; cases g x e s <;> rfl
theorem lstep_n (i : Nat) (b : Sx) (w : W) (e : Env) (s : Sto) : lstep (gN i) b w e s = b (e.set i (some w)) s := rfl
section
variable {α σ : Type} {g : Tg} {b : Sx}
end
/-! defs upon the store -/
theorem mkF_s {n : Nat} {b : Sx} {a : List W} {x : D} {s s' : Sto} (e : Env) (he : start n a = e) (h : outOf (b e s) = .ok (.d x, s')) (hl : s'.length = s.length) (hc : clS s.length s' = true) : mkF n b a s = .ok (.d x, s') := by
  show fin s.length (outOf (b (start n a) s)) = _
  rw [he, h]
  have e : s'.take s.length = s' := List.take_of_length_le (by omega)
  show (if clS s.length (s'.take s.length) then R.ok (W.d x, s'.take s.length) else .stuck) = _
  rw [e, hc]; rfl
/-! operators -/
/-! dict(..) -/
end B
/-! Rules by which a B term is run part by part: what comes behind is left alone until its turn. -/
namespace B
noncomputable def zk1 (f : W → Sto → VS) (rr : R (W × Sto)) : VS := rr.bind fun p => f p.1 p.2
theorem zk1_ok (f : W → Sto → VS) (w : W) (s : Sto) : zk1 f (.ok (w, s)) = f w s := rfl
theorem zk1_st (f : W → Sto → VS) : zk1 f .stuck = .stuck := rfl
theorem zk1_ex (f : W → Sto → VS) (xc : Exc) (tc : Sto) : zk1 f (.ex xc tc) = .ex xc tc := rfl
theorem zk1_if (f : W → Sto → VS) (cp : Prop) [Decidable cp] (ra rb : R (W × Sto)) : zk1 f (if cp then ra else rb) = if cp then zk1 f ra else zk1 f rb := by split <;> rfl
theorem e1_z (f : W → Sto → VS) (a : Ev) (e : Env) (s : Sto) : e1 f a e s = zk1 f (a e s) := rfl
noncomputable def zk2b (f : W → W → Sto → VS) (x : W) (rr : R (W × Sto)) : VS := rr.bind fun q => f x q.1 q.2
theorem zk2b_ok (f : W → W → Sto → VS) (x : W) (w : W) (s : Sto) : zk2b f x (.ok (w, s)) = f x w s := rfl
theorem zk2b_st (f : W → W → Sto → VS) (x : W) : zk2b f x .stuck = .stuck := rfl
theorem zk2b_ex (f : W → W → Sto → VS) (x : W) (xc : Exc) (tc : Sto) : zk2b f x (.ex xc tc) = .ex xc tc := rfl
theorem zk2b_if (f : W → W → Sto → VS) (x : W) (cp : Prop) [Decidable cp] (ra rb : R (W × Sto)) : zk2b f x (if cp then ra else rb) = if cp then zk2b f x ra else zk2b f x rb := by split <;> rfl
noncomputable def zk2 (f : W → W → Sto → VS) (b : Ev) (e : Env) (rr : R (W × Sto)) : VS := rr.bind fun p => zk2b f p.1 (b e p.2)
theorem zk2_ok (f : W → W → Sto → VS) (b : Ev) (e : Env) (w : W) (s : Sto) : zk2 f b e (.ok (w, s)) = zk2b f w (b e s) := rfl
theorem zk2_st (f : W → W → Sto → VS) (b : Ev) (e : Env) : zk2 f b e .stuck = .stuck := rfl
theorem zk2_ex (f : W → W → Sto → VS) (b : Ev) (e : Env) (xc : Exc) (tc : Sto) : zk2 f b e (.ex xc tc) = .ex xc tc := rfl
theorem zk2_if (f : W → W → Sto → VS) (b : Ev) (e : Env) (cp : Prop) [Decidable cp] (ra rb : R (W × Sto)) : zk2 f b e (if cp then ra else rb) = if cp then zk2 f b e ra else zk2 f b e rb := by split <;> rfl
theorem e2_z (f : W → W → Sto → VS) (a b : Ev) (e : Env) (s : Sto) : e2 f a b e s = zk2 f b e (a e s) := rfl
noncomputable def zkA2 (x : W) (rr : R (List W × Sto)) : R (List W × Sto) := rr.bind fun q => .ok (x :: q.1, q.2)
theorem zkA2_ok (x : W) (l : List W) (s : Sto) : zkA2 x (.ok (l, s)) = .ok (x :: l, s) := rfl
theorem zkA2_st (x : W) : zkA2 x .stuck = .stuck := rfl
theorem zkA2_ex (x : W) (xc : Exc) (tc : Sto) : zkA2 x (.ex xc tc) = .ex xc tc := rfl
theorem zkA2_if (x : W) (cp : Prop) [Decidable cp] (ra rb : R (List W × Sto)) : zkA2 x (if cp then ra else rb) = if cp then zkA2 x ra else zkA2 x rb := by split <;> rfl
noncomputable def zkA (as : List Ev) (e : Env) (rr : R (W × Sto)) : R (List W × Sto) := rr.bind fun p => zkA2 p.1 (eAs as e p.2)
theorem zkA_ok (as : List Ev) (e : Env) (w : W) (s : Sto) : zkA as e (.ok (w, s)) = zkA2 w (eAs as e s) := rfl
theorem zkA_st (as : List Ev) (e : Env) : zkA as e .stuck = .stuck := rfl
theorem zkA_ex (as : List Ev) (e : Env) (xc : Exc) (tc : Sto) : zkA as e (.ex xc tc) = .ex xc tc := rfl
theorem zkA_if (as : List Ev) (e : Env) (cp : Prop) [Decidable cp] (ra rb : R (W × Sto)) : zkA as e (if cp then ra else rb) = if cp then zkA as e ra else zkA as e rb := by split <;> rfl
theorem eAs_z (a : Ev) (as : List Ev) (e : Env) (s : Sto) : eAs (a :: as) e s = zkA as e (a e s) := rfl
noncomputable def zkN (f : Fn) (rr : R (List W × Sto)) : VS := rr.bind fun p => f p.1 p.2
theorem zkN_ok (f : Fn) (l : List W) (s : Sto) : zkN f (.ok (l, s)) = f l s := rfl
theorem zkN_st (f : Fn) : zkN f .stuck = .stuck := rfl
theorem zkN_ex (f : Fn) (xc : Exc) (tc : Sto) : zkN f (.ex xc tc) = .ex xc tc := rfl
theorem zkN_if (f : Fn) (cp : Prop) [Decidable cp] (ra rb : R (List W × Sto)) : zkN f (if cp then ra else rb) = if cp then zkN f ra else zkN f rb := by split <;> rfl
theorem eN_z (f : Fn) (as : List Ev) (e : Env) (s : Sto) : eN f as e s = zkN f (eAs as e s) := rfl
noncomputable def zkD (s : Sto) (rr : R D) : VS := rr.bind fun x => .ok (.d x, s)
theorem zkD_ok (s : Sto) (x : D) : zkD s (.ok x) = .ok (.d x, s) := rfl
theorem zkD_st (s : Sto) : zkD s .stuck = .stuck := rfl
theorem zkD_ex (s : Sto) (xc : Exc) (tc : Sto) : zkD s (.ex xc tc) = .ex xc tc := rfl
theorem zkD_if (s : Sto) (cp : Prop) [Decidable cp] (ra rb : R D) : zkD s (if cp then ra else rb) = if cp then zkD s ra else zkD s rb := by split <;> rfl
theorem d1_z (f : D → R D) (x : D) (s : Sto) : d1 f (.d x) s = zkD s (f x) := rfl
theorem d2_z (f : D → D → R D) (x y : D) (s : Sto) : d2 f (.d x) (.d y) s = zkD s (f x y) := rfl
noncomputable def zkD1 (f : D → R D) (s : Sto) (rr : R D) : VS := rr.bind fun x => zkD s (f x)
theorem zkD1_ok (f : D → R D) (s : Sto) (x : D) : zkD1 f s (.ok x) = zkD s (f x) := rfl
theorem zkD1_st (f : D → R D) (s : Sto) : zkD1 f s .stuck = .stuck := rfl
theorem zkD1_ex (f : D → R D) (s : Sto) (xc : Exc) (tc : Sto) : zkD1 f s (.ex xc tc) = .ex xc tc := rfl
theorem zkD1_if (f : D → R D) (s : Sto) (cp : Prop) [Decidable cp] (ra rb : R D) : zkD1 f s (if cp then ra else rb) = if cp then zkD1 f s ra else zkD1 f s rb := by split <;> rfl
noncomputable def zkDl (f : D → D → R D) (y : D) (s : Sto) (rr : R D) : VS := rr.bind fun x => zkD s (f x y)
theorem zkDl_ok (f : D → D → R D) (y : D) (s : Sto) (x : D) : zkDl f y s (.ok x) = zkD s (f x y) := rfl
theorem zkDl_st (f : D → D → R D) (y : D) (s : Sto) : zkDl f y s .stuck = .stuck := rfl
theorem zkDl_ex (f : D → D → R D) (y : D) (s : Sto) (xc : Exc) (tc : Sto) : zkDl f y s (.ex xc tc) = .ex xc tc := rfl
theorem zkDl_if (f : D → D → R D) (y : D) (s : Sto) (cp : Prop) [Decidable cp] (ra rb : R D) : zkDl f y s (if cp then ra else rb) = if cp then zkDl f y s ra else zkDl f y s rb := by split <;> rfl
noncomputable def zkDr (f : D → D → R D) (x : D) (s : Sto) (rr : R D) : VS := rr.bind fun y => zkD s (f x y)
theorem zkDr_ok (f : D → D → R D) (x : D) (s : Sto) (y : D) : zkDr f x s (.ok y) = zkD s (f x y) := rfl
theorem zkDr_st (f : D → D → R D) (x : D) (s : Sto) : zkDr f x s .stuck = .stuck := rfl
theorem zkDr_ex (f : D → D → R D) (x : D) (s : Sto) (xc : Exc) (tc : Sto) : zkDr f x s (.ex xc tc) = .ex xc tc := rfl
theorem zkDr_if (f : D → D → R D) (x : D) (s : Sto) (cp : Prop) [Decidable cp] (ra rb : R D) : zkDr f x s (if cp then ra else rb) = if cp then zkDr f x s ra else zkDr f x s rb := by split <;> rfl
noncomputable def zkDb (f : D → D → R D) (k : Nat) (s : Sto) (rr : R D) : VS := rr.bind fun x => zkDr f x s (dat s (.loc k))
theorem zkDb_ok (f : D → D → R D) (k : Nat) (s : Sto) (x : D) : zkDb f k s (.ok x) = zkDr f x s (dat s (.loc k)) := rfl
theorem zkDb_st (f : D → D → R D) (k : Nat) (s : Sto) : zkDb f k s .stuck = .stuck := rfl
theorem zkDb_ex (f : D → D → R D) (k : Nat) (s : Sto) (xc : Exc) (tc : Sto) : zkDb f k s (.ex xc tc) = .ex xc tc := rfl
theorem zkDb_if (f : D → D → R D) (k : Nat) (s : Sto) (cp : Prop) [Decidable cp] (ra rb : R D) : zkDb f k s (if cp then ra else rb) = if cp then zkDb f k s ra else zkDb f k s rb := by split <;> rfl
theorem d1_lz (f : D → R D) (k : Nat) (s : Sto) : d1 f (.loc k) s = zkD1 f s (dat s (.loc k)) := rfl
theorem d2_dlz (f : D → D → R D) (x : D) (k : Nat) (s : Sto) : d2 f (.d x) (.loc k) s = zkDr f x s (dat s (.loc k)) := rfl
theorem d2_ldz (f : D → D → R D) (x : D) (k : Nat) (s : Sto) : d2 f (.loc k) (.d x) s = zkDl f x s (dat s (.loc k)) := rfl
theorem d2_llz (f : D → D → R D) (j k : Nat) (s : Sto) : d2 f (.loc j) (.loc k) s = zkDb f k s (dat s (.loc j)) := rfl
noncomputable def zkT  (rr : R (W × Sto)) : R (Bool × Sto) := rr.bind fun p => match p.1 with | .d (.bl b) => .ok (b, p.2) | _ => .stuck
theorem zkT_ok  (b : Bool) (s : Sto) : zkT (.ok (.d (.bl b), s)) = .ok (b, s) := rfl
theorem zkT_st  : zkT .stuck = .stuck := rfl
theorem zkT_ex  (xc : Exc) (tc : Sto) : zkT (.ex xc tc) = .ex xc tc := rfl
theorem zkT_if  (cp : Prop) [Decidable cp] (ra rb : R (W × Sto)) : zkT (if cp then ra else rb) = if cp then zkT ra else zkT rb := by split <;> rfl
theorem tB_z (a : Ev) (e : Env) (s : Sto) : tB a e s = zkT (a e s) := rfl
noncomputable def zkAnd (b : Tx) (e : Env) (rr : R (Bool × Sto)) : R (Bool × Sto) := rr.bind fun p => if p.1 then b e p.2 else .ok (false, p.2)
theorem zkAnd_t (b : Tx) (e : Env) (s : Sto) : zkAnd b e (.ok (true, s)) = b e s := rfl
theorem zkAnd_f (b : Tx) (e : Env) (s : Sto) : zkAnd b e (.ok (false, s)) = .ok (false, s) := rfl
theorem zkAnd_d (b : Tx) (e : Env) (s : Sto) (cp : Prop) [Decidable cp] : zkAnd b e (.ok (decide cp, s)) = if cp then b e s else .ok (false, s) := by by_cases h : cp <;> simp [h] <;> rfl
theorem zkAnd_n (b : Tx) (e : Env) (s : Sto) (cp : Prop) [Decidable cp] : zkAnd b e (.ok (!decide cp, s)) = if cp then .ok (false, s) else b e s := by by_cases h : cp <;> simp [h] <;> rfl
theorem zkAnd_st (b : Tx) (e : Env) : zkAnd b e .stuck = .stuck := rfl
theorem zkAnd_if (b : Tx) (e : Env) (cp : Prop) [Decidable cp] (ra rb : R (Bool × Sto)) : zkAnd b e (if cp then ra else rb) = if cp then zkAnd b e ra else zkAnd b e rb := by split <;> rfl
noncomputable def zkOr (b : Tx) (e : Env) (rr : R (Bool × Sto)) : R (Bool × Sto) := rr.bind fun p => if p.1 then .ok (true, p.2) else b e p.2
theorem zkOr_t (b : Tx) (e : Env) (s : Sto) : zkOr b e (.ok (true, s)) = .ok (true, s) := rfl
theorem zkOr_f (b : Tx) (e : Env) (s : Sto) : zkOr b e (.ok (false, s)) = b e s := rfl
theorem zkOr_d (b : Tx) (e : Env) (s : Sto) (cp : Prop) [Decidable cp] : zkOr b e (.ok (decide cp, s)) = if cp then .ok (true, s) else b e s := by by_cases h : cp <;> simp [h] <;> rfl
theorem zkOr_n (b : Tx) (e : Env) (s : Sto) (cp : Prop) [Decidable cp] : zkOr b e (.ok (!decide cp, s)) = if cp then b e s else .ok (true, s) := by by_cases h : cp <;> simp [h] <;> rfl
theorem zkOr_st (b : Tx) (e : Env) : zkOr b e .stuck = .stuck := rfl
theorem zkOr_if (b : Tx) (e : Env) (cp : Prop) [Decidable cp] (ra rb : R (Bool × Sto)) : zkOr b e (if cp then ra else rb) = if cp then zkOr b e ra else zkOr b e rb := by split <;> rfl
noncomputable def zkNo  (rr : R (Bool × Sto)) : R (Bool × Sto) := rr.bind fun p => .ok (!p.1, p.2)
theorem zkNo_ok  (b : Bool) (s : Sto) : zkNo (.ok (b, s)) = .ok (!b, s) := rfl
theorem zkNo_st  : zkNo .stuck = .stuck := rfl
theorem zkNo_ex  (xc : Exc) (tc : Sto) : zkNo (.ex xc tc) = .ex xc tc := rfl
theorem zkNo_if  (cp : Prop) [Decidable cp] (ra rb : R (Bool × Sto)) : zkNo (if cp then ra else rb) = if cp then zkNo ra else zkNo rb := by split <;> rfl
theorem tAnd_z (a b : Tx) (e : Env) (s : Sto) : tAnd a b e s = zkAnd b e (a e s) := rfl
theorem tOr_z (a b : Tx) (e : Env) (s : Sto) : tOr a b e s = zkOr b e (a e s) := rfl
theorem tNot_z (a : Tx) (e : Env) (s : Sto) : tNot a e s = zkNo (a e s) := rfl
noncomputable def zkEA (b : Ev) (e : Env) (rr : R (W × Sto)) : VS := rr.bind fun p => match p.1 with | .d (.bl true) => b e p.2 | .d (.bl false) => .ok (.d (.bl false), p.2) | _ => .stuck
theorem zkEA_t (b : Ev) (e : Env) (s : Sto) : zkEA b e (.ok (.d (.bl (true)), s)) = b e s := rfl
theorem zkEA_f (b : Ev) (e : Env) (s : Sto) : zkEA b e (.ok (.d (.bl (false)), s)) = .ok (.d (.bl false), s) := rfl
theorem zkEA_d (b : Ev) (e : Env) (s : Sto) (cp : Prop) [Decidable cp] : zkEA b e (.ok (.d (.bl (decide cp)), s)) = if cp then b e s else .ok (.d (.bl false), s) := by by_cases h : cp <;> simp [h] <;> rfl
theorem zkEA_n (b : Ev) (e : Env) (s : Sto) (cp : Prop) [Decidable cp] : zkEA b e (.ok (.d (.bl (!decide cp)), s)) = if cp then .ok (.d (.bl false), s) else b e s := by by_cases h : cp <;> simp [h] <;> rfl
theorem zkEA_st (b : Ev) (e : Env) : zkEA b e .stuck = .stuck := rfl
theorem zkEA_if (b : Ev) (e : Env) (cp : Prop) [Decidable cp] (ra rb : R (W × Sto)) : zkEA b e (if cp then ra else rb) = if cp then zkEA b e ra else zkEA b e rb := by split <;> rfl
noncomputable def zkEO (b : Ev) (e : Env) (rr : R (W × Sto)) : VS := rr.bind fun p => match p.1 with | .d (.bl true) => .ok (.d (.bl true), p.2) | .d (.bl false) => b e p.2 | _ => .stuck
theorem zkEO_t (b : Ev) (e : Env) (s : Sto) : zkEO b e (.ok (.d (.bl (true)), s)) = .ok (.d (.bl true), s) := rfl
theorem zkEO_f (b : Ev) (e : Env) (s : Sto) : zkEO b e (.ok (.d (.bl (false)), s)) = b e s := rfl
theorem zkEO_d (b : Ev) (e : Env) (s : Sto) (cp : Prop) [Decidable cp] : zkEO b e (.ok (.d (.bl (decide cp)), s)) = if cp then .ok (.d (.bl true), s) else b e s := by by_cases h : cp <;> simp [h] <;> rfl
theorem zkEO_n (b : Ev) (e : Env) (s : Sto) (cp : Prop) [Decidable cp] : zkEO b e (.ok (.d (.bl (!decide cp)), s)) = if cp then b e s else .ok (.d (.bl true), s) := by by_cases h : cp <;> simp [h] <;> rfl
theorem zkEO_st (b : Ev) (e : Env) : zkEO b e .stuck = .stuck := rfl
theorem zkEO_if (b : Ev) (e : Env) (cp : Prop) [Decidable cp] (ra rb : R (W × Sto)) : zkEO b e (if cp then ra else rb) = if cp then zkEO b e ra else zkEO b e rb := by split <;> rfl
noncomputable def zkEN  (rr : R (W × Sto)) : VS := rr.bind fun p => match p.1 with | .d (.bl b) => .ok (.d (.bl (!b)), p.2) | _ => .stuck
theorem zkEN_ok  (b : Bool) (s : Sto) : zkEN (.ok (.d (.bl b), s)) = .ok (.d (.bl (!b)), s) := rfl
theorem zkEN_st  : zkEN .stuck = .stuck := rfl
theorem zkEN_ex  (xc : Exc) (tc : Sto) : zkEN (.ex xc tc) = .ex xc tc := rfl
theorem zkEN_if  (cp : Prop) [Decidable cp] (ra rb : R (W × Sto)) : zkEN (if cp then ra else rb) = if cp then zkEN ra else zkEN rb := by split <;> rfl
theorem eAnd_z (a b : Ev) (e : Env) (s : Sto) : eAnd a b e s = zkEA b e (a e s) := rfl
theorem eOr_z (a b : Ev) (e : Env) (s : Sto) : eOr a b e s = zkEO b e (a e s) := rfl
theorem eNot_z (a : Ev) (e : Env) (s : Sto) : eNot a e s = zkEN (a e s) := rfl
noncomputable def zkEI (a b : Ev) (e : Env) (rr : R (Bool × Sto)) : VS := rr.bind fun p => if p.1 then a e p.2 else b e p.2
theorem zkEI_t (a b : Ev) (e : Env) (s : Sto) : zkEI a b e (.ok (true, s)) = a e s := rfl
theorem zkEI_f (a b : Ev) (e : Env) (s : Sto) : zkEI a b e (.ok (false, s)) = b e s := rfl
theorem zkEI_d (a b : Ev) (e : Env) (s : Sto) (cp : Prop) [Decidable cp] : zkEI a b e (.ok (decide cp, s)) = if cp then a e s else b e s := by by_cases h : cp <;> simp [h] <;> rfl
theorem zkEI_n (a b : Ev) (e : Env) (s : Sto) (cp : Prop) [Decidable cp] : zkEI a b e (.ok (!decide cp, s)) = if cp then b e s else a e s := by by_cases h : cp <;> simp [h] <;> rfl
theorem zkEI_st (a b : Ev) (e : Env) : zkEI a b e .stuck = .stuck := rfl
theorem zkEI_if (a b : Ev) (e : Env) (cp : Prop) [Decidable cp] (ra rb : R (Bool × Sto)) : zkEI a b e (if cp then ra else rb) = if cp then zkEI a b e ra else zkEI a b e rb := by split <;> rfl
theorem eIf_z (t : Tx) (a b : Ev) (e : Env) (s : Sto) : eIf t a b e s = zkEI a b e (t e s) := rfl
noncomputable def zkC2 (g : W → W → Sto → VS) (y : W) (c : Ev) (e : Env) (rr : R (W × Sto)) : VS := rr.bind fun q => match q.1 with | .d (.bl true) => (c e q.2).bind fun t => g y t.1 t.2 | .d (.bl false) => .ok (.d (.bl false), q.2) | _ => .stuck
theorem zkC2_t (g : W → W → Sto → VS) (y : W) (c : Ev) (e : Env) (s : Sto) : zkC2 g y c e (.ok (.d (.bl (true)), s)) = zk2b g y (c e s) := rfl
theorem zkC2_f (g : W → W → Sto → VS) (y : W) (c : Ev) (e : Env) (s : Sto) : zkC2 g y c e (.ok (.d (.bl (false)), s)) = .ok (.d (.bl false), s) := rfl
theorem zkC2_d (g : W → W → Sto → VS) (y : W) (c : Ev) (e : Env) (s : Sto) (cp : Prop) [Decidable cp] : zkC2 g y c e (.ok (.d (.bl (decide cp)), s)) = if cp then zk2b g y (c e s) else .ok (.d (.bl false), s) := by by_cases h : cp <;> simp [h] <;> rfl
theorem zkC2_n (g : W → W → Sto → VS) (y : W) (c : Ev) (e : Env) (s : Sto) (cp : Prop) [Decidable cp] : zkC2 g y c e (.ok (.d (.bl (!decide cp)), s)) = if cp then .ok (.d (.bl false), s) else zk2b g y (c e s) := by by_cases h : cp <;> simp [h] <;> rfl
theorem zkC2_st (g : W → W → Sto → VS) (y : W) (c : Ev) (e : Env) : zkC2 g y c e .stuck = .stuck := rfl
theorem zkC2_if (g : W → W → Sto → VS) (y : W) (c : Ev) (e : Env) (cp : Prop) [Decidable cp] (ra rb : R (W × Sto)) : zkC2 g y c e (if cp then ra else rb) = if cp then zkC2 g y c e ra else zkC2 g y c e rb := by split <;> rfl
noncomputable def zkC1 (f g : W → W → Sto → VS) (x : W) (c : Ev) (e : Env) (rr : R (W × Sto)) : VS := rr.bind fun q => zkC2 g q.1 c e (f x q.1 q.2)
theorem zkC1_ok (f g : W → W → Sto → VS) (x : W) (c : Ev) (e : Env) (w : W) (s : Sto) : zkC1 f g x c e (.ok (w, s)) = zkC2 g w c e (f x w s) := rfl
theorem zkC1_st (f g : W → W → Sto → VS) (x : W) (c : Ev) (e : Env) : zkC1 f g x c e .stuck = .stuck := rfl
theorem zkC1_ex (f g : W → W → Sto → VS) (x : W) (c : Ev) (e : Env) (xc : Exc) (tc : Sto) : zkC1 f g x c e (.ex xc tc) = .ex xc tc := rfl
theorem zkC1_if (f g : W → W → Sto → VS) (x : W) (c : Ev) (e : Env) (cp : Prop) [Decidable cp] (ra rb : R (W × Sto)) : zkC1 f g x c e (if cp then ra else rb) = if cp then zkC1 f g x c e ra else zkC1 f g x c e rb := by split <;> rfl
noncomputable def zkC0 (f g : W → W → Sto → VS) (b c : Ev) (e : Env) (rr : R (W × Sto)) : VS := rr.bind fun p => zkC1 f g p.1 c e (b e p.2)
theorem zkC0_ok (f g : W → W → Sto → VS) (b c : Ev) (e : Env) (w : W) (s : Sto) : zkC0 f g b c e (.ok (w, s)) = zkC1 f g w c e (b e s) := rfl
theorem zkC0_st (f g : W → W → Sto → VS) (b c : Ev) (e : Env) : zkC0 f g b c e .stuck = .stuck := rfl
theorem zkC0_ex (f g : W → W → Sto → VS) (b c : Ev) (e : Env) (xc : Exc) (tc : Sto) : zkC0 f g b c e (.ex xc tc) = .ex xc tc := rfl
theorem zkC0_if (f g : W → W → Sto → VS) (b c : Ev) (e : Env) (cp : Prop) [Decidable cp] (ra rb : R (W × Sto)) : zkC0 f g b c e (if cp then ra else rb) = if cp then zkC0 f g b c e ra else zkC0 f g b c e rb := by split <;> rfl
theorem eCh_z (f g : W → W → Sto → VS) (a b c : Ev) (e : Env) (s : Sto) : eCh f g a b c e s = zkC0 f g b c e (a e s) := rfl
noncomputable def zkS (b : Sx) (rr : R O) : R O := rr.bind fun o => match o with | .nx e s => b e s | o => .ok o
theorem zkS_nx (b : Sx) (e : Env) (s : Sto) : zkS b (.ok (.nx e s)) = b e s := rfl
theorem zkS_rt (b : Sx) (w : W) (s : Sto) : zkS b (.ok (.rt w s)) = .ok (.rt w s) := rfl
theorem zkS_bk (b : Sx) (e : Env) (s : Sto) : zkS b (.ok (.bk e s)) = .ok (.bk e s) := rfl
theorem zkS_ct (b : Sx) (e : Env) (s : Sto) : zkS b (.ok (.ct e s)) = .ok (.ct e s) := rfl
theorem zkS_xx (b : Sx) (x : Exc) (e : Env) (s : Sto) : zkS b (.ok (.xx x e s)) = .ok (.xx x e s) := rfl
theorem zkS_st (b : Sx) : zkS b .stuck = .stuck := rfl
theorem zkS_ex (b : Sx) (xc : Exc) (tc : Sto) : zkS b (.ex xc tc) = .ex xc tc := rfl
theorem zkS_if (b : Sx) (cp : Prop) [Decidable cp] (ra rb : R O) : zkS b (if cp then ra else rb) = if cp then zkS b ra else zkS b rb := by split <;> rfl
theorem sSeq_z (a b : Sx) (e : Env) (s : Sto) : sSeq a b e s = zkS b (a e s) := rfl
noncomputable def zkGa (e0 : Env) (rr : R (Env × Sto)) : R O := rr.bd e0 fun q => .ok (.nx q.1 q.2)
theorem zkGa_ok (e0 : Env) (e : Env) (s : Sto) : zkGa e0 (.ok (e, s)) = .ok (.nx e s) := rfl
theorem zkGa_st (e0 : Env) : zkGa e0 .stuck = .stuck := rfl
theorem zkGa_ex (e0 : Env) (xc : Exc) (tc : Sto) : zkGa e0 (.ex xc tc) = .ok (.xx xc e0 tc) := rfl
theorem zkGa_if (e0 : Env) (cp : Prop) [Decidable cp] (ra rb : R (Env × Sto)) : zkGa e0 (if cp then ra else rb) = if cp then zkGa e0 ra else zkGa e0 rb := by split <;> rfl
noncomputable def zkG (g : Tg) (e : Env) (rr : R (W × Sto)) : R O := rr.bd e fun p => zkGa e (g p.1 e p.2)
theorem zkG_ok (g : Tg) (e : Env) (w : W) (s : Sto) : zkG g e (.ok (w, s)) = zkGa e (g w e s) := rfl
theorem zkG_st (g : Tg) (e : Env) : zkG g e .stuck = .stuck := rfl
theorem zkG_ex (g : Tg) (e : Env) (xc : Exc) (tc : Sto) : zkG g e (.ex xc tc) = .ok (.xx xc e tc) := rfl
theorem zkG_if (g : Tg) (e : Env) (cp : Prop) [Decidable cp] (ra rb : R (W × Sto)) : zkG g e (if cp then ra else rb) = if cp then zkG g e ra else zkG g e rb := by split <;> rfl
theorem sAsg_z (g : Tg) (a : Ev) (e : Env) (s : Sto) : sAsg g a e s = zkG g e (a e s) := rfl
noncomputable def zkX (e : Env) (rr : R (W × Sto)) : R O := rr.bd e fun p => .ok (.nx e p.2)
theorem zkX_ok (e : Env) (w : W) (s : Sto) : zkX e (.ok (w, s)) = .ok (.nx e s) := rfl
theorem zkX_st (e : Env) : zkX e .stuck = .stuck := rfl
theorem zkX_ex (e : Env) (xc : Exc) (tc : Sto) : zkX e (.ex xc tc) = .ok (.xx xc e tc) := rfl
theorem zkX_if (e : Env) (cp : Prop) [Decidable cp] (ra rb : R (W × Sto)) : zkX e (if cp then ra else rb) = if cp then zkX e ra else zkX e rb := by split <;> rfl
theorem sX_z (a : Ev) (e : Env) (s : Sto) : sX a e s = zkX e (a e s) := rfl
noncomputable def zkR (e : Env) (rr : R (W × Sto)) : R O := rr.bd e fun p => .ok (.rt p.1 p.2)
theorem zkR_ok (e : Env) (w : W) (s : Sto) : zkR e (.ok (w, s)) = .ok (.rt w s) := rfl
theorem zkR_st (e : Env) : zkR e .stuck = .stuck := rfl
theorem zkR_ex (e : Env) (xc : Exc) (tc : Sto) : zkR e (.ex xc tc) = .ok (.xx xc e tc) := rfl
theorem zkR_if (e : Env) (cp : Prop) [Decidable cp] (ra rb : R (W × Sto)) : zkR e (if cp then ra else rb) = if cp then zkR e ra else zkR e rb := by split <;> rfl
theorem sRet_z (a : Ev) (e : Env) (s : Sto) : sRet a e s = zkR e (a e s) := rfl
noncomputable def zkSI (a b : Sx) (e : Env) (rr : R (Bool × Sto)) : R O := rr.bd e fun p => if p.1 then a e p.2 else b e p.2
theorem zkSI_t (a b : Sx) (e : Env) (s : Sto) : zkSI a b e (.ok (true, s)) = a e s := rfl
theorem zkSI_f (a b : Sx) (e : Env) (s : Sto) : zkSI a b e (.ok (false, s)) = b e s := rfl
theorem zkSI_d (a b : Sx) (e : Env) (s : Sto) (cp : Prop) [Decidable cp] : zkSI a b e (.ok (decide cp, s)) = if cp then a e s else b e s := by by_cases h : cp <;> simp [h] <;> rfl
theorem zkSI_n (a b : Sx) (e : Env) (s : Sto) (cp : Prop) [Decidable cp] : zkSI a b e (.ok (!decide cp, s)) = if cp then b e s else a e s := by by_cases h : cp <;> simp [h] <;> rfl
theorem zkSI_st (a b : Sx) (e : Env) : zkSI a b e .stuck = .stuck := rfl
theorem zkSI_if (a b : Sx) (e : Env) (cp : Prop) [Decidable cp] (ra rb : R (Bool × Sto)) : zkSI a b e (if cp then ra else rb) = if cp then zkSI a b e ra else zkSI a b e rb := by split <;> rfl
theorem sIf_z (t : Tx) (a b : Sx) (e : Env) (s : Sto) : sIf t a b e s = zkSI a b e (t e s) := rfl
noncomputable def zkK (ks : List Nat) (rr : R O) : R O := rr.bind fun o => match o with | .nx e s => .ok (.nx (kill ks e) s) | .ct e s => .ok (.ct (kill ks e) s) | .bk e s => .ok (.bk (kill ks e) s) | o => .ok o
theorem zkK_nx (ks : List Nat) (e : Env) (s : Sto) : zkK ks (.ok (.nx e s)) = .ok (.nx (kill ks e) s) := rfl
theorem zkK_rt (ks : List Nat) (w : W) (s : Sto) : zkK ks (.ok (.rt w s)) = .ok (.rt w s) := rfl
theorem zkK_bk (ks : List Nat) (e : Env) (s : Sto) : zkK ks (.ok (.bk e s)) = .ok (.bk (kill ks e) s) := rfl
theorem zkK_ct (ks : List Nat) (e : Env) (s : Sto) : zkK ks (.ok (.ct e s)) = .ok (.ct (kill ks e) s) := rfl
theorem zkK_xx (ks : List Nat) (x : Exc) (e : Env) (s : Sto) : zkK ks (.ok (.xx x e s)) = .ok (.xx x e s) := rfl
theorem zkK_st (ks : List Nat) : zkK ks .stuck = .stuck := rfl
theorem zkK_ex (ks : List Nat) (xc : Exc) (tc : Sto) : zkK ks (.ex xc tc) = .ex xc tc := rfl
theorem zkK_if (ks : List Nat) (cp : Prop) [Decidable cp] (ra rb : R O) : zkK ks (if cp then ra else rb) = if cp then zkK ks ra else zkK ks rb := by split <;> rfl
theorem sKill_z (ks : List Nat) (a : Sx) (e : Env) (s : Sto) : sKill ks a e s = zkK ks (a e s) := rfl
noncomputable def zkF (g : Tg) (b : Sx) (e : Env) (rr : R (List W × Sto)) : R O := rr.bd e fun p => loop g b p.1 e p.2
theorem zkF_ok (g : Tg) (b : Sx) (e : Env) (l : List W) (s : Sto) : zkF g b e (.ok (l, s)) = loop g b l e s := rfl
theorem zkF_st (g : Tg) (b : Sx) (e : Env) : zkF g b e .stuck = .stuck := rfl
theorem zkF_ex (g : Tg) (b : Sx) (e : Env) (xc : Exc) (tc : Sto) : zkF g b e (.ex xc tc) = .ok (.xx xc e tc) := rfl
theorem zkF_if (g : Tg) (b : Sx) (e : Env) (cp : Prop) [Decidable cp] (ra rb : R (List W × Sto)) : zkF g b e (if cp then ra else rb) = if cp then zkF g b e ra else zkF g b e rb := by split <;> rfl
theorem sFor_z (i : Wk) (g : Tg) (b : Sx) (e : Env) (s : Sto) : sFor i g b e s = zkF g b e (i e s) := rfl
noncomputable def zkLs (b : Sx) (e0 : Env) (rr : R (Env × Sto)) : R O := rr.bd e0 fun p => b p.1 p.2
theorem zkLs_ok (b : Sx) (e0 : Env) (e : Env) (s : Sto) : zkLs b e0 (.ok (e, s)) = b e s := rfl
theorem zkLs_st (b : Sx) (e0 : Env) : zkLs b e0 .stuck = .stuck := rfl
theorem zkLs_ex (b : Sx) (e0 : Env) (xc : Exc) (tc : Sto) : zkLs b e0 (.ex xc tc) = .ok (.xx xc e0 tc) := rfl
theorem zkLs_if (b : Sx) (e0 : Env) (cp : Prop) [Decidable cp] (ra rb : R (Env × Sto)) : zkLs b e0 (if cp then ra else rb) = if cp then zkLs b e0 ra else zkLs b e0 rb := by split <;> rfl
theorem lstep_z (g : Tg) (b : Sx) (w : W) (e : Env) (s : Sto) : lstep g b w e s = zkLs b e (g w e s) := rfl
noncomputable def zkL (g : Tg) (b : Sx) (xs : List W) (rr : R O) : R O := rr.bind fun o => turn o (loop g b xs)
theorem zkL_nx (g : Tg) (b : Sx) (xs : List W) (e : Env) (s : Sto) : zkL g b xs (.ok (.nx e s)) = loop g b xs e s := rfl
theorem zkL_rt (g : Tg) (b : Sx) (xs : List W) (w : W) (s : Sto) : zkL g b xs (.ok (.rt w s)) = .ok (.rt w s) := rfl
theorem zkL_bk (g : Tg) (b : Sx) (xs : List W) (e : Env) (s : Sto) : zkL g b xs (.ok (.bk e s)) = .ok (.nx e s) := rfl
theorem zkL_ct (g : Tg) (b : Sx) (xs : List W) (e : Env) (s : Sto) : zkL g b xs (.ok (.ct e s)) = loop g b xs e s := rfl
theorem zkL_xx (g : Tg) (b : Sx) (xs : List W) (x : Exc) (e : Env) (s : Sto) : zkL g b xs (.ok (.xx x e s)) = .ok (.xx x e s) := rfl
theorem zkL_st (g : Tg) (b : Sx) (xs : List W) : zkL g b xs .stuck = .stuck := rfl
theorem zkL_ex (g : Tg) (b : Sx) (xs : List W) (xc : Exc) (tc : Sto) : zkL g b xs (.ex xc tc) = .ex xc tc := rfl
theorem zkL_if (g : Tg) (b : Sx) (xs : List W) (cp : Prop) [Decidable cp] (ra rb : R O) : zkL g b xs (if cp then ra else rb) = if cp then zkL g b xs ra else zkL g b xs rb := by split <;> rfl
theorem loop_cz (g : Tg) (b : Sx) (x : W) (xs : List W) (e : Env) (s : Sto) : loop g b (x :: xs) e s = zkL g b xs (zkLs b e (g x e s)) := loop_step g b x xs e s
noncomputable def zkW2 (t : Tx) (b : Sx) (n : Nat) (rr : R O) : R O := rr.bind fun o => turn o (whl t b n)
theorem zkW2_nx (t : Tx) (b : Sx) (n : Nat) (e : Env) (s : Sto) : zkW2 t b n (.ok (.nx e s)) = whl t b n e s := rfl
theorem zkW2_rt (t : Tx) (b : Sx) (n : Nat) (w : W) (s : Sto) : zkW2 t b n (.ok (.rt w s)) = .ok (.rt w s) := rfl
theorem zkW2_bk (t : Tx) (b : Sx) (n : Nat) (e : Env) (s : Sto) : zkW2 t b n (.ok (.bk e s)) = .ok (.nx e s) := rfl
theorem zkW2_ct (t : Tx) (b : Sx) (n : Nat) (e : Env) (s : Sto) : zkW2 t b n (.ok (.ct e s)) = whl t b n e s := rfl
theorem zkW2_xx (t : Tx) (b : Sx) (n : Nat) (x : Exc) (e : Env) (s : Sto) : zkW2 t b n (.ok (.xx x e s)) = .ok (.xx x e s) := rfl
theorem zkW2_st (t : Tx) (b : Sx) (n : Nat) : zkW2 t b n .stuck = .stuck := rfl
theorem zkW2_ex (t : Tx) (b : Sx) (n : Nat) (xc : Exc) (tc : Sto) : zkW2 t b n (.ex xc tc) = .ex xc tc := rfl
theorem zkW2_if (t : Tx) (b : Sx) (n : Nat) (cp : Prop) [Decidable cp] (ra rb : R O) : zkW2 t b n (if cp then ra else rb) = if cp then zkW2 t b n ra else zkW2 t b n rb := by split <;> rfl
noncomputable def zkW (t : Tx) (b : Sx) (n : Nat) (e : Env) (rr : R (Bool × Sto)) : R O := rr.bd e fun p => if p.1 then (b e p.2).bind fun o => turn o (whl t b n) else .ok (.nx e p.2)
theorem zkW_t (t : Tx) (b : Sx) (n : Nat) (e : Env) (s : Sto) : zkW t b n e (.ok (true, s)) = zkW2 t b n (b e s) := rfl
theorem zkW_f (t : Tx) (b : Sx) (n : Nat) (e : Env) (s : Sto) : zkW t b n e (.ok (false, s)) = .ok (.nx e s) := rfl
theorem zkW_d (t : Tx) (b : Sx) (n : Nat) (e : Env) (s : Sto) (cp : Prop) [Decidable cp] : zkW t b n e (.ok (decide cp, s)) = if cp then zkW2 t b n (b e s) else .ok (.nx e s) := by by_cases h : cp <;> simp [h] <;> rfl
theorem zkW_n (t : Tx) (b : Sx) (n : Nat) (e : Env) (s : Sto) (cp : Prop) [Decidable cp] : zkW t b n e (.ok (!decide cp, s)) = if cp then .ok (.nx e s) else zkW2 t b n (b e s) := by by_cases h : cp <;> simp [h] <;> rfl
theorem zkW_st (t : Tx) (b : Sx) (n : Nat) (e : Env) : zkW t b n e .stuck = .stuck := rfl
theorem zkW_if (t : Tx) (b : Sx) (n : Nat) (e : Env) (cp : Prop) [Decidable cp] (ra rb : R (Bool × Sto)) : zkW t b n e (if cp then ra else rb) = if cp then zkW t b n e ra else zkW t b n e rb := by split <;> rfl
theorem whl_cz (t : Tx) (b : Sx) (n : Nat) (e : Env) (s : Sto) : whl t b (n + 1) e s = zkW t b n e (t e s) := rfl
noncomputable def zkGs (gs : List Tg) (l : List W) (rr : R (Env × Sto)) : R (Env × Sto) := rr.bind fun p => gTs gs l p.1 p.2
theorem zkGs_ok (gs : List Tg) (l : List W) (e : Env) (s : Sto) : zkGs gs l (.ok (e, s)) = gTs gs l e s := rfl
theorem zkGs_st (gs : List Tg) (l : List W) : zkGs gs l .stuck = .stuck := rfl
theorem zkGs_ex (gs : List Tg) (l : List W) (xc : Exc) (tc : Sto) : zkGs gs l (.ex xc tc) = .ex xc tc := rfl
theorem zkGs_if (gs : List Tg) (l : List W) (cp : Prop) [Decidable cp] (ra rb : R (Env × Sto)) : zkGs gs l (if cp then ra else rb) = if cp then zkGs gs l ra else zkGs gs l rb := by split <;> rfl
theorem gTs_z (g : Tg) (gs : List Tg) (w : W) (l : List W) (e : Env) (s : Sto) : gTs (g :: gs) (w :: l) e s = zkGs gs l (g w e s) := rfl
noncomputable def zkNd (b : Bool) (f : W → Sto → VS) (x : W) (s : Sto) : VS := need b (f x s)
theorem zkNd_t (f : W → Sto → VS) (x : W) (s : Sto) : zkNd true f x s = f x s := rfl
noncomputable def zkM0 (p : W → Sto → Bool) (f : W → Sto → VS) (rr : R (W × Sto)) : VS := rr.bind fun q => zkNd (p q.1 q.2) f q.1 q.2
theorem zkM0_ok (p : W → Sto → Bool) (f : W → Sto → VS) (w : W) (s : Sto) : zkM0 p f (.ok (w, s)) = zkNd (p w s) f w s := rfl
theorem zkM0_st (p : W → Sto → Bool) (f : W → Sto → VS) : zkM0 p f .stuck = .stuck := rfl
theorem zkM0_ex (p : W → Sto → Bool) (f : W → Sto → VS) (xc : Exc) (tc : Sto) : zkM0 p f (.ex xc tc) = .ex xc tc := rfl
theorem zkM0_if (p : W → Sto → Bool) (f : W → Sto → VS) (cp : Prop) [Decidable cp] (ra rb : R (W × Sto)) : zkM0 p f (if cp then ra else rb) = if cp then zkM0 p f ra else zkM0 p f rb := by split <;> rfl
theorem m0_z (p : W → Sto → Bool) (f : W → Sto → VS) (a : Ev) (e : Env) (s : Sto) : m0 p f a e s = zkM0 p f (a e s) := rfl
noncomputable def zkNd1 (c : Bool) (f : W → W → Sto → VS) (b : Ev) (e : Env) (x : W) (s : Sto) : VS := need c (zk2b f x (b e s))
theorem zkNd1_t (f : W → W → Sto → VS) (b : Ev) (e : Env) (x : W) (s : Sto) : zkNd1 true f b e x s = zk2b f x (b e s) := rfl
noncomputable def zkM1 (p : W → Sto → Bool) (f : W → W → Sto → VS) (b : Ev) (e : Env) (rr : R (W × Sto)) : VS := rr.bind fun q => zkNd1 (p q.1 q.2) f b e q.1 q.2
theorem zkM1_ok (p : W → Sto → Bool) (f : W → W → Sto → VS) (b : Ev) (e : Env) (w : W) (s : Sto) : zkM1 p f b e (.ok (w, s)) = zkNd1 (p w s) f b e w s := rfl
theorem zkM1_st (p : W → Sto → Bool) (f : W → W → Sto → VS) (b : Ev) (e : Env) : zkM1 p f b e .stuck = .stuck := rfl
theorem zkM1_ex (p : W → Sto → Bool) (f : W → W → Sto → VS) (b : Ev) (e : Env) (xc : Exc) (tc : Sto) : zkM1 p f b e (.ex xc tc) = .ex xc tc := rfl
theorem zkM1_if (p : W → Sto → Bool) (f : W → W → Sto → VS) (b : Ev) (e : Env) (cp : Prop) [Decidable cp] (ra rb : R (W × Sto)) : zkM1 p f b e (if cp then ra else rb) = if cp then zkM1 p f b e ra else zkM1 p f b e rb := by split <;> rfl
theorem m1_z (p : W → Sto → Bool) (f : W → W → Sto → VS) (a b : Ev) (e : Env) (s : Sto) : m1 p f a b e s = zkM1 p f b e (a e s) := rfl
noncomputable def zk3c (f : W → W → W → Sto → VS) (x y : W) (rr : R (W × Sto)) : VS := rr.bind fun t => f x y t.1 t.2
theorem zk3c_ok (f : W → W → W → Sto → VS) (x y : W) (w : W) (s : Sto) : zk3c f x y (.ok (w, s)) = f x y w s := rfl
theorem zk3c_st (f : W → W → W → Sto → VS) (x y : W) : zk3c f x y .stuck = .stuck := rfl
theorem zk3c_ex (f : W → W → W → Sto → VS) (x y : W) (xc : Exc) (tc : Sto) : zk3c f x y (.ex xc tc) = .ex xc tc := rfl
theorem zk3c_if (f : W → W → W → Sto → VS) (x y : W) (cp : Prop) [Decidable cp] (ra rb : R (W × Sto)) : zk3c f x y (if cp then ra else rb) = if cp then zk3c f x y ra else zk3c f x y rb := by split <;> rfl
noncomputable def zk3b (f : W → W → W → Sto → VS) (x : W) (c : Ev) (e : Env) (rr : R (W × Sto)) : VS := rr.bind fun q => zk3c f x q.1 (c e q.2)
theorem zk3b_ok (f : W → W → W → Sto → VS) (x : W) (c : Ev) (e : Env) (w : W) (s : Sto) : zk3b f x c e (.ok (w, s)) = zk3c f x w (c e s) := rfl
theorem zk3b_st (f : W → W → W → Sto → VS) (x : W) (c : Ev) (e : Env) : zk3b f x c e .stuck = .stuck := rfl
theorem zk3b_ex (f : W → W → W → Sto → VS) (x : W) (c : Ev) (e : Env) (xc : Exc) (tc : Sto) : zk3b f x c e (.ex xc tc) = .ex xc tc := rfl
theorem zk3b_if (f : W → W → W → Sto → VS) (x : W) (c : Ev) (e : Env) (cp : Prop) [Decidable cp] (ra rb : R (W × Sto)) : zk3b f x c e (if cp then ra else rb) = if cp then zk3b f x c e ra else zk3b f x c e rb := by split <;> rfl
noncomputable def zkNd2 (t : Bool) (f : W → W → W → Sto → VS) (b c : Ev) (e : Env) (x : W) (s : Sto) : VS := need t (zk3b f x c e (b e s))
theorem zkNd2_t (f : W → W → W → Sto → VS) (b c : Ev) (e : Env) (x : W) (s : Sto) : zkNd2 true f b c e x s = zk3b f x c e (b e s) := rfl
noncomputable def zkM2 (p : W → Sto → Bool) (f : W → W → W → Sto → VS) (b c : Ev) (e : Env) (rr : R (W × Sto)) : VS := rr.bind fun q => zkNd2 (p q.1 q.2) f b c e q.1 q.2
theorem zkM2_ok (p : W → Sto → Bool) (f : W → W → W → Sto → VS) (b c : Ev) (e : Env) (w : W) (s : Sto) : zkM2 p f b c e (.ok (w, s)) = zkNd2 (p w s) f b c e w s := rfl
theorem zkM2_st (p : W → Sto → Bool) (f : W → W → W → Sto → VS) (b c : Ev) (e : Env) : zkM2 p f b c e .stuck = .stuck := rfl
theorem zkM2_ex (p : W → Sto → Bool) (f : W → W → W → Sto → VS) (b c : Ev) (e : Env) (xc : Exc) (tc : Sto) : zkM2 p f b c e (.ex xc tc) = .ex xc tc := rfl
theorem zkM2_if (p : W → Sto → Bool) (f : W → W → W → Sto → VS) (b c : Ev) (e : Env) (cp : Prop) [Decidable cp] (ra rb : R (W × Sto)) : zkM2 p f b c e (if cp then ra else rb) = if cp then zkM2 p f b c e ra else zkM2 p f b c e rb := by split <;> rfl
theorem m2_z (p : W → Sto → Bool) (f : W → W → W → Sto → VS) (a b c : Ev) (e : Env) (s : Sto) : m2 p f a b c e s = zkM2 p f b c e (a e s) := rfl
noncomputable def zkI  (rr : R (W × Sto)) : R (List W × Sto) := rr.bind fun p => match p.1 with | .d (.lst l) => .ok (ws l, p.2) | .d (.tup l) => .ok (ws l, p.2) | .d (.inp l) => .ok (ws l, p.2) | .d (.inq l) => .ok (ws l, p.2) | .tw l => .ok (l, p.2) | _ => .stuck
theorem zkI_lst  (l : List D) (s : Sto) : zkI (.ok (.d (.lst l), s)) = .ok (ws l, s) := rfl
theorem zkI_tup  (l : List D) (s : Sto) : zkI (.ok (.d (.tup l), s)) = .ok (ws l, s) := rfl
theorem zkI_inp  (l : List D) (s : Sto) : zkI (.ok (.d (.inp l), s)) = .ok (ws l, s) := rfl
theorem zkI_inq  (l : List D) (s : Sto) : zkI (.ok (.d (.inq l), s)) = .ok (ws l, s) := rfl
theorem zkI_tw  (l : List W) (s : Sto) : zkI (.ok (.tw l, s)) = .ok (l, s) := rfl
theorem zkI_st  : zkI .stuck = .stuck := rfl
theorem zkI_ex  (xc : Exc) (tc : Sto) : zkI (.ex xc tc) = .ex xc tc := rfl
theorem zkI_if  (cp : Prop) [Decidable cp] (ra rb : R (W × Sto)) : zkI (if cp then ra else rb) = if cp then zkI ra else zkI rb := by split <;> rfl
theorem iSeq_z (a : Ev) (e : Env) (s : Sto) : iSeq a e s = zkI (a e s) := rfl
noncomputable def zkI1  (rr : R (W × Sto)) : R (List W × Sto) := rr.bind fun p => match p.1 with | .d (.int i) => need (small62 i) (.ok (rng 0 i.toNat, p.2)) | _ => .stuck
theorem zkI1_ok  (i : Int) (s : Sto) : zkI1 (.ok (.d (.int i), s)) = need (small62 i) (.ok (rng 0 i.toNat, s)) := rfl
theorem zkI1_st  : zkI1 .stuck = .stuck := rfl
theorem zkI1_ex  (xc : Exc) (tc : Sto) : zkI1 (.ex xc tc) = .ex xc tc := rfl
theorem zkI1_if  (cp : Prop) [Decidable cp] (ra rb : R (W × Sto)) : zkI1 (if cp then ra else rb) = if cp then zkI1 ra else zkI1 rb := by split <;> rfl
theorem iR1_z (a : Ev) (e : Env) (s : Sto) : iR1 a e s = zkI1 (a e s) := rfl
noncomputable def zkI2b (x : W) (rr : R (W × Sto)) : R (List W × Sto) := rr.bind fun q => rng2 x q.1 q.2
theorem zkI2b_ok (x : W) (w : W) (s : Sto) : zkI2b x (.ok (w, s)) = rng2 x w s := rfl
theorem zkI2b_st (x : W) : zkI2b x .stuck = .stuck := rfl
theorem zkI2b_ex (x : W) (xc : Exc) (tc : Sto) : zkI2b x (.ex xc tc) = .ex xc tc := rfl
theorem zkI2b_if (x : W) (cp : Prop) [Decidable cp] (ra rb : R (W × Sto)) : zkI2b x (if cp then ra else rb) = if cp then zkI2b x ra else zkI2b x rb := by split <;> rfl
noncomputable def zkI2 (b : Ev) (e : Env) (rr : R (W × Sto)) : R (List W × Sto) := rr.bind fun p => zkI2b p.1 (b e p.2)
theorem zkI2_ok (b : Ev) (e : Env) (w : W) (s : Sto) : zkI2 b e (.ok (w, s)) = zkI2b w (b e s) := rfl
theorem zkI2_st (b : Ev) (e : Env) : zkI2 b e .stuck = .stuck := rfl
theorem zkI2_ex (b : Ev) (e : Env) (xc : Exc) (tc : Sto) : zkI2 b e (.ex xc tc) = .ex xc tc := rfl
theorem zkI2_if (b : Ev) (e : Env) (cp : Prop) [Decidable cp] (ra rb : R (W × Sto)) : zkI2 b e (if cp then ra else rb) = if cp then zkI2 b e ra else zkI2 b e rb := by split <;> rfl
theorem iR2_z (a b : Ev) (e : Env) (s : Sto) : iR2 a b e s = zkI2 b e (a e s) := rfl
noncomputable def zkIS  (rr : R (W × Sto)) : R (List W × Sto) := rr.bind fun p => match p.1 with | .d (.str z) => .ok (z.map (fun c => .d (.str [c])), p.2) | _ => .stuck
theorem zkIS_ok  (z : List Nat) (s : Sto) : zkIS (.ok (.d (.str z), s)) = .ok (z.map (fun c => .d (.str [c])), s) := rfl
theorem zkIS_st  : zkIS .stuck = .stuck := rfl
theorem zkIS_ex  (xc : Exc) (tc : Sto) : zkIS (.ex xc tc) = .ex xc tc := rfl
theorem zkIS_if  (cp : Prop) [Decidable cp] (ra rb : R (W × Sto)) : zkIS (if cp then ra else rb) = if cp then zkIS ra else zkIS rb := by split <;> rfl
theorem iStr_z (a : Ev) (e : Env) (s : Sto) : iStr a e s = zkIS (a e s) := rfl
noncomputable def zkP  (rr : R (W × Sto)) : R (Option Int × Sto) := rr.bind fun q => (asI q.1).bind fun i => .ok (i, q.2)
theorem zkP_ok  (i : Int) (s : Sto) : zkP (.ok (.d (.int i), s)) = .ok (some i, s) := rfl
theorem zkP_st  : zkP .stuck = .stuck := rfl
theorem zkP_ex  (xc : Exc) (tc : Sto) : zkP (.ex xc tc) = .ex xc tc := rfl
theorem zkP_if  (cp : Prop) [Decidable cp] (ra rb : R (W × Sto)) : zkP (if cp then ra else rb) = if cp then zkP ra else zkP rb := by split <;> rfl
theorem pt_z (b : Ev) (e : Env) (s : Sto) : pt (some b) e s = zkP (b e s) := rfl
noncomputable def zkSl3 (x : W) (lo : Option Int) (rr : R (Option Int × Sto)) : VS := rr.bind fun h => slice lo h.1 x h.2
theorem zkSl3_ok (x : W) (lo : Option Int) (h : Option Int) (s : Sto) : zkSl3 x lo (.ok (h, s)) = slice lo h x s := rfl
theorem zkSl3_st (x : W) (lo : Option Int) : zkSl3 x lo .stuck = .stuck := rfl
theorem zkSl3_ex (x : W) (lo : Option Int) (xc : Exc) (tc : Sto) : zkSl3 x lo (.ex xc tc) = .ex xc tc := rfl
theorem zkSl3_if (x : W) (lo : Option Int) (cp : Prop) [Decidable cp] (ra rb : R (Option Int × Sto)) : zkSl3 x lo (if cp then ra else rb) = if cp then zkSl3 x lo ra else zkSl3 x lo rb := by split <;> rfl
noncomputable def zkSl2 (hi : Option Ev) (e : Env) (x : W) (rr : R (Option Int × Sto)) : VS := rr.bind fun l => zkSl3 x l.1 (pt hi e l.2)
theorem zkSl2_ok (hi : Option Ev) (e : Env) (x : W) (l : Option Int) (s : Sto) : zkSl2 hi e x (.ok (l, s)) = zkSl3 x l (pt hi e s) := rfl
theorem zkSl2_st (hi : Option Ev) (e : Env) (x : W) : zkSl2 hi e x .stuck = .stuck := rfl
theorem zkSl2_ex (hi : Option Ev) (e : Env) (x : W) (xc : Exc) (tc : Sto) : zkSl2 hi e x (.ex xc tc) = .ex xc tc := rfl
theorem zkSl2_if (hi : Option Ev) (e : Env) (x : W) (cp : Prop) [Decidable cp] (ra rb : R (Option Int × Sto)) : zkSl2 hi e x (if cp then ra else rb) = if cp then zkSl2 hi e x ra else zkSl2 hi e x rb := by split <;> rfl
noncomputable def zkSl (lo hi : Option Ev) (e : Env) (rr : R (W × Sto)) : VS := rr.bind fun p => zkSl2 hi e p.1 (pt lo e p.2)
theorem zkSl_ok (lo hi : Option Ev) (e : Env) (w : W) (s : Sto) : zkSl lo hi e (.ok (w, s)) = zkSl2 hi e w (pt lo e s) := rfl
theorem zkSl_st (lo hi : Option Ev) (e : Env) : zkSl lo hi e .stuck = .stuck := rfl
theorem zkSl_ex (lo hi : Option Ev) (e : Env) (xc : Exc) (tc : Sto) : zkSl lo hi e (.ex xc tc) = .ex xc tc := rfl
theorem zkSl_if (lo hi : Option Ev) (e : Env) (cp : Prop) [Decidable cp] (ra rb : R (W × Sto)) : zkSl lo hi e (if cp then ra else rb) = if cp then zkSl lo hi e ra else zkSl lo hi e rb := by split <;> rfl
theorem eSl_z (a : Ev) (lo hi : Option Ev) (e : Env) (s : Sto) : eSl a lo hi e s = zkSl lo hi e (a e s) := rfl
noncomputable def zkCd (r : R (List W × Sto)) : VS := r.bind fun q => (ofO (asDs q.1)).bind fun l => .ok (.d (.lst l), q.2)
theorem zkCd_ok (l : List D) (s : Sto) : zkCd (.ok (ws l, s)) = .ok (.d (.lst l), s) := by unfold zkCd; rw [R.bind_ok]; show (ofO (asDs (ws l))).bind _ = _; rw [asDs_ws']; rfl
theorem zkCd_nil (s : Sto) : zkCd (.ok ([], s)) = .ok (.d (.lst []), s) := rfl
noncomputable def zkCn (r : R (List W × Sto)) : VS := r.bind fun q => newL q.1 q.2
theorem zkCn_ok (l : List W) (s : Sto) : zkCn (.ok (l, s)) = newL l s := rfl
noncomputable def zkCo (g : Tg) (t : Tx) (a : Ev) (own : List Nat) (e : Env) (rr : R (List W × Sto)) : VS := rr.bind fun p => need (decide (p.1.length ≤ sizeL)) (zkCd (comp g t a own e p.1 p.2))
theorem zkCo_ok (g : Tg) (t : Tx) (a : Ev) (own : List Nat) (e : Env) (l : List W) (s : Sto) : zkCo g t a own e (.ok (l, s)) = need (decide (l.length ≤ sizeL)) (zkCd (comp g t a own e l s)) := rfl
theorem zkCo_st (g : Tg) (t : Tx) (a : Ev) (own : List Nat) (e : Env) : zkCo g t a own e .stuck = .stuck := rfl
theorem zkCo_ex (g : Tg) (t : Tx) (a : Ev) (own : List Nat) (e : Env) (xc : Exc) (tc : Sto) : zkCo g t a own e (.ex xc tc) = .ex xc tc := rfl
theorem zkCo_if (g : Tg) (t : Tx) (a : Ev) (own : List Nat) (e : Env) (cp : Prop) [Decidable cp] (ra rb : R (List W × Sto)) : zkCo g t a own e (if cp then ra else rb) = if cp then zkCo g t a own e ra else zkCo g t a own e rb := by split <;> rfl
theorem eComp_z (i : Wk) (g : Tg) (t : Tx) (a : Ev) (own : List Nat) (e : Env) (s : Sto) : eComp i g t a own e s = zkCo g t a own e (i e s) := rfl
noncomputable def zkCoC (g : Tg) (t : Tx) (a : Ev) (own : List Nat) (e : Env) (rr : R (List W × Sto)) : VS := rr.bind fun p => need (decide (p.1.length ≤ sizeL)) (zkCn (comp g t a own e p.1 p.2))
theorem zkCoC_ok (g : Tg) (t : Tx) (a : Ev) (own : List Nat) (e : Env) (l : List W) (s : Sto) : zkCoC g t a own e (.ok (l, s)) = need (decide (l.length ≤ sizeL)) (zkCn (comp g t a own e l s)) := rfl
theorem zkCoC_st (g : Tg) (t : Tx) (a : Ev) (own : List Nat) (e : Env) : zkCoC g t a own e .stuck = .stuck := rfl
theorem zkCoC_ex (g : Tg) (t : Tx) (a : Ev) (own : List Nat) (e : Env) (xc : Exc) (tc : Sto) : zkCoC g t a own e (.ex xc tc) = .ex xc tc := rfl
theorem zkCoC_if (g : Tg) (t : Tx) (a : Ev) (own : List Nat) (e : Env) (cp : Prop) [Decidable cp] (ra rb : R (List W × Sto)) : zkCoC g t a own e (if cp then ra else rb) = if cp then zkCoC g t a own e ra else zkCoC g t a own e rb := by split <;> rfl
theorem eCompC_z (i : Wk) (g : Tg) (t : Tx) (a : Ev) (own : List Nat) (e : Env) (s : Sto) : eCompC i g t a own e s = zkCoC g t a own e (i e s) := rfl
noncomputable def zkSb3 (e : Env) (r : R Sto) : R (Env × Sto) := qt (r.bind fun s' => .ok (e, s'))
theorem zkSb3_ok (e : Env) (s : Sto) : zkSb3 e (.ok s) = .ok (e, s) := rfl
noncomputable def zkSb2 (e : Env) (v o : W) (r : VS) : R (Env × Sto) := qt (r.bind fun q => (setAny o q.1 v q.2).bind fun s' => .ok (e, s'))
theorem zkSb2_ok (e : Env) (v o w : W) (s : Sto) : zkSb2 e v o (.ok (w, s)) = zkSb3 e (setAny o w v s) := rfl
noncomputable def zkSb1 (i : Ev) (e : Env) (v : W) (r : VS) : R (Env × Sto) := qt (r.bind fun p => (i e p.2).bind fun q => (setAny p.1 q.1 v q.2).bind fun s' => .ok (e, s'))
theorem zkSb1_ok (i : Ev) (e : Env) (v w : W) (s : Sto) : zkSb1 i e v (.ok (w, s)) = zkSb2 e v w (i e s) := rfl
theorem gSb_z (o i : Ev) (v : W) (e : Env) (s : Sto) : gSb o i v e s = zkSb1 i e v (o e s) := rfl
noncomputable def zkFW (g : Tg) (b : Sx) (e : Env) (rr : R (List W × Wt × Sto)) : R O := rr.bd e fun p => loopW p.2.1 g b p.1 e p.2.2
theorem zkFW_ok (g : Tg) (b : Sx) (e : Env) (l : List W) (u : Wt) (s : Sto) : zkFW g b e (.ok (l, u, s)) = loopW u g b l e s := rfl
theorem zkFW_st (g : Tg) (b : Sx) (e : Env) : zkFW g b e .stuck = .stuck := rfl
theorem zkFW_ex (g : Tg) (b : Sx) (e : Env) (xc : Exc) (tc : Sto) : zkFW g b e (.ex xc tc) = .ok (.xx xc e tc) := rfl
theorem zkFW_if (g : Tg) (b : Sx) (e : Env) (cp : Prop) [Decidable cp] (ra rb : R (List W × Wt × Sto)) : zkFW g b e (if cp then ra else rb) = if cp then zkFW g b e ra else zkFW g b e rb := by split <;> rfl
theorem sForW_z (i : WkW) (g : Tg) (b : Sx) (e : Env) (s : Sto) : sForW i g b e s = zkFW g b e (i e s) := rfl
noncomputable def zkCoW (g : Tg) (t : Tx) (a : Ev) (own : List Nat) (e : Env) (rr : R (List W × Wt × Sto)) : VS := rr.bind fun p => need (decide (p.1.length ≤ sizeL)) (zkCd (compW p.2.1 g t a own e p.1 p.2.2))
theorem zkCoW_ok (g : Tg) (t : Tx) (a : Ev) (own : List Nat) (e : Env) (l : List W) (u : Wt) (s : Sto) : zkCoW g t a own e (.ok (l, u, s)) = need (decide (l.length ≤ sizeL)) (zkCd (compW u g t a own e l s)) := rfl
theorem zkCoW_st (g : Tg) (t : Tx) (a : Ev) (own : List Nat) (e : Env) : zkCoW g t a own e .stuck = .stuck := rfl
theorem zkCoW_ex (g : Tg) (t : Tx) (a : Ev) (own : List Nat) (e : Env) (xc : Exc) (tc : Sto) : zkCoW g t a own e (.ex xc tc) = .ex xc tc := rfl
theorem zkCoW_if (g : Tg) (t : Tx) (a : Ev) (own : List Nat) (e : Env) (cp : Prop) [Decidable cp] (ra rb : R (List W × Wt × Sto)) : zkCoW g t a own e (if cp then ra else rb) = if cp then zkCoW g t a own e ra else zkCoW g t a own e rb := by split <;> rfl
theorem eCompW_z (i : WkW) (g : Tg) (t : Tx) (a : Ev) (own : List Nat) (e : Env) (s : Sto) : eCompW i g t a own e s = zkCoW g t a own e (i e s) := rfl
noncomputable def zkEn (r : VS) : R (List W × Wt × Sto) := r.bind fun p => (seqK p.1 p.2).bind fun q => .ok (enW 0 q.2.1, q.2.2, p.2)
theorem zkEn_ok (w : W) (s : Sto) : zkEn (.ok (w, s)) = (seqK w s).bind fun q => .ok (enW 0 q.2.1, q.2.2, s) := rfl
theorem iEn_z (a : Ev) (e : Env) (s : Sto) : iEn a e s = zkEn (a e s) := rfl
noncomputable def zkZ2 (x : W) (r : VS) : R (List W × Wt × Sto) := r.bind fun q => (seqK x q.2).bind fun x => (seqK q.1 q.2).bind fun y => zpK x y q.2
theorem zkZ2_ok (x w : W) (s : Sto) : zkZ2 x (.ok (w, s)) = (seqK x s).bind fun x => (seqK w s).bind fun y => zpK x y s := rfl
noncomputable def zkZ1 (b : Ev) (e : Env) (r : VS) : R (List W × Wt × Sto) := r.bind fun p => zkZ2 p.1 (b e p.2)
theorem zkZ1_ok (b : Ev) (e : Env) (w : W) (s : Sto) : zkZ1 b e (.ok (w, s)) = zkZ2 w (b e s) := rfl
theorem iZp_z (a b : Ev) (e : Env) (s : Sto) : iZp a b e s = zkZ1 b e (a e s) := rfl
noncomputable def zkRv (r : VS) : R (List W × Wt × Sto) := r.bind fun p => (seqK p.1 p.2).bind fun q => .ok (q.2.1.reverse, q.2.2, p.2)
theorem zkRv_ok (w : W) (s : Sto) : zkRv (.ok (w, s)) = (seqK w s).bind fun q => .ok (q.2.1.reverse, q.2.2, s) := rfl
theorem iRv_z (a : Ev) (e : Env) (s : Sto) : iRv a e s = zkRv (a e s) := rfl
def ez0 := (And.intro @zk1_ok (And.intro @zk1_st (And.intro @zk1_ex (And.intro @zk1_if (And.intro @e1_z (And.intro @zk2b_ok (And.intro @zk2b_st (And.intro @zk2b_ex (And.intro @zk2b_if (And.intro @zk2_ok (And.intro @zk2_st (And.intro @zk2_ex (And.intro @zk2_if (And.intro @e2_z (And.intro @zkA2_ok (And.intro @zkA2_st (And.intro @zkA2_ex (And.intro @zkA2_if (And.intro @zkA_ok (And.intro @zkA_st (And.intro @zkA_ex (And.intro @zkA_if (And.intro @eAs_z (And.intro @zkN_ok (And.intro @zkN_st (And.intro @zkN_ex (And.intro @zkN_if (And.intro @eN_z (And.intro @zkD_ok (And.intro @zkD_st (And.intro @zkD_ex (And.intro @zkD_if (And.intro @d1_z (And.intro @d2_z (And.intro @zkD1_ok (And.intro @zkD1_st (And.intro @zkD1_ex (And.intro @zkD1_if (And.intro @zkDl_ok (And.intro @zkDl_st True.intro))))))))))))))))))))))))))))))))))))))))
def ez1 := (And.intro @zkDl_ex (And.intro @zkDl_if (And.intro @zkDr_ok (And.intro @zkDr_st (And.intro @zkDr_ex (And.intro @zkDr_if (And.intro @zkDb_ok (And.intro @zkDb_st (And.intro @zkDb_ex (And.intro @zkDb_if (And.intro @d1_lz (And.intro @d2_dlz (And.intro @d2_ldz (And.intro @d2_llz (And.intro @zkT_ok (And.intro @zkT_st (And.intro @zkT_ex (And.intro @zkT_if (And.intro @tB_z (And.intro @zkAnd_t (And.intro @zkAnd_f (And.intro @zkAnd_d (And.intro @zkAnd_n (And.intro @zkAnd_st (And.intro @zkAnd_if (And.intro @zkOr_t (And.intro @zkOr_f (And.intro @zkOr_d (And.intro @zkOr_n (And.intro @zkOr_st (And.intro @zkOr_if (And.intro @zkNo_ok (And.intro @zkNo_st (And.intro @zkNo_ex (And.intro @zkNo_if (And.intro @tAnd_z (And.intro @tOr_z (And.intro @tNot_z (And.intro @zkEA_t (And.intro @zkEA_f True.intro))))))))))))))))))))))))))))))))))))))))
def ez2 := (And.intro @zkEA_d (And.intro @zkEA_n (And.intro @zkEA_st (And.intro @zkEA_if (And.intro @zkEO_t (And.intro @zkEO_f (And.intro @zkEO_d (And.intro @zkEO_n (And.intro @zkEO_st (And.intro @zkEO_if (And.intro @zkEN_ok (And.intro @zkEN_st (And.intro @zkEN_ex (And.intro @zkEN_if (And.intro @eAnd_z (And.intro @eOr_z (And.intro @eNot_z (And.intro @zkEI_t (And.intro @zkEI_f (And.intro @zkEI_d (And.intro @zkEI_n (And.intro @zkEI_st (And.intro @zkEI_if (And.intro @eIf_z (And.intro @zkC2_t (And.intro @zkC2_f (And.intro @zkC2_d (And.intro @zkC2_n (And.intro @zkC2_st (And.intro @zkC2_if (And.intro @zkC1_ok (And.intro @zkC1_st (And.intro @zkC1_ex (And.intro @zkC1_if (And.intro @zkC0_ok (And.intro @zkC0_st (And.intro @zkC0_ex (And.intro @zkC0_if (And.intro @eCh_z (And.intro @zkS_nx True.intro))))))))))))))))))))))))))))))))))))))))
def ez3 := (And.intro @zkS_rt (And.intro @zkS_bk (And.intro @zkS_ct (And.intro @zkS_xx (And.intro @zkS_st (And.intro @zkS_ex (And.intro @zkS_if (And.intro @sSeq_z (And.intro @zkGa_ok (And.intro @zkGa_st (And.intro @zkGa_ex (And.intro @zkGa_if (And.intro @zkG_ok (And.intro @zkG_st (And.intro @zkG_ex (And.intro @zkG_if (And.intro @sAsg_z (And.intro @zkX_ok (And.intro @zkX_st (And.intro @zkX_ex (And.intro @zkX_if (And.intro @sX_z (And.intro @zkR_ok (And.intro @zkR_st (And.intro @zkR_ex (And.intro @zkR_if (And.intro @sRet_z (And.intro @zkSI_t (And.intro @zkSI_f (And.intro @zkSI_d (And.intro @zkSI_n (And.intro @zkSI_st (And.intro @zkSI_if (And.intro @sIf_z (And.intro @zkK_nx (And.intro @zkK_rt (And.intro @zkK_bk (And.intro @zkK_ct (And.intro @zkK_xx (And.intro @zkK_st True.intro))))))))))))))))))))))))))))))))))))))))
def ez4 := (And.intro @zkK_ex (And.intro @zkK_if (And.intro @sKill_z (And.intro @zkF_ok (And.intro @zkF_st (And.intro @zkF_ex (And.intro @zkF_if (And.intro @sFor_z (And.intro @zkLs_ok (And.intro @zkLs_st (And.intro @zkLs_ex (And.intro @zkLs_if (And.intro @lstep_z (And.intro @zkL_nx (And.intro @zkL_rt (And.intro @zkL_bk (And.intro @zkL_ct (And.intro @zkL_xx (And.intro @zkL_st (And.intro @zkL_ex (And.intro @zkL_if (And.intro @zkW2_nx (And.intro @zkW2_rt (And.intro @zkW2_bk (And.intro @zkW2_ct (And.intro @zkW2_xx (And.intro @zkW2_st (And.intro @zkW2_ex (And.intro @zkW2_if (And.intro @zkW_t (And.intro @zkW_f (And.intro @zkW_d (And.intro @zkW_n (And.intro @zkW_st (And.intro @zkW_if (And.intro @zkGs_ok (And.intro @zkGs_st (And.intro @zkGs_ex (And.intro @zkGs_if (And.intro @gTs_z True.intro))))))))))))))))))))))))))))))))))))))))
def ez5 := (And.intro @zkNd_t (And.intro @zkM0_ok (And.intro @zkM0_st (And.intro @zkM0_ex (And.intro @zkM0_if (And.intro @m0_z (And.intro @zkNd1_t (And.intro @zkM1_ok (And.intro @zkM1_st (And.intro @zkM1_ex (And.intro @zkM1_if (And.intro @m1_z (And.intro @zk3c_ok (And.intro @zk3c_st (And.intro @zk3c_ex (And.intro @zk3c_if (And.intro @zk3b_ok (And.intro @zk3b_st (And.intro @zk3b_ex (And.intro @zk3b_if (And.intro @zkNd2_t (And.intro @zkM2_ok (And.intro @zkM2_st (And.intro @zkM2_ex (And.intro @zkM2_if (And.intro @m2_z (And.intro @zkI_lst (And.intro @zkI_tup (And.intro @zkI_inp (And.intro @zkI_inq (And.intro @zkI_tw (And.intro @zkI_st (And.intro @zkI_ex (And.intro @zkI_if (And.intro @iSeq_z (And.intro @zkI1_ok (And.intro @zkI1_st (And.intro @zkI1_ex (And.intro @zkI1_if (And.intro @iR1_z True.intro))))))))))))))))))))))))))))))))))))))))
def ez6 := (And.intro @zkI2b_ok (And.intro @zkI2b_st (And.intro @zkI2b_ex (And.intro @zkI2b_if (And.intro @zkI2_ok (And.intro @zkI2_st (And.intro @zkI2_ex (And.intro @zkI2_if (And.intro @iR2_z (And.intro @zkIS_ok (And.intro @zkIS_st (And.intro @zkIS_ex (And.intro @zkIS_if (And.intro @iStr_z (And.intro @zkP_ok (And.intro @zkP_st (And.intro @zkP_ex (And.intro @zkP_if (And.intro @pt_z (And.intro @zkSl3_ok (And.intro @zkSl3_st (And.intro @zkSl3_ex (And.intro @zkSl3_if (And.intro @zkSl2_ok (And.intro @zkSl2_st (And.intro @zkSl2_ex (And.intro @zkSl2_if (And.intro @zkSl_ok (And.intro @zkSl_st (And.intro @zkSl_ex (And.intro @zkSl_if (And.intro @eSl_z (And.intro @zkCd_ok (And.intro @zkCd_nil (And.intro @zkCn_ok (And.intro @zkCo_ok (And.intro @zkCo_st (And.intro @zkCo_ex (And.intro @zkCo_if (And.intro @eComp_z True.intro))))))))))))))))))))))))))))))))))))))))
def ez7 := (And.intro @zkCoC_ok (And.intro @zkCoC_st (And.intro @zkCoC_ex (And.intro @zkCoC_if (And.intro @eCompC_z (And.intro @zkSb3_ok (And.intro @zkSb2_ok (And.intro @zkSb1_ok (And.intro @gSb_z (And.intro @zkFW_ok (And.intro @zkFW_st (And.intro @zkFW_ex (And.intro @zkFW_if (And.intro @sForW_z (And.intro @zkCoW_ok (And.intro @zkCoW_st (And.intro @zkCoW_ex (And.intro @zkCoW_if (And.intro @eCompW_z (And.intro @zkEn_ok (And.intro @iEn_z (And.intro @zkZ2_ok (And.intro @zkZ1_ok (And.intro @iZp_z (And.intro @zkRv_ok (And.intro @iRv_z True.intro))))))))))))))))))))))))))
def ek0 := (And.intro @eV_ap (And.intro @eK_ap (And.intro @eAs_nil (And.intro @tYes_ap (And.intro @sSkip_ap (And.intro @sRetN_ap (And.intro @sBrk_ap (And.intro @sCnt_ap (And.intro @kill_nil (And.intro @kill_cons (And.intro @loop_nil (And.intro @gN_ap (And.intro @gT_tup (And.intro @gT_tw (And.intro @gTs_nil (And.intro @ws_nil (And.intro @ws_cons (And.intro @asDs_nil (And.intro @asDs_d (And.intro @asDs_loc (And.intro @asDs_tw (And.intro @oAdd_i (And.intro @oSub_i (And.intro @oAddI_i (And.intro @oNeg_i (And.intro @cLt_i (And.intro @cLe_i (And.intro @cGt_i (And.intro @cGe_i (And.intro @cEq_i (And.intro @cNe_i (And.intro @cEq_s (And.intro @cNe_s (And.intro @cIsN_d (And.intro @cNotN_d (And.intro @isN_int (And.intro @isN_str (And.intro @isN_tup (And.intro @isN_non (And.intro @fTup0 True.intro))))))))))))))))))))))))))))))))))))))))
def ek1 := (And.intro @fTup1 (And.intro @fTup2 (And.intro @fTup3 (And.intro @fTup4 (And.intro @fLst0 (And.intro @fLst1 (And.intro @fLst2 (And.intro @fLst3 (And.intro @fLst4 (And.intro @fLst5 (And.intro @fLst6 (And.intro @fLstC0 (And.intro @fLstC1 (And.intro @eDct_ap (And.intro @bLen_lst (And.intro @bLen_tup (And.intro @bLen_inp (And.intro @bTup_lst (And.intro @bTup_tup (And.intro @bLst_tup (And.intro @bLst_lst (And.intro @bLstC_tup (And.intro @bLstC_lst (And.intro @bMin2_i (And.intro @bMax2_i (And.intro @bInt_b (And.intro @bInt_i (And.intro @bStr_s (And.intro @bSum_i (And.intro @bAny_b (And.intro @bSortI_l (And.intro @bSortI_t (And.intro @seqW_tup (And.intro @seqW_lst (And.intro @pt_none (And.intro @asI_i (And.intro @comp_nil (And.intro @qt_ok' (And.intro @qt_stuck' (And.intro @outOf_rt True.intro))))))))))))))))))))))))))))))))))))))))
def ek2 := (And.intro @outOf_nx (And.intro @outOf_xx (And.intro @R.bind_ok (And.intro @R.bind_stuck (And.intro @R.bind_ex (And.intro @R.bd_ok (And.intro @R.bd_stuck (And.intro @R.bd_ex (And.intro @need_true (And.intro @ofO_some (And.intro @tk_map (And.intro @dp_map (And.intro @asDs_ws' (And.intro @watch_nil' (And.intro @watch_cons (And.intro @eCompWC_ap (And.intro @seqK_l (And.intro @seqK_p (And.intro @seqK_t (And.intro @seqK_q (And.intro @seqK_w (And.intro @seqK_c (And.intro @zpK_l (And.intro @zpK_t (And.intro @enW_ws (And.intro @zpW_ws (And.intro @rev_ws (And.intro @slice_l (And.intro @slice_lc (And.intro @slice_t (And.intro @slice_p (And.intro @slice_s (And.intro @cut_map (And.intro @cut_ws (And.intro @isS_s (And.intro @newL_d (And.intro @bTupQ_l (And.intro @bSplit_s (And.intro @loopW_nil (And.intro @compW_nil True.intro))))))))))))))))))))))))))))))))))))))))
def ek3 := (And.intro @dat_lc (And.intro @dat_dd (And.intro @isL_lc (And.intro @lws (And.intro @lAppend_lc (And.intro @lPop_lc (And.intro @lReverse_lc (And.intro @bLen_lc (And.intro @lstOf_lc (And.intro @bTup_lc (And.intro @tupW_ws0 (And.intro @bLst_lc (And.intro @mkC_ws0 (And.intro @lExtend_lc (And.intro @seqW_lc (And.intro @oIx_l (And.intro @oIx_t (And.intro @oIx_p (And.intro @oIx_q (And.intro @oIx_m (And.intro @oIx_lc (And.intro @ixM_d (And.intro @setAny_lc (And.intro @ws_app (And.intro @ixW0 (And.intro @ixW1 (And.intro @ixW2 (And.intro @ixW3 (And.intro @oIx_tw True.intro)))))))))))))))))))))))))))))
end B
/-! While loops by a measure; loops that may return. -/
namespace B
end B
/-! Dicts, by what they tell. -/
namespace B
structure KeyE {κ : Type} [DecidableEq κ] (en : κ → D) (t : Bool) : Prop where
  eq : ∀ a b, eqv (en a) (en b) = decide (a = b)
  ok : ∀ a, keyOk t (en a) = true
abbrev kS (z : List Nat) : D := .str z
abbrev kSS (p : List Nat × List Nat) : D := .tup [.str p.1, .str p.2]
abbrev kSI (p : List Nat × Int) : D := .tup [.str p.1, .int p.2]
theorem keyS : KeyE kS false := ⟨eqv_str, fun _ => rfl⟩
theorem keySI : KeyE kSI true := ⟨fun a b => by
  show (eqv (.str a.1) (.str b.1) && (eqv (.int a.2) (.int b.2) && true)) = _
  rw [eqv_str, eqv_int]
  obtain ⟨a1, a2⟩ := a
  obtain ⟨b1, b2⟩ := b
  by_cases h : a1 = b1 <;> by_cases h2 : a2 = b2 <;> simp [h, h2], fun _ => rfl⟩
section
variable {κ υ : Type} [DecidableEq κ]
def dctE (en : κ → D) (ev : υ → D) (L : List (κ × υ)) : List (D × D) := L.map fun p => (en p.1, ev p.2)
def dPut (L : List (κ × υ)) (k : κ) (v : υ) : List (κ × υ) := if k ∈ L.map (·.1) then L.map (fun p => if p.1 = k then (p.1, v) else p) else L ++ [(k, v)]
def dGet (L : List (κ × υ)) (k : κ) : Option υ := (L.find? fun p => decide (p.1 = k)).map (·.2)
variable {en : κ → D} {t : Bool} {ev : υ → D}
theorem any_dct (h : KeyE en t) (L : List (κ × υ)) (k : κ) : ((dctE en ev L).any fun p => eqv p.1 (en k)) = decide (k ∈ L.map (·.1)) := by
  induction L with
  | nil => rfl
  | cons p L ih =>
    show (eqv (en p.1) (en k) || ((dctE en ev L).any fun p => eqv p.1 (en k))) = _
    rw [ih, h.eq, List.map_cons]
    by_cases c : p.1 = k
    · simp [c]
    · simp [c, Ne.symm c]
theorem putD_E (h : KeyE en t) (L : List (κ × υ)) (k : κ) (v : υ) : putD (dctE en ev L) (en k) (ev v) = dctE en ev (dPut L k v) := by
  unfold putD dPut
  rw [any_dct h]
  by_cases c : k ∈ L.map (·.1)
  · rw [if_pos (decide_eq_true c), if_pos c]
    unfold dctE
    rw [List.map_map, List.map_map]
    apply List.map_congr_left
    intro p _
    simp only [Function.comp, h.eq]
    by_cases e : p.1 = k <;> simp [e]
  · rw [if_neg (by simpa using c), if_neg c]
    simp [dctE]
theorem lookD_E (h : KeyE en t) (L : List (κ × υ)) (k : κ) : lookD (dctE en ev L) (en k) = (dGet L k).map ev := by
  induction L with
  | nil => rfl
  | cons p L ih =>
    unfold lookD dGet at ih ⊢
    show Option.map _ (List.find? _ ((en p.1, ev p.2) :: dctE en ev L)) = _
    rw [List.find?_cons, List.find?_cons]
    simp only [h.eq]
    by_cases c : p.1 = k
    · simp [c]
    · simp only [c, decide_false]
      simpa using ih
theorem dGet_nil (k : κ) : dGet ([] : List (κ × υ)) k = none := rfl
theorem dGet_cons (p : κ × υ) (L : List (κ × υ)) (k : κ) : dGet (p :: L) k = if p.1 = k then some p.2 else dGet L k := by
  unfold dGet
  rw [List.find?_cons]
  by_cases c : p.1 = k <;> simp [c]
theorem dGet_app (L M : List (κ × υ)) (k : κ) : dGet (L ++ M) k = (dGet L k).or (dGet M k) := by
  induction L with
  | nil => rfl
  | cons p L ih =>
    rw [List.cons_append, dGet_cons, dGet_cons, ih]
    by_cases c : p.1 = k <;> simp [c]
theorem dGet_none {L : List (κ × υ)} {k : κ} : dGet L k = none ↔ k ∉ L.map (·.1) := by
  induction L with
  | nil => simp [dGet_nil]
  | cons p L ih =>
    rw [dGet_cons, List.map_cons, List.mem_cons]
    by_cases c : p.1 = k
    · simp [c]
    · simp [c, Ne.symm c, ih]
theorem dGet_put (L : List (κ × υ)) (k : κ) (v : υ) (j : κ) : dGet (dPut L k v) j = if j = k then some v else dGet L j := by
  unfold dPut
  by_cases c : k ∈ L.map (·.1)
  · rw [if_pos c]
    have key : ∀ M : List (κ × υ), dGet (M.map fun p => if p.1 = k then (p.1, v) else p) j = if j = k then (if k ∈ M.map (·.1) then some v else none) else dGet M j := by
      intro M
      induction M with
      | nil => simp [dGet_nil]
      | cons p M ih =>
        rw [List.map_cons, dGet_cons, ih, dGet_cons, List.map_cons]
        by_cases e : p.1 = k
        · by_cases e2 : j = k
          · subst e2; simp [e]
          · have : ¬ k = j := fun q => e2 q.symm
            simp [e, e2, this]
        · by_cases e2 : j = k
          · subst e2
            have e3 : ¬ j = p.1 := fun q => e q.symm
            simp only [if_neg e, if_pos, List.mem_cons, e3, false_or]
          · simp [e, e2]
    rw [key, if_pos c]
  · rw [if_neg c, dGet_app]
    by_cases e : j = k
    · subst e
      rw [dGet_none.mpr c, dGet_cons]; simp
    · rw [dGet_cons]
      have : ¬ k = j := fun q => e q.symm
      simp [e, this, dGet_nil]
theorem dPut_keys (L : List (κ × υ)) (k : κ) (v : υ) : (dPut L k v).map (·.1) = if k ∈ L.map (·.1) then L.map (·.1) else L.map (·.1) ++ [k] := by
  unfold dPut
  by_cases c : k ∈ L.map (·.1)
  · rw [if_pos c, if_pos c, List.map_map]
    apply List.map_congr_left
    intro p _
    simp only [Function.comp]
    split <;> rfl
  · rw [if_neg c, if_neg c]; simp
theorem dPut_len (L : List (κ × υ)) (k : κ) (v : υ) : (dPut L k v).length ≤ L.length + 1 := by
  have := congrArg List.length (dPut_keys L k v)
  rw [List.length_map] at this
  rw [this]
  split <;> simp
theorem dctE_len (L : List (κ × υ)) : (dctE en ev L).length = L.length := by simp [dctE]
theorem cNin_E (h : KeyE en t) (L : List (κ × υ)) (k : κ) : cNin (en k) (.dct t (dctE en ev L)) = .ok (.bl (!(dGet L k).isSome)) := by
  rw [cNin_dct _ _ _ (h.ok k), lookD_E h, Option.isSome_map]
theorem ixM_E (h : KeyE en t) {L : List (κ × υ)} {k : κ} {v : υ} (e : dGet L k = some v) (s : Sto) : ixM t (dctE en ev L) (.d (en k)) s = .ok (.d (ev v), s) := by
  rw [ixM_d, h.ok, need_true, lookD_E h, e]; rfl
theorem setM_E (h : KeyE en t) {a : Nat} {L : List (κ × υ)} {s : Sto} (e : s[a]? = some (.m t (dctE en ev L))) (hl : L.length < 16777216) (k : κ) (v : υ) : setAny (.loc a) (.d (en k)) (.d (ev v)) s = .ok (s.set a (.m t (dctE en ev (dPut L k v)))) := by
  rw [setAny_lc]
  simp only [e]
  have hl2 : L.length < sizeL := hl
  rw [need_of (by rw [h.ok, dctE_len, decide_eq_true hl2]; rfl), putD_E h]
end
end B
/-! Rules for zip of any kinds, find, index, startswith, >>, max of three. -/
namespace B
noncomputable def zkY2 (x : W) (r : VS) : R (List W × Wt × Sto) := r.bind fun q => (seqK x q.2).bind fun x => (seqK q.1 q.2).bind fun y => zpM x y q.2
theorem zkY2_ok (x w : W) (s : Sto) : zkY2 x (.ok (w, s)) = (seqK x s).bind fun x => (seqK w s).bind fun y => zpM x y s := rfl
noncomputable def zkY1 (b : Ev) (e : Env) (r : VS) : R (List W × Wt × Sto) := r.bind fun p => zkY2 p.1 (b e p.2)
theorem zkY1_ok (b : Ev) (e : Env) (w : W) (s : Sto) : zkY1 b e (.ok (w, s)) = zkY2 w (b e s) := rfl
theorem iZm_z (a b : Ev) (e : Env) (s : Sto) : iZm a b e s = zkY1 b e (a e s) := rfl
theorem zpM_k (j k : Kd) (a b : List W) (u v : Wt) (s : Sto) : zpM (j, a, u) (k, b, v) s = .ok (zpW a b, u ++ v, s) := rfl
theorem bFind_s (z : List Nat) (c : Nat) : bFind (.str z) (.str [c]) = .ok (.int (match findC c z with | some i => (i : Int) | none => -1)) := rfl
theorem bStarts_s (x y : List Nat) : bStarts (.str x) (.str y) = .ok (.bl (decide (0 + y.length ≤ x.length) && ((x.drop 0).take y.length == y))) := rfl
theorem bMax3_i (i j k : Int) : bMax3 (.int i) (.int j) (.int k) = .ok (.int (if k > (if j > i then j else i) then k else (if j > i then j else i))) := rfl
theorem e3_z (f : W → W → W → Sto → VS) (a b c : Ev) (e : Env) (s : Sto) : e3 f a b c e s = (a e s).bind fun p => zk3b f p.1 c e (b e p.2) := rfl
theorem d3_z (f : D → D → D → R D) (x y w : D) (s : Sto) : d3 f (.d x) (.d y) (.d w) s = zkD s (f x y w) := rfl
def ek4 := And.intro @zkY2_ok (And.intro @zkY1_ok (And.intro @iZm_z (And.intro @zpM_k (And.intro @bFind_s (And.intro @bStarts_s (And.intro @bMax3_i (And.intro @e3_z (And.intro @d3_z True.intro))))))))
end B
/-! Rules for unpacking a list. -/
namespace B
end B
/-! The rules of the largest and the smallest. -/
namespace B
open PySem
end B
namespace B
section
variable {α : Type} {g : Tg} {b : Sx}
end
end B
/-! raise and try, run. -/
namespace B
section
variable (i : Option Nat) (tbl : List Bool) (h : Exc → Sx) (x : Exc) (e : Env) (s : Sto) (w : W)
end
end B
/-! Objects, run. -/
namespace B
def zkFl2 (f : List Nat) (s : Sto) (r : R (Nat × List (List Nat × W))) : VS := r.bind fun q => fldW f q.2 s
theorem zkFl2_ok (f : List Nat) (s : Sto) (k : Nat) (fs : List (List Nat × W)) : zkFl2 f s (.ok (k, fs)) = fldW f fs s := rfl
def zkFl (c : Nat) (f : List Nat) (r : VS) : VS := r.bind fun p => zkFl2 f p.2 (objO c p.1 p.2)
theorem zkFl_ok (c : Nat) (f : List Nat) (w : W) (s : Sto) : zkFl c f (.ok (w, s)) = zkFl2 f s (objO c w s) := rfl
theorem eFld_z (c : Nat) (f : List Nat) (a : Ev) (e : Env) (s : Sto) : eFld c f a e s = zkFl c f (a e s) := rfl
def zkFS3 (c : Nat) (f : List Nat) (x : W) (e : Env) (s : Sto) (r : R (Nat × List (List Nat × W))) : R O := r.bd e fun r => need (decide (r.2.length < 1000)) (.ok (.nx e (s.set r.1 (.o c (putB f x r.2)))))
theorem zkFS3_ok (c : Nat) (f : List Nat) (x : W) (e : Env) (s : Sto) (k : Nat) (fs : List (List Nat × W)) : zkFS3 c f x e s (.ok (k, fs)) = need (decide (fs.length < 1000)) (.ok (.nx e (s.set k (.o c (putB f x fs))))) := rfl
def zkFS2 (c : Nat) (f : List Nat) (x : W) (e : Env) (r : VS) : R O := r.bd e fun p => zkFS3 c f x e p.2 (objO c p.1 p.2)
theorem zkFS2_ok (c : Nat) (f : List Nat) (x : W) (e : Env) (w : W) (s : Sto) : zkFS2 c f x e (.ok (w, s)) = zkFS3 c f x e s (objO c w s) := rfl
def zkFS (c : Nat) (f : List Nat) (a : Ev) (e : Env) (r : VS) : R O := r.bd e fun q => zkFS2 c f q.1 e (a e q.2)
theorem zkFS_ok (c : Nat) (f : List Nat) (a : Ev) (e : Env) (w : W) (s : Sto) : zkFS c f a e (.ok (w, s)) = zkFS2 c f w e (a e s) := rfl
theorem sFldS_z (c : Nat) (f : List Nat) (a v : Ev) (e : Env) (s : Sto) : sFldS c f a v e s = zkFS c f a e (v e s) := rfl
theorem sFldA_r {c : Nat} {f : List Nat} {a v : Ev} {e : Env} {s : Sto} {o : W} {k : Nat} {fs : List (List Nat × W)} {i j : Int} (h1 : a e s = .ok (o, s)) (h2 : objO c o s = .ok (k, fs)) (h3 : fldW f fs s = .ok (.d (.int i), s)) (h4 : v e s = .ok (.d (.int j), s)) (hl : fs.length < 1000) :
    sFldA c f a v e s = .ok (.nx e (s.set k (.o c (putB f (.d (.int (i + j))) fs)))) := by
  unfold sFldA
  rw [h1, R.bd_ok]
  show (objO c o s).bd e _ = _
  rw [h2, R.bd_ok, h3, R.bd_ok]
  show (intW (.d (.int i))).bd e _ = _
  unfold intW
  rw [R.bd_ok, h4, R.bd_ok]
  show (R.ok j).bd e _ = _
  rw [R.bd_ok]
  show (objO c o s).bd e _ = _
  rw [h2, R.bd_ok, need_of (decide_eq_true hl)]
def zkMc (F : Fn) (w : W) (r : R (List W × Sto)) : VS := r.bind fun q => qv (F (w :: q.1) q.2)
theorem zkMc_ok (F : Fn) (w : W) (l : List W) (s : Sto) : zkMc F w (.ok (l, s)) = qv (F (w :: l) s) := rfl
def zkMb (m : List Nat) (F : Fn) (as : List Ev) (e : Env) (w : W) (s : Sto) (r : R (Nat × List (List Nat × W))) : VS := r.bind fun r => need (r.2.lookup m).isNone (zkMc F w (eAs as e s))
theorem zkMb_ok (m : List Nat) (F : Fn) (as : List Ev) (e : Env) (w : W) (s : Sto) (k : Nat) (fs : List (List Nat × W)) : zkMb m F as e w s (.ok (k, fs)) = need (fs.lookup m).isNone (zkMc F w (eAs as e s)) := rfl
def zkMa (c : Nat) (m : List Nat) (F : Fn) (as : List Ev) (e : Env) (r : VS) : VS := r.bind fun p => zkMb m F as e p.1 p.2 (objO c p.1 p.2)
theorem zkMa_ok (c : Nat) (m : List Nat) (F : Fn) (as : List Ev) (e : Env) (w : W) (s : Sto) : zkMa c m F as e (.ok (w, s)) = zkMb m F as e w s (objO c w s) := rfl
theorem eMeth_z (c : Nat) (m : List Nat) (F : Fn) (a : Ev) (as : List Ev) (e : Env) (s : Sto) : eMeth c m F a as e s = zkMa c m F as e (a e s) := rfl
theorem qv_ok (p : W × Sto) : qv (.ok p) = .ok p := rfl
def zkMk (c : Nat) (F : Fn) (r : R (List W × Sto)) : VS := r.bind fun q => mkO q.2.length (F (.loc q.2.length :: q.1) (q.2 ++ [.o c []]))
theorem zkMk_ok (c : Nat) (F : Fn) (l : List W) (s : Sto) : zkMk c F (.ok (l, s)) = mkO s.length (F (.loc s.length :: l) (s ++ [.o c []])) := rfl
theorem eMake_z (c : Nat) (F : Fn) (as : List Ev) (e : Env) (s : Sto) : eMake c F as e s = zkMk c F (eAs as e s) := rfl
theorem mkO_ok (k : Nat) (s : Sto) : mkO k (.ok (.d .non, s)) = .ok (.loc k, s) := rfl
def ob0 := And.intro @zkFl2_ok (And.intro @zkFl_ok (And.intro @eFld_z (And.intro @zkFS3_ok (And.intro @zkFS2_ok (And.intro @zkFS_ok (And.intro @sFldS_z (And.intro @zkMc_ok (And.intro @zkMb_ok (And.intro @zkMa_ok (And.intro @eMeth_z (And.intro @qv_ok (And.intro @zkMk_ok (And.intro @eMake_z (And.intro @mkO_ok True.intro))))))))))))))
/-! defs upon a store that stays -/
theorem mkF_x {n : Nat} {b : Sx} {a : List W} {x : D} {s s' t : Sto} (e : Env) (he : start n a = e) (h : outOf (b e s) = .ok (.d x, s' ++ t)) (hl : s'.length = s.length) (hc : clS s'.length s' = true) : mkF n b a s = .ok (.d x, s') := by
  show fin s.length (outOf (b (start n a) s)) = _
  rw [he, h, ← hl]
  have e : (s' ++ t).take s'.length = s' := by simp
  show (if clS s'.length ((s' ++ t).take s'.length) then R.ok (W.d x, (s' ++ t).take s'.length) else .stuck) = _
  rw [e, hc]; rfl
theorem mkF_xm {n : Nat} {b : Sx} {a : List W} {k : Bool} {l : List (D × D)} {s s' : Sto} (e : Env) (he : start n a = e) (h : outOf (b e s) = .ok (.loc s.length, s' ++ [C.m k l])) (hl : s'.length = s.length) (hc : clS s'.length s' = true) : mkF n b a s = .ok (.d (.dct k l), s') := by
  show fin s.length (outOf (b (start n a) s)) = _
  rw [he, h, ← hl]
  have e : (s' ++ [C.m k l]).take s'.length = s' := by simp
  have e2 : frz s'.length (s' ++ [C.m k l]) (.loc s'.length) = some (.d (.dct k l)) := by
    unfold frz
    have : cl s'.length (.loc s'.length) = false := by simp [cl]
    simp [this, toD, FU]
  show (match frz s'.length (s' ++ [C.m k l]) (.loc s'.length) with | some w' => if clS s'.length ((s' ++ [C.m k l]).take s'.length) then R.ok (w', (s' ++ [C.m k l]).take s'.length) else .stuck | none => .stuck) = _
  rw [e2, e]
  simp only [hc]; rfl
theorem fldW_h (f : List Nat) (w : W) (r : List (List Nat × W)) (s : Sto) : fldW f ((f, w) :: r) s = .ok (w, s) := by
  unfold fldW; rw [List.lookup_cons, beq_self_eq_true]
end B
/-! Rules for BOk29. -/
namespace B
open PySem L2
end B
/-! Rules for BOk33. -/
namespace B
open PySem L2
end B
/-! Rules for BOk37, BOk38. -/
namespace B
open PySem L2
end B
/-! Rules for BOk39. -/
namespace B
open PySem L2
end B
/-! Rules for BOk40 and BOk41. -/
namespace B
open PySem L2
end B
/-! try with else, computed. -/
namespace B
open PySem L2 PySem.Spec PyProof.Rows
end B
namespace B
section
local macro_rules | `(tactic| simpa! only [$ts,*]) => `(tactic| simp +decide (disch := first | assumption | decide | omega | (simp only [rngLen, lws, List.length_map, List.length_append, List.length_cons, List.length_nil, List.length_replicate, List.length_reverse, List.length_range, List.length_take, List.length_drop]; omega)) only [ev, en, st, cn, cl_, lg, ev5, $ts,*])
local macro_rules | `(tactic| simp_all! only [$ts,*]) => `(tactic| simp +decide (disch := first | assumption | omega | decide | (simp only [rngLen, lws, List.length_map, List.length_append, List.length_cons, List.length_nil, List.length_replicate, List.length_reverse, List.length_range, List.length_take, List.length_drop]; omega)) only [ez0, ez1, ez2, ez3, ez4, ez5, ez6, ez7, ek0, ek1, ek2, ek3, ek4, en, cn, cl_, lg, $ts,*])

abbrev Nm := List Nat
/-- a text that may be compared -/
def GoodT (z : Nm) : Prop := z.length ≤ 1000 ∧ z.all (· < 0x110000) = true
inductive Th where
  | num (i : Int) | nm (z : Nm)
inductive Row where
  | bring (p : Nm) (ps : List (Nm × Nm)) | give (o g : Nm) | set (o : Nm) (t : List (Int × Th)) | take (o : Nm) | say (t : List (Int × Th)) (w : Option Nm) | need (t : List (Int × Th)) | ask (p : Nm) (w : Option Nm) | part (p : Nm) | doo (p : Nm)
def eTh : Th → D
  | .num i => .int i | .nm z => .str z
def eTm (p : Int × Th) : D := .tup [.int p.1, eTh p.2]
def eOn : Option Nm → D
  | none => .non | some z => .str z
def ePr (p : Nm × Nm) : D := .tup [.str p.1, .str p.2]
def eRow : Row → D
  | .bring p ps => .tup [.str [98, 114, 105, 110, 103], .str p, .tup (ps.map ePr)]
  | .give o g => .tup [.str [103, 105, 118, 101], .str o, .str g]
  | .set o t => .tup [.str [115, 101, 116], .str o, .tup (t.map eTm)]
  | .take o => .tup [.str [116, 97, 107, 101], .str o]
  | .say t w => .tup [.str [115, 97, 121], .tup (t.map eTm), eOn w]
  | .need t => .tup [.str [110, 101, 101, 100], .tup (t.map eTm)]
  | .ask p w => .tup [.str [97, 115, 107], .str p, eOn w]
  | .part p => .tup [.str [112, 97, 114, 116], .str p]
  | .doo p => .tup [.str [100, 111], .str p]
abbrev Part := Nm × List Row
def ePart (p : Part) : D := .tup [.str p.1, .tup (p.2.map eRow)]
def ePs (P : List Part) : List D := P.map ePart
/-- a tuple, known or not -/
def SeqD (x : D) (l : List D) : Prop := x = .tup l ∨ x = .inq l
/-! names as keys -/
def sD (ks : List Nm) : List (D × D) := ks.map fun k => (.str k, .bl true)
def addN (ks : List Nm) (k : Nm) : List Nm := if k ∈ ks then ks else ks ++ [k]
theorem any_sD (ks : List Nm) (k : Nm) : ((sD ks).any fun p => eqv p.1 (.str k)) = decide (k ∈ ks) := by
  induction ks with
  | nil => rfl
  | cons a l ih =>
    show (eqv (.str a) (.str k) || ((sD l).any fun p => eqv p.1 (.str k))) = _
    rw [ih, eqv_str]
    by_cases h : a = k <;> by_cases h2 : k ∈ l <;> simp [h, h2, eq_comm]
    intro q; exact absurd q.symm h
theorem putD_sD (ks : List Nm) (k : Nm) : putD (sD ks) (.str k) (.bl true) = sD (addN ks k) := by
  unfold putD addN
  rw [any_sD]
  by_cases h : k ∈ ks
  · rw [if_pos (decide_eq_true h), if_pos h]
    unfold sD
    rw [List.map_map]
    apply List.map_congr_left
    intro x _
    simp only [Function.comp]
    split <;> rfl
  · rw [if_neg (by simpa using h), if_neg h]
    simp [sD]
theorem look_find {α : Type} (l : List (D × α)) (x : D) : (lookD l x).isSome = l.any fun p => eqv p.1 x := by
  unfold lookD
  induction l with
  | nil => rfl
  | cons p l ih =>
    rw [List.find?_cons, List.any_cons]
    cases h : eqv p.1 x with
    | true => rfl
    | false => simpa using ih
theorem look_sD (ks : List Nm) (k : Nm) : (lookD (sD ks) (.str k)).isSome = decide (k ∈ ks) := by rw [look_find, any_sD]
theorem keyOk_s (k : Nm) : keyOk false (.str k) = true := rfl
theorem cIn_sD (ks : List Nm) (k : Nm) : cIn (.str k) (.dct false (sD ks)) = .ok (.bl (decide (k ∈ ks))) := by rw [cIn_dct _ _ _ rfl, look_sD]
theorem cNin_sD (ks : List Nm) (k : Nm) : cNin (.str k) (.dct false (sD ks)) = .ok (.bl (!decide (k ∈ ks))) := by rw [cNin_dct _ _ _ rfl, look_sD]
theorem sD_len (ks : List Nm) : (sD ks).length = ks.length := by simp [sD]
theorem cIn_strsT (x : List Nat) (l : List (List Nat)) : cIn (.str x) (.tup (l.map .str)) = .ok (.bl (decide (x ∈ l))) := by
  rw [cIn_tup _ _ (by rw [flat_strs]; rfl), inL_strs]
theorem seq_iter {x : D} {l : List D} (h : SeqD x l) (a : Ev) (e : Env) (s s' : Sto) (ha : a e s = .ok (.d x, s')) : iSeq a e s = .ok (ws l, s') := by
  rw [iSeq_ap, ha]; rcases h with rfl | rfl <;> rfl
noncomputable def p_rows_of_b1 (e : Env) (s : Sto) : R O := (sKill [2, 3] (sIf (tB (e2 (d2 cEq) (eV 2) (eV 1))) (sRet (eV 3)) sSkip)) e s
noncomputable def p_rows_of_r1 (e : Env) (s : Sto) : R O := (sRet (eN fTup [])) e s
def p_rows_of_u := And.intro @p_rows_of_b1.eq_1 (And.intro @p_rows_of_r1.eq_1 True.intro)
noncomputable def p_rows_of : Fn := mkF 4 (sSeq (sFor (iSeq (eV 0)) (gT [(gN 2), (gN 3)]) p_rows_of_b1) p_rows_of_r1)
def rowsOf (P : List Part) (x : Nm) : List Row := match P.find? (fun p => decide (p.1 = x)) with
  | some p => p.2 | none => []
theorem p_rows_of_l (X : D) (x : Nm) : ∀ P : List Part, loop (gT [gN 2, gN 3]) p_rows_of_b1 (ws (ePs P)) [ed X, es x, e_, e_] [] = match P.find? (fun p => decide (p.1 = x)) with
    | some p => .ok (.rt (.d (.tup (p.2.map eRow))) []) | none => .ok (.nx [ed X, es x, e_, e_] [])
  | [] => rfl
  | p :: P => by
    have ih := p_rows_of_l X x P
    unfold ePs at ih ⊢
    rw [List.find?_cons]
    by_cases h : p.1 = x
    · simpa! only [List.map_cons, ePart, loop_cons, p_rows_of_b1, h]
    · simpa! only [List.map_cons, ePart, loop_cons, p_rows_of_b1, h, ih]
theorem p_rows_of_c {X : D} {P : List Part} (hX : SeqD X (ePs P)) (x : Nm) (s : Sto) : callP p_rows_of [.d X, .d (.str x)] s = .ok (.d (.tup ((rowsOf P x).map eRow)), s) := by
  have h := seq_iter hX (eV 0) [ed X, es x, e_, e_] [] [] rfl
  have h2 := p_rows_of_l X x P
  simp only [callP2, p_rows_of, p_rows_of_r1, cl_, sSeq_ap, sFor_ap, h, R.bd_ok, h2, rowsOf]
  cases P.find? (fun p => decide (p.1 = x)) with
  | none => simpa! only [List.map_nil, p_rows_of_r1]
  | some p => simpa! only []
theorem rowsOf_mem {P : List Part} (h : (P.map (·.1)).Nodup) {p : Part} (hp : p ∈ P) : rowsOf P p.1 = p.2 := by
  unfold rowsOf
  cases e : P.find? (fun q => decide (q.1 = p.1)) with
  | none => have := List.find?_eq_none.mp e p hp; simp at this
  | some q =>
    have h1 := List.find?_some e
    have h2 := List.mem_of_find?_eq_some e
    have h3 : q.1 = p.1 := of_decide_eq_true h1
    have : q = p := by
      obtain ⟨i, hi, ei⟩ := List.mem_iff_getElem.mp h2
      obtain ⟨j, hj, ej⟩ := List.mem_iff_getElem.mp hp
      have : i = j := by
        have hi' : i < (P.map (·.1)).length := by simpa using hi
        have hj' : j < (P.map (·.1)).length := by simpa using hj
        have : (P.map (·.1))[i] = (P.map (·.1))[j] := by simp [ei, ej, h3]
        exact (List.getElem_inj h).mp this
      subst this
      rw [← ei, ← ej]
    rw [this]
theorem rowsOf_of {P : List Part} {x : Nm} {r : Row} (h : r ∈ rowsOf P x) : ∃ p ∈ P, p.1 = x ∧ r ∈ p.2 := by
  unfold rowsOf at h
  cases e : P.find? (fun q => decide (q.1 = x)) with
  | none => rw [e] at h; cases h
  | some q =>
    rw [e] at h
    exact ⟨q, List.mem_of_find?_eq_some e, by simpa using List.find?_some e, h⟩

noncomputable def p_made_by_r1 (e : Env) (s : Sto) : R O := (sRet (eK .non)) e s
def p_made_by_u := And.intro @p_made_by_r1.eq_1 True.intro
noncomputable def p_made_by : Fn := mkF 1 (sSeq (sIf (tOr (tB (e2 (d2 cEq) (e2 oIx (eV 0) (eK (.int 0))) (eK (.str [115, 101, 116])))) (tB (e2 (d2 cEq) (e2 oIx (eV 0) (eK (.int 0))) (eK (.str [116, 97, 107, 101]))))) (sRet (e2 oIx (eV 0) (eK (.int 1)))) sSkip) p_made_by_r1)
noncomputable def p_made_in_b1 (e : Env) (s : Sto) : R O := (sKill [3, 4] (sIf (tB (e2 (d2 cEq) (eN (callP p_made_by) [(eV 4)]) (eV 2))) (sRet (eV 3)) sSkip)) e s
noncomputable def p_made_in_r1 (e : Env) (s : Sto) : R O := (sRet (eK .non)) e s
def p_made_in_u := And.intro @p_made_in_b1.eq_1 (And.intro @p_made_in_r1.eq_1 True.intro)
noncomputable def p_made_in : Fn := mkF 5 (sSeq (sForW (iEn (eN (callP p_rows_of) [(eV 0), (eV 1)])) (gT [(gN 3), (gN 4)]) p_made_in_b1) p_made_in_r1)
noncomputable def p_brought_from_b1 (e : Env) (s : Sto) : R O := (sKill [4, 5] (sIf (tB (e2 (d2 cEq) (eV 5) (eV 2))) (sRet (eN fTup [(e2 oIx (eV 3) (eK (.int 1))), (eV 4)])) sSkip)) e s
noncomputable def p_brought_from_b2 (e : Env) (s : Sto) : R O := (sKill [3, 4, 5] (sIf (tB (e2 (d2 cEq) (e2 oIx (eV 3) (eK (.int 0))) (eK (.str [98, 114, 105, 110, 103])))) (sFor (iSeq (e2 oIx (eV 3) (eK (.int 2)))) (gT [(gN 4), (gN 5)]) p_brought_from_b1) sSkip)) e s
noncomputable def p_brought_from_r1 (e : Env) (s : Sto) : R O := (sRet (eK .non)) e s
def p_brought_from_u := And.intro @p_brought_from_b1.eq_1 (And.intro @p_brought_from_b2.eq_1 (And.intro @p_brought_from_r1.eq_1 True.intro))
noncomputable def p_brought_from : Fn := mkF 6 (sSeq (sFor (iSeq (eN (callP p_rows_of) [(eV 0), (eV 1)])) (gN 3) p_brought_from_b2) p_brought_from_r1)
noncomputable def p_given_as_b1 (e : Env) (s : Sto) : R O := (sKill [3] (sIf (tAnd (tB (e2 (d2 cEq) (e2 oIx (eV 3) (eK (.int 0))) (eK (.str [103, 105, 118, 101])))) (tB (e2 (d2 cEq) (e2 oIx (eV 3) (eK (.int 2))) (eV 2)))) (sRet (e2 oIx (eV 3) (eK (.int 1)))) sSkip)) e s
noncomputable def p_given_as_r1 (e : Env) (s : Sto) : R O := (sRet (eK .non)) e s
def p_given_as_u := And.intro @p_given_as_b1.eq_1 (And.intro @p_given_as_r1.eq_1 True.intro)
noncomputable def p_given_as : Fn := mkF 4 (sSeq (sFor (iSeq (eN (callP p_rows_of) [(eV 0), (eV 1)])) (gN 3) p_given_as_b1) p_given_as_r1)
noncomputable def p_onward_r1 (e : Env) (s : Sto) : R O := (sSeq (sAsg (gT [(gN 3), (gN 4)]) (eN (callP p_brought_from) [(eV 0), (eV 1), (eV 2)])) (sRet (eN fTup [(eV 3), (eN (callP p_given_as) [(eV 0), (eV 3), (eV 4)])]))) e s
def p_onward_u := And.intro @p_onward_r1.eq_1 True.intro
noncomputable def p_onward : Fn := mkF 5 (sSeq (sIf (tB (e1 cNotN (eN (callP p_made_in) [(eV 0), (eV 1), (eV 2)]))) (sRet (eK .non)) sSkip) p_onward_r1)
noncomputable def p_maker_b1 (e : Env) (s : Sto) : R O := (sAsg (gT [(gN 1), (gN 2)]) (eN (callP p_onward) [(eV 0), (eV 1), (eV 2)])) e s
noncomputable def p_maker_w1 (e : Env) (s : Sto) : R (Bool × Sto) := (tB (e1 cIsN (eN (callP p_made_in) [(eV 0), (eV 1), (eV 2)]))) e s
noncomputable def p_maker_r1 (e : Env) (s : Sto) : R O := (sRet (eN fTup [(eV 1), (eN (callP p_made_in) [(eV 0), (eV 1), (eV 2)])])) e s
def p_maker_u := And.intro @p_maker_b1.eq_1 (And.intro @p_maker_w1.eq_1 (And.intro @p_maker_r1.eq_1 True.intro))
noncomputable def p_maker : Fn := mkF 3 (sSeq (sWhl p_maker_w1 p_maker_b1) p_maker_r1)
/-! who makes a name -/
def mkT : Row → Option Nm
  | .set o _ => some o | .take o => some o | _ => none
def madeIn (rs : List Row) (o : Nm) : Option Nat := rs.findIdx? fun r => decide (mkT r = some o)
def brR (o : Nm) : Row → Option (Nm × Nm)
  | .bring x ps => (ps.find? fun p => decide (p.2 = o)).map fun p => (x, p.1)
  | _ => none
def brF (rs : List Row) (o : Nm) : Option (Nm × Nm) := rs.findSome? (brR o)
def gvR (g : Nm) : Row → Option Nm
  | .give o h => if h = g then some o else none
  | _ => none
def gvF (rs : List Row) (g : Nm) : Option Nm := rs.findSome? (gvR g)
theorem p_made_by_c (r : Row) (s : Sto) : callP p_made_by [.d (eRow r)] s = .ok (.d (eOn (mkT r)), s) := by
  cases r <;> simp_all! only [p_made_by, p_made_by_r1, eRow, mkT, eOn]
theorem cEq_on (w : Option Nm) (z : Nm) : cEq (eOn w) (.str z) = .ok (.bl (decide (w = some z))) := by
  cases w with
  | none => rfl
  | some y =>
    show cEq (.str y) (.str z) = _
    rw [cEq_s]; simp
theorem made_in_l (w0 w1 : Option W) (o : Nm) : ∀ (rs : List Row) (n : Nat), loop (gT [gN 3, gN 4]) p_made_in_b1 (ws ((rs.map eRow).mapIdx fun j d => D.tup [.int ((n + j : Nat) : Int), d])) [w0, w1, es o, e_, e_] [] = match madeIn rs o with
    | some k => .ok (.rt (.d (.int ((n + k : Nat) : Int))) []) | none => .ok (.nx [w0, w1, es o, e_, e_] [])
  | [], n => rfl
  | r :: rs, n => by
    have ih := made_in_l w0 w1 o rs (n + 1)
    have e : ((rs.map eRow).mapIdx fun j d => D.tup [.int ((n + (j + 1) : Nat) : Int), d]) = (rs.map eRow).mapIdx fun j d => D.tup [.int ((n + 1 + j : Nat) : Int), d] := by
      congr 1; funext j d; congr 3; omega
    rw [List.map_cons, List.mapIdx_cons, e]
    unfold madeIn at ih ⊢
    rw [List.findIdx?_cons]
    by_cases c : mkT r = some o
    · simp_all! only [loop_cz, p_made_in_b1, p_made_by_c, cEq_on, c, Nat.add_zero]
    · have hd : decide (mkT r = some o) = false := decide_eq_false c
      simp_all! only [loop_cz, p_made_in_b1, p_made_by_c, cEq_on, c, ih]
      cases List.findIdx? (fun r => decide (mkT r = some o)) rs with
      | none => rfl
      | some k => simp only [Option.map_some]; rw [show n + 1 + k = n + (k + 1) by omega]
def eOi : Option Nat → D
  | none => .non | some k => .int (k : Nat)
theorem p_made_in_c {X : D} {P : List Part} (hX : SeqD X (ePs P)) (x o : Nm) (s : Sto) : callP p_made_in [.d X, .d (.str x), .d (.str o)] s = .ok (.d (eOi (madeIn (rowsOf P x) o)), s) := by
  have L := made_in_l (ed X) (es x) o (rowsOf P x) 0
  have R := fun s => p_rows_of_c hX x s
  simp only [Nat.zero_add] at L
  cases e : madeIn (rowsOf P x) o with
  | none => rw [e] at L; simp_all! only [p_made_in, p_made_in_r1, R, List.append_nil, Nat.zero_add, L, eOi]
  | some k => rw [e] at L; simp_all! only [p_made_in, p_made_in_r1, R, List.append_nil, Nat.zero_add, L, eOi]
theorem bf_b1 (w0 w1 : Option W) (o : Nm) (d : D) (x : Nm) (hd : ∀ s, oIx (.d d) (.d (.int 1)) s = .ok (.d (.str x), s)) : ∀ (ps : List (Nm × Nm)), loop (gT [gN 4, gN 5]) p_brought_from_b1 (ws (ps.map ePr)) [w0, w1, es o, ed d, e_, e_] [] = match ps.find? (fun p => decide (p.2 = o)) with
    | some p => .ok (.rt (.d (kSS (x, p.1))) []) | none => .ok (.nx [w0, w1, es o, ed d, e_, e_] [])
  | [] => rfl
  | p :: ps => by
    have ih := bf_b1 w0 w1 o d x hd ps
    rw [List.map_cons, List.find?_cons]
    by_cases c : p.2 = o
    · simp_all! only [loop_cz, ePr, p_brought_from_b1, hd, c]
    · have hdd : decide (p.2 = o) = false := decide_eq_false c
      simp_all! only [loop_cz, ePr, p_brought_from_b1, c, ih]
theorem bf_b2 (w0 w1 : Option W) (o : Nm) : ∀ (rs : List Row), loop (gN 3) p_brought_from_b2 (ws (rs.map eRow)) [w0, w1, es o, e_, e_, e_] [] = match brF rs o with
    | some p => .ok (.rt (.d (kSS p)) []) | none => .ok (.nx [w0, w1, es o, e_, e_, e_] [])
  | [] => rfl
  | r :: rs => by
    have ih := bf_b2 w0 w1 o rs
    unfold brF at ih ⊢
    rw [List.map_cons, List.findSome?_cons]
    cases r with
    | bring x ps =>
      have L := bf_b1 w0 w1 o (eRow (.bring x ps)) x (fun s => by simp only [eRow, oIx_t, ws_cons, ixW1]) ps
      simp only [brR]
      cases e : ps.find? (fun p => decide (p.2 = o)) with
      | none =>
        rw [e] at L
        simp only [eRow] at L ⊢
        simp_all! only [loop_cz, p_brought_from_b2, L, Option.map_none, ih]
      | some p =>
        rw [e] at L
        simp only [eRow] at L ⊢
        simp_all! only [loop_cz, p_brought_from_b2, L, Option.map_some]
    | _ => simp only [brR]; simp_all! only [loop_cz, p_brought_from_b2, eRow, ih]
def eOp : Option (Nm × Nm) → D
  | none => .non | some p => kSS p
theorem p_brought_from_c {X : D} {P : List Part} (hX : SeqD X (ePs P)) (x o : Nm) (s : Sto) : callP p_brought_from [.d X, .d (.str x), .d (.str o)] s = .ok (.d (eOp (brF (rowsOf P x) o)), s) := by
  have L := bf_b2 (ed X) (es x) o (rowsOf P x)
  have R := fun s => p_rows_of_c hX x s
  cases e : brF (rowsOf P x) o with
  | none => rw [e] at L; simp_all! only [p_brought_from, p_brought_from_r1, R, L, eOp]
  | some p => rw [e] at L; simp_all! only [p_brought_from, p_brought_from_r1, R, L, eOp]
theorem ga_b1 (w0 w1 : Option W) (g : Nm) : ∀ (rs : List Row), loop (gN 3) p_given_as_b1 (ws (rs.map eRow)) [w0, w1, es g, e_] [] = match gvF rs g with
    | some o => .ok (.rt (.d (.str o)) []) | none => .ok (.nx [w0, w1, es g, e_] [])
  | [] => rfl
  | r :: rs => by
    have ih := ga_b1 w0 w1 g rs
    unfold gvF at ih ⊢
    rw [List.map_cons, List.findSome?_cons]
    cases r with
    | give o h =>
      simp only [gvR]
      by_cases c : h = g
      · simp only [if_pos c]; simp_all! only [loop_cz, p_given_as_b1, eRow, c]
      · simp only [if_neg c]; simp_all! only [loop_cz, p_given_as_b1, eRow, c, ih]
    | _ => simp only [gvR]; simp_all! only [loop_cz, p_given_as_b1, eRow, ih]
theorem p_given_as_c {X : D} {P : List Part} (hX : SeqD X (ePs P)) (x g : Nm) (s : Sto) : callP p_given_as [.d X, .d (.str x), .d (.str g)] s = .ok (.d (eOn (gvF (rowsOf P x) g)), s) := by
  have L := ga_b1 (ed X) (es x) g (rowsOf P x)
  have R := fun s => p_rows_of_c hX x s
  cases e : gvF (rowsOf P x) g with
  | none => rw [e] at L; simp_all! only [p_given_as, p_given_as_r1, R, L, eOn]
  | some o => rw [e] at L; simp_all! only [p_given_as, p_given_as_r1, R, L, eOn]
/-- the next spot of a name that is brought in -/
def onw (P : List Part) (x o : Nm) : Option (Nm × Nm) := match madeIn (rowsOf P x) o with
  | some _ => none
  | none => match brF (rowsOf P x) o with
    | some (y, g) => (gvF (rowsOf P y) g).map fun o2 => (y, o2)
    | none => none
theorem p_onward_c {X : D} {P : List Part} (hX : SeqD X (ePs P)) {x o y o2 : Nm} (h : onw P x o = some (y, o2)) (s : Sto) : callP p_onward [.d X, .d (.str x), .d (.str o)] s = .ok (.d (kSS (y, o2)), s) := by
  have M := fun s => p_made_in_c hX x o s
  have B := fun s => p_brought_from_c hX x o s
  unfold onw at h
  cases e : madeIn (rowsOf P x) o with
  | some k => rw [e] at h; cases h
  | none =>
    rw [e] at h M
    cases e2 : brF (rowsOf P x) o with
    | none => rw [e2] at h; cases h
    | some p =>
      obtain ⟨z, g⟩ := p
      rw [e2] at h B
      simp only at h
      cases e3 : gvF (rowsOf P z) g with
      | none => rw [e3] at h; cases h
      | some o3 =>
        rw [e3] at h
        cases h
        have G := fun s => p_given_as_c hX y g s
        rw [e3] at G
        simp only [eOi, eOp, eOn] at M B G
        simp_all! only [p_onward, p_onward_r1, M, B, G]
/-- the maker, by a number of steps at most -/
def mkrF (P : List Part) : Nat → Nm → Nm → Nm × Nat
  | 0, x, _ => (x, 0)
  | n + 1, x, o => match madeIn (rowsOf P x) o with
    | some k => (x, k)
    | none => match onw P x o with
      | some (y, o2) => mkrF P n y o2
      | none => (x, 0)
def makerL (P : List Part) (x o : Nm) : Nm × Nat := mkrF P 1000 x o
theorem onw_none {P : List Part} {x o : Nm} {k : Nat} (h : madeIn (rowsOf P x) o = some k) : onw P x o = none := by unfold onw; rw [h]
theorem maker_w {X : D} {P : List Part} (hX : SeqD X (ePs P)) (rk : Nm → Nm → Nat) (Ok : Nm → Nm → Prop)
    (hO : ∀ x o, Ok x o → (∃ k, madeIn (rowsOf P x) o = some k) ∨ ∃ y o2, onw P x o = some (y, o2) ∧ Ok y o2 ∧ rk y o2 < rk x o) : ∀ (n m : Nat) (x o : Nm), Ok x o → rk x o < n → n ≤ m →
    ∃ y o2, whl p_maker_w1 p_maker_b1 m [ed X, es x, es o] [] = .ok (.nx [ed X, es y, es o2] []) ∧ Ok y o2 ∧ ∃ k, madeIn (rowsOf P y) o2 = some k ∧ mkrF P n x o = (y, k)
  | 0, m, x, o, _, h, _ => absurd h (Nat.not_lt_zero _)
  | n + 1, 0, x, o, _, _, h => by omega
  | n + 1, m + 1, x, o, ho, hr, hm => by
    have M := fun s => p_made_in_c hX x o s
    rcases hO x o ho with ⟨k, hk⟩ | ⟨y, o2, h1, h2, h3⟩
    · refine ⟨x, o, ?_, ho, k, hk, by unfold mkrF; rw [hk]⟩
      rw [hk] at M
      simp only [eOi] at M
      simp_all! only [whl_cz, p_maker_w1, M]
    · obtain ⟨z, o3, i1, i2, k, i3, i4⟩ := maker_w hX rk Ok hO n m y o2 h2 (by omega) (by omega)
      have hk : madeIn (rowsOf P x) o = none := by
        cases e : madeIn (rowsOf P x) o with
        | none => rfl
        | some k => rw [onw_none e] at h1; cases h1
      refine ⟨z, o3, ?_, i2, k, i3, by unfold mkrF; rw [hk, h1]; exact i4⟩
      have On := fun s => p_onward_c hX h1 s
      rw [hk] at M
      simp only [eOi] at M
      simp_all! only [whl_cz, p_maker_w1, M, p_maker_b1, On, i1]
theorem p_maker_c {X : D} {P : List Part} (hX : SeqD X (ePs P)) (rk : Nm → Nm → Nat) (Ok : Nm → Nm → Prop)
    (hO : ∀ x o, Ok x o → (∃ k, madeIn (rowsOf P x) o = some k) ∨ ∃ y o2, onw P x o = some (y, o2) ∧ Ok y o2 ∧ rk y o2 < rk x o) (x o : Nm) (h : Ok x o) (hr : rk x o < 1000) :
    (∀ s, callP p_maker [.d X, .d (.str x), .d (.str o)] s = .ok (.d (.tup [.str (makerL P x o).1, .int ((makerL P x o).2 : Nat)]), s)) ∧ ∃ o2, Ok (makerL P x o).1 o2 ∧ madeIn (rowsOf P (makerL P x o).1) o2 = some (makerL P x o).2 := by
  obtain ⟨y, o2, h1, h2, k, h3, h4⟩ := maker_w hX rk Ok hO 1000 TURNS x o h hr (by unfold TURNS; omega)
  have e : makerL P x o = (y, k) := h4
  rw [e]
  refine ⟨fun s => ?_, o2, h2, h3⟩
  have M := fun s => p_made_in_c hX y o2 s
  rw [h3] at M
  simp only [eOi] at M
  simp_all! only [p_maker, p_maker_r1, sWhl_ap, h1, M]
noncomputable def p_sum_names_r1 (e : Env) (s : Sto) : R O := (sAsg (gN 1) (e2 oAdd (eV 1) (eK (.int 2)))) e s
noncomputable def p_sum_names_b1 (e : Env) (s : Sto) : R O := (sKill [3, 4] (sSeq (sIf (tB (e1 (isI .str) (eV 4))) (sX (m1 isL lAppend (eV 2) (eN fTup [(eV 1), (eV 4)]))) sSkip) p_sum_names_r1)) e s
noncomputable def p_sum_names_r2 (e : Env) (s : Sto) : R O := (sRet (eV 2)) e s
def p_sum_names_u := And.intro @p_sum_names_r1.eq_1 (And.intro @p_sum_names_b1.eq_1 (And.intro @p_sum_names_r2.eq_1 True.intro))
noncomputable def p_sum_names : Fn := mkF 5 (sSeq (sAsg (gN 2) (eN fLstC [])) (sSeq (sFor (iSeq (eV 0)) (gT [(gN 3), (gN 4)]) p_sum_names_b1) p_sum_names_r2))
noncomputable def p_read_names_r1 (e : Env) (s : Sto) : R O := (sRet (e1 bTup (eV 1))) e s
noncomputable def p_read_names_r2 (e : Env) (s : Sto) : R O := (sRet (eN fTup [])) e s
noncomputable def p_read_names_r3 (e : Env) (s : Sto) : R O := (sSeq (sIf (tAnd (tB (e2 (d2 cEq) (e2 oIx (eV 0) (eK (.int 0))) (eK (.str [97, 115, 107])))) (tB (e1 cNotN (e2 oIx (eV 0) (eK (.int 2)))))) (sRet (eN fTup [(eN fTup [(eK (.int 3)), (e2 oIx (eV 0) (eK (.int 2)))])])) sSkip) p_read_names_r2) e s
noncomputable def p_read_names_r4 (e : Env) (s : Sto) : R O := (sSeq (sIf (tB (e2 (d2 cEq) (e2 oIx (eV 0) (eK (.int 0))) (eK (.str [115, 97, 121])))) (sSeq (sAsg (gN 1) (eN (callP p_sum_names) [(e2 oIx (eV 0) (eK (.int 1))), (eK (.int 1))])) (sSeq (sIf (tB (e1 cNotN (e2 oIx (eV 0) (eK (.int 2))))) (sAsg (gN 1) (e2 oAdd (eN fLst [(eN fTup [(e2 oAdd (e2 (d2 oMul) (eK (.int 2)) (e1 bLen (e2 oIx (eV 0) (eK (.int 1))))) (eK (.int 1))), (e2 oIx (eV 0) (eK (.int 2)))])]) (eV 1))) sSkip) p_read_names_r1)) sSkip) p_read_names_r3) e s
noncomputable def p_read_names_r5 (e : Env) (s : Sto) : R O := (sSeq (sIf (tB (e2 (d2 cEq) (e2 oIx (eV 0) (eK (.int 0))) (eK (.str [110, 101, 101, 100])))) (sRet (e1 bTup (eN (callP p_sum_names) [(e2 oIx (eV 0) (eK (.int 1))), (eK (.int 1))]))) sSkip) p_read_names_r4) e s
def p_read_names_u := And.intro @p_read_names_r1.eq_1 (And.intro @p_read_names_r2.eq_1 (And.intro @p_read_names_r3.eq_1 (And.intro @p_read_names_r4.eq_1 (And.intro @p_read_names_r5.eq_1 True.intro))))
noncomputable def p_read_names : Fn := mkF 2 (sSeq (sIf (tB (e2 (d2 cEq) (e2 oIx (eV 0) (eK (.int 0))) (eK (.str [115, 101, 116])))) (sRet (e1 bTup (eN (callP p_sum_names) [(e2 oIx (eV 0) (eK (.int 2))), (eK (.int 3))]))) sSkip) p_read_names_r5)
/-! the terms' names -/
def sumN : Int → List (Int × Th) → List (Int × Nm)
  | _, [] => []
  | a, (_, .nm z) :: r => (a, z) :: sumN (a + 2) r
  | a, (_, .num _) :: r => sumN (a + 2) r
def nmsT (t : List (Int × Th)) : List Nm := t.filterMap fun q => match q.2 with | .nm z => some z | .num _ => none
theorem sumN_nms : ∀ (t : List (Int × Th)) (a : Int), (sumN a t).map (·.2) = nmsT t
  | [], _ => rfl
  | (s, .nm z) :: r, a => by
    show z :: (sumN (a + 2) r).map (·.2) = z :: nmsT r
    rw [sumN_nms r]
  | (s, .num i) :: r, a => by
    show (sumN (a + 2) r).map (·.2) = nmsT r
    rw [sumN_nms r]
theorem sumN_len : ∀ (t : List (Int × Th)) (a : Int), (sumN a t).length ≤ t.length
  | [], _ => Nat.le_refl _
  | (s, .nm z) :: r, a => by have := sumN_len r (a + 2); simp only [sumN, List.length_cons]; omega
  | (s, .num i) :: r, a => by have := sumN_len r (a + 2); simp only [sumN, List.length_cons]; omega
def ePN (p : Int × Nm) : D := .tup [.int p.1, .str p.2]
theorem sum_l (w0 : Option W) : ∀ (t : List (Int × Th)) (a : Int) (acc : List (Int × Nm)), acc.length + t.length ≤ 1000 → ∃ a2 : Int, loop (gT [gN 3, gN 4]) p_sum_names_b1 (ws (t.map eTm)) [w0, ei a, el 0, e_, e_] [.l (acc.map ePN)] = .ok (.nx [w0, ei a2, el 0, e_, e_] [.l ((acc ++ sumN a t).map ePN)])
  | [], a, acc, _ => ⟨a, by simp only [List.map_nil, ws_nil, loop_nil, sumN, List.append_nil]⟩
  | (s, .nm z) :: r, a, acc, h => by
    simp only [List.length_cons] at h
    obtain ⟨a2, ih⟩ := sum_l w0 r (a + 2) (acc ++ [(a, z)]) (by simp; omega)
    refine ⟨a2, ?_⟩
    have e : (acc ++ [(a, z)]).map ePN = acc.map ePN ++ [.tup [.int a, .str z]] := by simp [ePN]
    have e2 : acc ++ sumN a ((s, .nm z) :: r) = acc ++ [(a, z)] ++ sumN (a + 2) r := by simp [sumN]
    rw [e2]
    rw [e] at ih
    have fl : (acc.map ePN).length < 16777216 := by simp; omega
    simp_all! only [List.map_cons, loop_cz, eTm, eTh, p_sum_names_b1, p_sum_names_r1, fl, ih]
  | (s, .num i) :: r, a, acc, h => by
    simp only [List.length_cons] at h
    obtain ⟨a2, ih⟩ := sum_l w0 r (a + 2) acc (by omega)
    refine ⟨a2, ?_⟩
    have e2 : acc ++ sumN a ((s, .num i) :: r) = acc ++ sumN (a + 2) r := rfl
    rw [e2]
    simp_all! only [List.map_cons, loop_cz, eTm, eTh, p_sum_names_b1, p_sum_names_r1, ih]
theorem p_sum_names_c (t : List (Int × Th)) (h : t.length ≤ 100) (a : Int) (s : Sto) : callP p_sum_names [.d (.tup (t.map eTm)), .d (.int a)] s = .ok (.d (.lst ((sumN a t).map ePN)), s) := by
  obtain ⟨a2, L⟩ := sum_l (ed (.tup (t.map eTm))) t a [] (by simp; omega)
  simp only [List.map_nil, List.nil_append] at L
  simp_all! only [p_sum_names, p_sum_names_r2, L]
/-- the names that a row reads, each with its word -/
def rdN : Row → List (Int × Nm)
  | .set _ t => sumN 3 t
  | .need t => sumN 1 t
  | .say t (some z) => (2 * (t.length : Int) + 1, z) :: sumN 1 t
  | .say t none => sumN 1 t
  | .ask _ (some z) => [(3, z)]
  | _ => []
def tmL : Row → List (Int × Th)
  | .set _ t => t | .need t => t | .say t _ => t | _ => []
theorem p_read_names_c (r : Row) (h : (tmL r).length ≤ 100) (s : Sto) : callP p_read_names [.d (eRow r)] s = .ok (.d (.tup ((rdN r).map ePN)), s) := by
  cases r with
  | set o t =>
    have A := fun a s => p_sum_names_c t h a s
    simp only [eRow, rdN]
    simp_all! only [p_read_names, A]
  | need t =>
    have A := fun a s => p_sum_names_c t h a s
    simp only [eRow, rdN]
    simp_all! only [p_read_names, p_read_names_r5, A]
  | say t w =>
    have A := fun a s => p_sum_names_c t h a s
    have hs := sumN_len t 1
    have ht : t.length ≤ 100 := h
    have fl : ((sumN 1 t).map ePN).length ≤ 16777216 - 1 := by simp; omega
    have fl2 : 1 + ((sumN 1 t).map ePN).length ≤ 16777216 := by omega
    cases w with
    | none =>
      simp only [eRow, rdN, eOn]
      simp_all! only [p_read_names, p_read_names_r5, p_read_names_r4, p_read_names_r1, A]
    | some z =>
      simp only [eRow, rdN, eOn]
      simp_all! only [p_read_names, p_read_names_r5, p_read_names_r4, p_read_names_r1, A, List.length_map, List.map_cons, ePN, fl, fl2]
  | ask p w =>
    cases w with
    | none =>
      simp only [eRow, rdN, eOn]
      simp_all! only [p_read_names, p_read_names_r5, p_read_names_r4, p_read_names_r3, p_read_names_r2, List.map_nil]
    | some z =>
      simp only [eRow, rdN, eOn]
      simp_all! only [p_read_names, p_read_names_r5, p_read_names_r4, p_read_names_r3, List.map_cons, List.map_nil, ePN]
  | _ =>
    simp only [eRow, rdN]
    simp_all! only [p_read_names, p_read_names_r5, p_read_names_r4, p_read_names_r3, p_read_names_r2, List.map_nil]

noncomputable def p_value_of_b1 (e : Env) (s : Sto) : R O := (sKill [3, 4] (sIf (tB (e1 (isI .str) (eV 4))) (sAsg (gN 2) (e2 (d2 oAddI) (eV 2) (e2 (d2 oMul) (eV 3) (e2 oIx (eV 1) (eV 4))))) (sAsg (gN 2) (e2 (d2 oAddI) (eV 2) (e2 (d2 oMul) (eV 3) (eV 4)))))) e s
noncomputable def p_value_of_r1 (e : Env) (s : Sto) : R O := (sRet (eV 2)) e s
def p_value_of_u := And.intro @p_value_of_b1.eq_1 (And.intro @p_value_of_r1.eq_1 True.intro)
noncomputable def p_value_of : Fn := mkF 5 (sSeq (sAsg (gN 2) (eK (.int 0))) (sSeq (sFor (iSeq (eV 0)) (gT [(gN 3), (gN 4)]) p_value_of_b1) p_value_of_r1))
noncomputable def p_when_of_r1 (e : Env) (s : Sto) : R O := (sRet (eK .non)) e s
def p_when_of_u := And.intro @p_when_of_r1.eq_1 True.intro
noncomputable def p_when_of : Fn := mkF 1 (sSeq (sIf (tOr (tB (e2 (d2 cEq) (e2 oIx (eV 0) (eK (.int 0))) (eK (.str [115, 97, 121])))) (tB (e2 (d2 cEq) (e2 oIx (eV 0) (eK (.int 0))) (eK (.str [97, 115, 107]))))) (sRet (e2 oIx (eV 0) (eK (.int 2)))) sSkip) p_when_of_r1)
noncomputable def m_Trail___init__K : Fn := mkK 2 (sSeq (sFldS 0 [110, 117, 109, 98, 101, 114, 115] (eV 0) (eV 1)) (sSeq (sFldS 0 [116, 97, 107, 101, 110] (eV 0) (eK (.int 0))) (sSeq (sFldS 0 [107, 110, 111, 119, 110] (eV 0) (eDct true)) (sSeq (sFldS 0 [98, 101, 103, 117, 110] (eV 0) (eDct false)) (sSeq (sFldS 0 [108, 111, 97, 100, 101, 100] (eV 0) (eDct false)) (sSeq (sFldS 0 [116, 114, 97, 99, 101] (eV 0) (eN fLstC [])) (sFldS 0 [102, 97, 117, 108, 116] (eV 0) (eK .non))))))))
noncomputable def m_Trail_take_r1 (e : Env) (s : Sto) : R O := (sSeq (sFldA 0 [116, 97, 107, 101, 110] (eV 0) (eK (.int 1))) (sRet (e2 oIx (eFld 0 [110, 117, 109, 98, 101, 114, 115] (eV 0)) (e2 (d2 oSub) (eFld 0 [116, 97, 107, 101, 110] (eV 0)) (eK (.int 1)))))) e s
def m_Trail_take_u := And.intro @m_Trail_take_r1.eq_1 True.intro
noncomputable def m_Trail_take : Fn := mkF 1 (sSeq (sIf (tB (e2 (d2 cGe) (eFld 0 [116, 97, 107, 101, 110] (eV 0)) (e1 bLen (eFld 0 [110, 117, 109, 98, 101, 114, 115] (eV 0))))) (sRet (eK (.int 0))) sSkip) m_Trail_take_r1)
noncomputable def m_Trail_load_b1 (e : Env) (s : Sto) : R O := (sKill [2] (sIf (tB (e2 (d2 cNin) (eV 2) (eFld 0 [108, 111, 97, 100, 101, 100] (eV 0)))) (sSeq (sAsg (gSb (eFld 0 [108, 111, 97, 100, 101, 100] (eV 0)) (eV 2)) (eK (.bl true))) (sX (m1 isL lAppend (eFld 0 [116, 114, 97, 99, 101] (eV 0)) (eN fTup [(eK (.str [108, 111, 97, 100])), (eV 2)])))) sSkip)) e s
def m_Trail_load_u := And.intro @m_Trail_load_b1.eq_1 True.intro
noncomputable def m_Trail_load : Fn := mkF 3 (sFor (iSeq (eV 1)) (gN 2) m_Trail_load_b1)
noncomputable def m_PartsWalk___init__K : Fn := mkK 2 (sFldS 1 [112, 97, 114, 116, 115] (eV 0) (eV 1))
noncomputable def m_PartsWalk_rows_of_c1 (e : Env) (s : Sto) : VS := (eN fTup [(eV 1), (eV 4), (e2 oIx (eV 3) (eV 4))]) e s
noncomputable def m_PartsWalk_rows_of_b1 (e : Env) (s : Sto) : R O := (sKill [2, 3] (sIf (tB (e2 (d2 cEq) (eV 2) (eV 1))) (sRet (e1 bTup (eComp (iR1 (e1 bLen (eV 3))) (gN 4) tYes m_PartsWalk_rows_of_c1 [4]))) sSkip)) e s
noncomputable def m_PartsWalk_rows_of_r1 (e : Env) (s : Sto) : R O := (sRet (eN fTup [])) e s
def m_PartsWalk_rows_of_u := And.intro @m_PartsWalk_rows_of_c1.eq_1 (And.intro @m_PartsWalk_rows_of_b1.eq_1 (And.intro @m_PartsWalk_rows_of_r1.eq_1 True.intro))
noncomputable def m_PartsWalk_rows_of : Fn := mkF 5 (sSeq (sFor (iSeq (eFld 1 [112, 97, 114, 116, 115] (eV 0))) (gT [(gN 2), (gN 3)]) m_PartsWalk_rows_of_b1) m_PartsWalk_rows_of_r1)
noncomputable def m_PartsWalk_key_of : Fn := mkF 3 (sRet (eN (callP p_maker) [(eFld 1 [112, 97, 114, 116, 115] (eV 0)), (eV 1), (eV 2)]))
noncomputable def m_PartsWalk_loads_of : Fn := mkF 2 (sRet (eN fTup []))
noncomputable def m_PartsWalk_ahead_of : Fn := mkF 2 (sRet (eN fTup []))
noncomputable def m_PartsWalk_found_by_r1 (e : Env) (s : Sto) : R O := (sSeq (sAsg (gSb (eV 5) (eV 8)) (e2 oIx (eFld 0 [107, 110, 111, 119, 110] (eV 1)) (eV 9))) (sIf (tAnd (tB (e2 (d2 cEq) (eV 8) (eV 6))) (tB (e2 (d2 cLe) (e2 oIx (eV 5) (eV 8)) (eK (.int 0))))) (sRet (eK .non)) sSkip)) e s
noncomputable def m_PartsWalk_found_by_b1 (e : Env) (s : Sto) : R O := (sKill [7, 8, 9] (sSeq (sAsg (gN 9) (eMeth 1 [107, 101, 121, 95, 111, 102] m_PartsWalk_key_of (eV 0) [(eV 2), (eV 8)])) (sSeq (sIf (tB (e2 (d2 cNin) (eV 9) (eFld 0 [107, 110, 111, 119, 110] (eV 1)))) (sSeq (sFldS 0 [102, 97, 117, 108, 116] (eV 1) (eN fTup [(eK (.str [101, 97, 114, 108, 121])), (e2 oIx (eV 3) (eK (.int 0))), (e2 oIx (eV 3) (eK (.int 1))), (eV 7)])) (sRet (eK .non))) sSkip) m_PartsWalk_found_by_r1))) e s
noncomputable def m_PartsWalk_found_by_r2 (e : Env) (s : Sto) : R O := (sRet (eV 5)) e s
def m_PartsWalk_found_by_u := And.intro @m_PartsWalk_found_by_r1.eq_1 (And.intro @m_PartsWalk_found_by_b1.eq_1 (And.intro @m_PartsWalk_found_by_r2.eq_1 True.intro))
noncomputable def m_PartsWalk_found_by : Fn := mkF 10 (sSeq (sAsg (gN 5) (eDct false)) (sSeq (sAsg (gN 6) (eN (callP p_when_of) [(eV 4)])) (sSeq (sFor (iSeq (eN (callP p_read_names) [(eV 4)])) (gT [(gN 7), (gN 8)]) m_PartsWalk_found_by_b1) m_PartsWalk_found_by_r2)))
noncomputable def m_PartsWalk_done_r1 (n : Fn) (e : Env) (s : Sto) : R O := (sX (eMeth 1 [98, 101, 103, 105, 110] n (eV 0) [(eV 1), (e2 oIx (eV 4) (eK (.int 1)))])) e s
def m_PartsWalk_done_u := And.intro @m_PartsWalk_done_r1.eq_1 True.intro
noncomputable def m_PartsWalk_done (n : Fn) : Fn := mkF 8 (sSeq (sAsg (gN 6) (e2 oIx (eV 4) (eK (.int 0)))) (sIf (tB (e2 (d2 cEq) (eV 6) (eK (.str [115, 101, 116])))) (sAsg (gSb (eFld 0 [107, 110, 111, 119, 110] (eV 1)) (eMeth 1 [107, 101, 121, 95, 111, 102] m_PartsWalk_key_of (eV 0) [(eV 2), (e2 oIx (eV 4) (eK (.int 1)))])) (eN (callP p_value_of) [(e2 oIx (eV 4) (eK (.int 2))), (eV 5)])) (sIf (tB (e2 (d2 cEq) (eV 6) (eK (.str [116, 97, 107, 101])))) (sSeq (sAsg (gN 7) (eMeth 0 [116, 97, 107, 101] m_Trail_take (eV 1) [])) (sSeq (sAsg (gSb (eFld 0 [107, 110, 111, 119, 110] (eV 1)) (eMeth 1 [107, 101, 121, 95, 111, 102] m_PartsWalk_key_of (eV 0) [(eV 2), (e2 oIx (eV 4) (eK (.int 1)))])) (eV 7)) (sX (m1 isL lAppend (eFld 0 [116, 114, 97, 99, 101] (eV 1)) (eN fTup [(eK (.str [116, 97, 107, 101])), (eV 7), (e2 oIx (eV 3) (eK (.int 0))), (e2 oIx (eV 3) (eK (.int 1)))]))))) (sIf (tB (e2 (d2 cEq) (eV 6) (eK (.str [115, 97, 121])))) (sX (m1 isL lAppend (eFld 0 [116, 114, 97, 99, 101] (eV 1)) (eN fTup [(eK (.str [115, 97, 121])), (eN (callP p_value_of) [(e2 oIx (eV 4) (eK (.int 1))), (eV 5)]), (e2 oIx (eV 3) (eK (.int 0))), (e2 oIx (eV 3) (eK (.int 1)))]))) (sIf (tB (e2 (d2 cEq) (eV 6) (eK (.str [110, 101, 101, 100])))) (sIf (tB (e2 (d2 cLe) (eN (callP p_value_of) [(e2 oIx (eV 4) (eK (.int 1))), (eV 5)]) (eK (.int 0)))) (sFldS 0 [102, 97, 117, 108, 116] (eV 1) (eN fTup [(eK (.str [110, 101, 101, 100])), (e2 oIx (eV 3) (eK (.int 0))), (e2 oIx (eV 3) (eK (.int 1))), (eK (.int 0))])) sSkip) (sIf (tB (e2 (d2 cEq) (eV 6) (eK (.str [97, 115, 107])))) (sSeq (sIf (tB (e2 (d2 cNin) (e2 oIx (eV 4) (eK (.int 1))) (eFld 0 [98, 101, 103, 117, 110] (eV 1)))) (sX (eMeth 0 [108, 111, 97, 100] m_Trail_load (eV 1) [(eMeth 1 [108, 111, 97, 100, 115, 95, 111, 102] m_PartsWalk_loads_of (eV 0) [(e2 oIx (eV 4) (eK (.int 1)))])])) sSkip) (m_PartsWalk_done_r1 n)) (sIf (tB (e2 (d2 cIn) (eV 6) (eN fTup [(eK (.str [98, 114, 105, 110, 103])), (eK (.str [100, 111]))]))) (sX (eMeth 1 [98, 101, 103, 105, 110] n (eV 0) [(eV 1), (e2 oIx (eV 4) (eK (.int 1)))])) sSkip)))))))
noncomputable def m_PartsWalk_begin_r1 (n : Fn) (e : Env) (s : Sto) : R O := (sIf (tB (e1 cNotN (eFld 0 [102, 97, 117, 108, 116] (eV 1)))) sRetN sSkip) e s
noncomputable def m_PartsWalk_begin_b1 (n : Fn) (e : Env) (s : Sto) : R O := (sKill [3, 4, 5, 6] (sSeq (sAsg (gN 6) (eMeth 1 [102, 111, 117, 110, 100, 95, 98, 121] m_PartsWalk_found_by (eV 0) [(eV 1), (eV 2), (eN fTup [(eV 3), (eV 4)]), (eV 5)])) (sSeq (sIf (tB (e1 cNotN (eV 6))) (sX (eMeth 1 [100, 111, 110, 101] (m_PartsWalk_done n) (eV 0) [(eV 1), (eV 2), (eN fTup [(eV 3), (eV 4)]), (eV 5), (eV 6)])) sSkip) (m_PartsWalk_begin_r1 n)))) e s
noncomputable def m_PartsWalk_begin_r2 (n : Fn) (e : Env) (s : Sto) : R O := (sSeq (sAsg (gSb (eFld 0 [98, 101, 103, 117, 110] (eV 1)) (eV 2)) (eK (.bl true))) (sFor (iSeq (eMeth 1 [114, 111, 119, 115, 95, 111, 102] m_PartsWalk_rows_of (eV 0) [(eV 2)])) (gT [(gN 3), (gN 4), (gN 5)]) (m_PartsWalk_begin_b1 n))) e s
def m_PartsWalk_begin_u := And.intro @m_PartsWalk_begin_r1.eq_1 (And.intro @m_PartsWalk_begin_b1.eq_1 (And.intro @m_PartsWalk_begin_r2.eq_1 True.intro))
noncomputable def m_PartsWalk_begin_s (n : Fn) : Fn := mkF 7 (sSeq (sIf (tB (e2 (d2 cIn) (eV 2) (eFld 0 [98, 101, 103, 117, 110] (eV 1)))) sRetN sSkip) (m_PartsWalk_begin_r2 n))
noncomputable def m_PartsWalk_begin : Nat → Fn
  | 0 => fun _ _ => .stuck
  | n + 1 => m_PartsWalk_begin_s (m_PartsWalk_begin n)
noncomputable def m_PartsWalk_go : Fn := mkF 4 (sSeq (sAsg (gN 3) (eMake 0 m_Trail___init__K [(eV 2)])) (sSeq (sX (eMeth 0 [108, 111, 97, 100] m_Trail_load (eV 3) [(eMeth 1 [108, 111, 97, 100, 115, 95, 111, 102] m_PartsWalk_loads_of (eV 0) [(eV 1)])])) (sSeq (sX (eMeth 0 [108, 111, 97, 100] m_Trail_load (eV 3) [(eMeth 1 [97, 104, 101, 97, 100, 95, 111, 102] m_PartsWalk_ahead_of (eV 0) [(eV 1)])])) (sSeq (sX (eMeth 1 [98, 101, 103, 105, 110] (m_PartsWalk_begin 30) (eV 0) [(eV 3), (eV 1)])) (sRet (eN fTup [(e1 bTup (eFld 0 [116, 114, 97, 99, 101] (eV 3))), (eFld 0 [102, 97, 117, 108, 116] (eV 3))]))))))
/-! ### the walk: the store of a run -/
structure Tr where
  tk : Nat
  kn : List ((Nm × Int) × Int)
  bg : List Nm
  tc : List D
  ft : D
def trF (t : Nat) (N : List Int) (tk : Nat) (ft : D) : List (List Nat × W) := [([110, 117, 109, 98, 101, 114, 115], .d (.tup (N.map .int))), ([116, 97, 107, 101, 110], .d (.int (tk : Nat))), ([107, 110, 111, 119, 110], .loc (t + 1)), ([98, 101, 103, 117, 110], .loc (t + 2)), ([108, 111, 97, 100, 101, 100], .loc (t + 3)), ([116, 114, 97, 99, 101], .loc (t + 4)), ([102, 97, 117, 108, 116], .d ft)]
section
variable (t : Nat) (N : List Int) (tk : Nat) (ft : D) (s : Sto)
theorem tf_num : fldW [110, 117, 109, 98, 101, 114, 115] (trF t N tk ft) s = .ok (.d (.tup (N.map .int)), s) := rfl
theorem tf_tk : fldW [116, 97, 107, 101, 110] (trF t N tk ft) s = .ok (.d (.int (tk : Nat)), s) := rfl
theorem tf_kn : fldW [107, 110, 111, 119, 110] (trF t N tk ft) s = .ok (.loc (t + 1), s) := rfl
theorem tf_bg : fldW [98, 101, 103, 117, 110] (trF t N tk ft) s = .ok (.loc (t + 2), s) := rfl
theorem tf_ld : fldW [108, 111, 97, 100, 101, 100] (trF t N tk ft) s = .ok (.loc (t + 3), s) := rfl
theorem tf_tc : fldW [116, 114, 97, 99, 101] (trF t N tk ft) s = .ok (.loc (t + 4), s) := rfl
theorem tf_ft : fldW [102, 97, 117, 108, 116] (trF t N tk ft) s = .ok (.d ft, s) := rfl
theorem tp_tk (i : Nat) : putB [116, 97, 107, 101, 110] (.d (.int (i : Nat))) (trF t N tk ft) = trF t N i ft := rfl
theorem tp_ft (g : D) : putB [102, 97, 117, 108, 116] (.d g) (trF t N tk ft) = trF t N tk g := rfl
theorem tl_len : (trF t N tk ft).length = 7 := rfl
theorem tm_take : ((trF t N tk ft).lookup [116, 97, 107, 101]).isNone = true := rfl
theorem tm_load : ((trF t N tk ft).lookup [108, 111, 97, 100]).isNone = true := rfl
end
def tfs := And.intro @tf_num (And.intro @tf_tk (And.intro @tf_kn (And.intro @tf_bg (And.intro @tf_ld (And.intro @tf_tc (And.intro @tf_ft (And.intro @tp_tk (And.intro @tp_ft (And.intro @tl_len (And.intro @tm_take (And.intro @tm_load True.intro)))))))))))
def TS (s0 : Sto) (N : List Int) (tk : Nat) (kn : List ((Nm × Int) × Int)) (bg : List Nm) (tc : List D) (ft : D) (u : Sto) : Sto := s0 ++ (.o 0 (trF s0.length N tk ft) :: .m true (dctE kSI .int kn) :: .m false (sD bg) :: .m false [] :: .l tc :: u)
section
variable (s0 : Sto) (N : List Int) (tk : Nat) (kn : List ((Nm × Int) × Int)) (bg : List Nm) (tc : List D) (ft : D) (u : Sto)
theorem ts_0 : (TS s0 N tk kn bg tc ft u)[s0.length]? = some (.o 0 (trF s0.length N tk ft)) := by unfold TS; simp
theorem ts_o : objO 0 (.loc s0.length) (TS s0 N tk kn bg tc ft u) = .ok (s0.length, trF s0.length N tk ft) := by unfold objO; simp only [ts_0]; rfl
theorem ts_w {a : Nat} {c : Nat} {fs : List (List Nat × W)} (h : s0[a]? = some (.o c fs)) : objO c (.loc a) (TS s0 N tk kn bg tc ft u) = .ok (a, fs) := by
  have h2 := (List.getElem?_eq_some_iff.mp h).1
  have : (TS s0 N tk kn bg tc ft u)[a]? = some (.o c fs) := by unfold TS; rw [List.getElem?_append_left h2]; exact h
  unfold objO; simp [this]
theorem app_at {α : Type} (l m : List α) (i : Nat) : (l ++ m)[l.length + i]? = m[i]? := by
  rw [List.getElem?_append_right (by omega)]; congr 1; omega
theorem ts_1 : (TS s0 N tk kn bg tc ft u)[s0.length + 1]? = some (.m true (dctE kSI .int kn)) := by unfold TS; rw [app_at]; rfl
theorem ts_2 : (TS s0 N tk kn bg tc ft u)[s0.length + 2]? = some (.m false (sD bg)) := by unfold TS; rw [app_at]; rfl
theorem ts_4 : (TS s0 N tk kn bg tc ft u)[s0.length + 4]? = some (.l tc) := by unfold TS; rw [app_at]; rfl
theorem ts_5 (c : C) : (TS s0 N tk kn bg tc ft (c :: u))[s0.length + 5]? = some c := by unfold TS; rw [app_at]; rfl
theorem app_set {α : Type} (l m : List α) (i : Nat) (x : α) : (l ++ m).set (l.length + i) x = l ++ m.set i x := by
  rw [List.set_append, if_neg (by omega), Nat.add_sub_cancel_left]
theorem tt_0 (tk2 : Nat) (ft2 : D) : (TS s0 N tk kn bg tc ft u).set s0.length (.o 0 (trF s0.length N tk2 ft2)) = TS s0 N tk2 kn bg tc ft2 u := by
  unfold TS; have := app_set s0 (.o 0 (trF s0.length N tk ft) :: .m true (dctE kSI .int kn) :: .m false (sD bg) :: .m false [] :: .l tc :: u) 0 (.o 0 (trF s0.length N tk2 ft2)); rw [Nat.add_zero] at this; rw [this]; rfl
theorem tt_1 (kn2 : List ((Nm × Int) × Int)) : (TS s0 N tk kn bg tc ft u).set (s0.length + 1) (.m true (dctE kSI .int kn2)) = TS s0 N tk kn2 bg tc ft u := by unfold TS; rw [app_set]; rfl
theorem tt_2 (bg2 : List Nm) : (TS s0 N tk kn bg tc ft u).set (s0.length + 2) (.m false (sD bg2)) = TS s0 N tk kn bg2 tc ft u := by unfold TS; rw [app_set]; rfl
theorem tt_4 (tc2 : List D) : (TS s0 N tk kn bg tc ft u).set (s0.length + 4) (.l tc2) = TS s0 N tk kn bg tc2 ft u := by unfold TS; rw [app_set]; rfl
theorem tt_5 (c c2 : C) : (TS s0 N tk kn bg tc ft (c :: u)).set (s0.length + 5) c2 = TS s0 N tk kn bg tc ft (c2 :: u) := by unfold TS; rw [app_set]; rfl
theorem ts_app (v : Sto) : TS s0 N tk kn bg tc ft u ++ v = TS s0 N tk kn bg tc ft (u ++ v) := by unfold TS; simp
theorem ts_len : (TS s0 N tk kn bg tc ft u).length = s0.length + 5 + u.length := by unfold TS; simp; omega
end
mutual
theorem cl_mono {m n : Nat} (h : m ≤ n) : ∀ w : W, cl m w = true → cl n w = true
  | .d _, _ => rfl
  | .loc k, e => by simp only [cl, decide_eq_true_eq] at e ⊢; omega
  | .tw l, e => cls_mono h l e
theorem cls_mono {m n : Nat} (h : m ≤ n) : ∀ l : List W, cls m l = true → cls n l = true
  | [], _ => rfl
  | w :: r, e => by
    simp only [cls, Bool.and_eq_true] at e ⊢
    exact ⟨cl_mono h w e.1, cls_mono h r e.2⟩
end
theorem clS_mono {m n : Nat} (h : m ≤ n) {s : Sto} (e : clS m s = true) : clS n s = true := by
  unfold clS at e ⊢
  rw [List.all_eq_true] at e ⊢
  intro c hc
  have := e c hc
  cases c <;> simp only [clC] at this ⊢ <;> exact cls_mono h _ this
theorem ts_cl {s0 : Sto} (h : clS s0.length s0 = true) (N : List Int) (tk : Nat) (kn : List ((Nm × Int) × Int)) (bg : List Nm) (tc : List D) (ft : D) : clS (TS s0 N tk kn bg tc ft []).length (TS s0 N tk kn bg tc ft []) = true := by
  rw [ts_len]
  have h1 := clS_mono (n := s0.length + 5 + ([] : Sto).length) (by omega) h
  unfold clS at h1 ⊢
  unfold TS
  rw [List.all_append, h1]
  simp [clC, trF, cls, cl]

/-! ### plain parts -/
def thV (th : List (Nm × Int)) : Th → Int
  | .num i => i | .nm z => (dGet th z).getD 0
def valT (th : List (Nm × Int)) (t : List (Int × Th)) : Int := t.foldl (fun a q => a + q.1 * thV th q.2) 0
theorem val_l (w0 : Option W) (th : List (Nm × Int)) : ∀ (t : List (Int × Th)) (a : Int), (∀ q ∈ t, small q.1 = true) → (∀ z ∈ nmsT t, (dGet th z).isSome = true) →
    loop (gT [gN 3, gN 4]) p_value_of_b1 (ws (t.map eTm)) [w0, ed (.dct false (dctE kS .int th)), ei a, e_, e_] [] = .ok (.nx [w0, ed (.dct false (dctE kS .int th)), ei (t.foldl (fun a q => a + q.1 * thV th q.2) a), e_, e_] [])
  | [], a, _, _ => rfl
  | (g, .num i) :: r, a, hs, hn => by
    have ih := val_l w0 th r (a + g * i) (fun q hq => hs q (List.mem_cons_of_mem _ hq)) hn
    have m := oMul_l g i (hs _ List.mem_cons_self)
    have e : ((g, Th.num i) :: r).foldl (fun a q => a + q.1 * thV th q.2) a = r.foldl (fun a q => a + q.1 * thV th q.2) (a + g * i) := rfl
    rw [e]
    simp_all! only [List.map_cons, loop_cz, eTm, eTh, p_value_of_b1, m, ih]
  | (g, .nm z) :: r, a, hs, hn => by
    have hz : (dGet th z).isSome = true := hn z (by unfold nmsT; rw [List.filterMap_cons]; exact List.mem_cons_self)
    obtain ⟨v, hv⟩ := Option.isSome_iff_exists.mp hz
    have ih := val_l w0 th r (a + g * v) (fun q hq => hs q (List.mem_cons_of_mem _ hq)) fun y hy => hn y (by unfold nmsT at hy ⊢; rw [List.filterMap_cons]; exact List.mem_cons_of_mem _ hy)
    have m := oMul_l g v (hs _ List.mem_cons_self)
    have e : ((g, Th.nm z) :: r).foldl (fun a q => a + q.1 * thV th q.2) a = r.foldl (fun a q => a + q.1 * thV th q.2) (a + g * v) := by
      show r.foldl _ (a + g * thV th (.nm z)) = _
      have : thV th (.nm z) = v := by show (dGet th z).getD 0 = v; rw [hv]; rfl
      rw [this]
    have ix := fun s => ixM_E (ev := D.int) keyS hv s
    rw [e]
    simp_all! only [List.map_cons, loop_cz, eTm, eTh, p_value_of_b1, m, ix, ih]
theorem p_value_of_c {th : List (Nm × Int)} {t : List (Int × Th)} (hs : ∀ q ∈ t, small q.1 = true) (hn : ∀ z ∈ nmsT t, (dGet th z).isSome = true) (s : Sto) :
    callP p_value_of [.d (.tup (t.map eTm)), .d (.dct false (dctE kS .int th))] s = .ok (.d (.int (valT th t)), s) := by
  have L := val_l (ed (.tup (t.map eTm))) th t 0 hs hn
  have e : valT th t = t.foldl (fun a q => a + q.1 * thV th q.2) 0 := rfl
  rw [e]
  simp_all! only [p_value_of, p_value_of_r1, L]
def whR : Row → Option Nm
  | .say _ w => w | .ask _ w => w | _ => none
theorem p_when_of_c (r : Row) (s : Sto) : callP p_when_of [.d (eRow r)] s = .ok (.d (eOn (whR r)), s) := by
  cases r <;> simp_all! only [p_when_of, p_when_of_r1, eRow, whR, eOn]
/-- the rows, each with its number -/
def numR (rs : List Row) : List (Nat × Row) := (List.range rs.length).map fun i => (i, rs.getD i (.take []))
def eNR (x : Nm) (p : Nat × Row) : D := .tup [.str x, .int (p.1 : Nat), eRow p.2]
theorem rows_l (w0 : Option W) (x : Nm) (S : Sto) : ∀ P : List Part, (∀ p ∈ P, p.2.length ≤ 1000) → loop (gT [gN 2, gN 3]) m_PartsWalk_rows_of_b1 (ws (ePs P)) [w0, es x, e_, e_, e_] S = match P.find? (fun p => decide (p.1 = x)) with
    | some p => .ok (.rt (.d (.tup ((numR p.2).map (eNR x)))) S) | none => .ok (.nx [w0, es x, e_, e_, e_] S)
  | [], _ => rfl
  | p :: P, h => by
    have ih := rows_l w0 x S P fun q hq => h q (List.mem_cons_of_mem _ hq)
    have hl := h p List.mem_cons_self
    have e : ws (ePs (p :: P)) = .d (ePart p) :: ws (ePs P) := rfl
    rw [List.find?_cons, e]
    by_cases c : p.1 = x
    · have nn : ((p.2.length : Nat) : Int).toNat = p.2.length := by omega
      have C := fun (w0 : Option W) s => comp_all (gN 4) m_PartsWalk_rows_of_c1 [4] [w0, es x, es x, ed (.tup (p.2.map eRow)), e_] s (fun i : Nat => .d (.int (i : Nat))) (fun i => eNR x (i, p.2.getD i (.take []))) (List.range p.2.length) fun i hi => by
        have hi := List.mem_range.mp hi
        have ix := fun s => ixW_map (.take []) eRow p.2 (i := ((i : Nat) : Int)) ⟨by omega, by omega⟩ s
        simp only [Int.toNat_natCast] at ix
        exact ⟨_, rfl, by simp_all! only [m_PartsWalk_rows_of_c1, ix, eNR]⟩
      have rE : rng 0 p.2.length = (List.range p.2.length).map fun i => W.d (.int ((i : Nat) : Int)) := by rw [rng_map]; simp
      rw [← rE] at C
      have eN : ((List.range p.2.length).map fun i => eNR x (i, p.2.getD i (.take []))) = (numR p.2).map (eNR x) := by unfold numR; rw [List.map_map]; rfl
      rw [eN] at C
      have hd : decide (p.1 = x) = true := decide_eq_true c
      simp_all! only [loop_cz, ePart, m_PartsWalk_rows_of_b1, c, hd, List.length_map, nn, C]
    · have hd : decide (p.1 = x) = false := decide_eq_false c
      simp_all! only [loop_cz, ePart, m_PartsWalk_rows_of_b1, c, hd, ih]


section
variable {s0 : Sto} {a : Nat} {X : D} {P : List Part} (hA : s0[a]? = some (.o 1 [([112, 97, 114, 116, 115], .d X)])) (hcl : clS s0.length s0 = true) (hX : SeqD X (ePs P)) (N : List Int)
include hA hcl
theorem m_rows_of_c (hX : SeqD X (ePs P)) (hP : ∀ p ∈ P, p.2.length ≤ 1000) (x : Nm) (tk : Nat) (kn : List ((Nm × Int) × Int)) (bg : List Nm) (tc : List D) (ft : D) :
    m_PartsWalk_rows_of [.loc a, .d (.str x)] (TS s0 N tk kn bg tc ft []) = .ok (.d (.tup ((numR (rowsOf P x)).map (eNR x))), TS s0 N tk kn bg tc ft []) := by
  have ow := ts_w s0 N tk kn bg tc ft [] hA
  have fp := fun (s : Sto) => fldW_h [112, 97, 114, 116, 115] (.d X) [] s
  have L := rows_l (some (.loc a)) x (TS s0 N tk kn bg tc ft []) P hP
  refine mkF_x (t := []) [some (.loc a), es x, e_, e_, e_] rfl ?_ rfl (ts_cl hcl N tk kn bg tc ft)
  rw [List.append_nil]
  unfold rowsOf
  cases e : P.find? (fun p => decide (p.1 = x)) with
  | none =>
    rw [e] at L
    rcases hX with hX | hX <;> subst hX <;> simp_all! only [ob0, ow, fp, L, m_PartsWalk_rows_of_r1] <;> rfl
  | some p =>
    rw [e] at L
    rcases hX with hX | hX <;> subst hX <;> simp_all! only [ob0, ow, fp, L]
theorem m_key_of_c {x z : Nm} {k : Nm × Int} (hk : ∀ s, callP p_maker [.d X, .d (.str x), .d (.str z)] s = .ok (.d (kSI k), s)) (tk : Nat) (kn : List ((Nm × Int) × Int)) (bg : List Nm) (tc : List D) (ft : D) (u : Sto) (hu : clS (TS s0 N tk kn bg tc ft u).length (TS s0 N tk kn bg tc ft u) = true) :
    m_PartsWalk_key_of [.loc a, .d (.str x), .d (.str z)] (TS s0 N tk kn bg tc ft u) = .ok (.d (kSI k), TS s0 N tk kn bg tc ft u) := by
  have ow := ts_w s0 N tk kn bg tc ft u hA
  have fp := fun (s : Sto) => fldW_h [112, 97, 114, 116, 115] (.d X) [] s
  refine mkF_x (t := []) [some (.loc a), es x, es z] rfl ?_ rfl hu
  rw [List.append_nil]
  simp_all! only [ob0, ow, fp, hk]
end
theorem m_loads_c (w w2 : W) (s : Sto) (hc : clS s.length s = true) : m_PartsWalk_loads_of [w, w2] s = .ok (.d (.tup []), s) :=
  mkF_x (t := []) [some w, some w2] rfl (by rw [List.append_nil]; simp_all! only [] <;> rfl) rfl hc
theorem m_ahead_c (w w2 : W) (s : Sto) (hc : clS s.length s = true) : m_PartsWalk_ahead_of [w, w2] s = .ok (.d (.tup []), s) :=
  mkF_x (t := []) [some w, some w2] rfl (by rw [List.append_nil]; simp_all! only [] <;> rfl) rfl hc
theorem m_load_c (w : W) (s : Sto) (hc : clS s.length s = true) : m_Trail_load [w, .d (.tup [])] s = .ok (.d .non, s) :=
  mkF_x (t := []) [some w, ed (.tup []), none] rfl (by rw [List.append_nil]; simp_all! only []) rfl hc
theorem m_take_c {s0 : Sto} (hcl : clS s0.length s0 = true) (N : List Int) (tk : Nat) (kn : List ((Nm × Int) × Int)) (bg : List Nm) (tc : List D) (ft : D) :
    m_Trail_take [.loc s0.length] (TS s0 N tk kn bg tc ft []) = .ok (.d (.int (N.getD tk 0)), TS s0 N (if tk < N.length then tk + 1 else tk) kn bg tc ft []) := by
  have ow := fun tk => ts_o s0 N tk kn bg tc ft []
  by_cases c : tk < N.length
  · rw [if_pos c]
    refine mkF_x (t := []) [some (.loc s0.length)] rfl ?_ (by rw [ts_len, ts_len]) (ts_cl hcl N _ kn bg tc ft)
    rw [List.append_nil]
    have fa := fun (e : Env) (he : e = [some (.loc s0.length)]) => sFldA_r (c := 0) (f := [116, 97, 107, 101, 110]) (a := eV 0) (v := eK (.int 1)) (e := e) (s := TS s0 N tk kn bg tc ft []) (o := .loc s0.length) (by subst he; rfl) (ow tk) (tf_tk _ _ _ _ _) rfl (by rw [tl_len]; decide)
    have fa := fa _ rfl
    have e1 : ((tk : Nat) : Int) + 1 = ((tk + 1 : Nat) : Int) := by omega
    rw [e1, tp_tk, tt_0] at fa
    have e2 : (((tk + 1 : Nat) : Int) - 1) = ((tk : Nat) : Int) := by omega
    have ix := fun s => ixW_map 0 D.int N (i := ((tk : Nat) : Int)) ⟨by omega, by omega⟩ s
    simp only [Int.toNat_natCast] at ix
    have c2 : ¬ ((N.length : Nat) : Int) ≤ ((tk : Nat) : Int) := by omega
    simp_all! only [ob0, ow, tfs, List.length_map, c2, m_Trail_take_r1, fa, e2, ix]
  · rw [if_neg c]
    refine mkF_x (t := []) [some (.loc s0.length)] rfl ?_ rfl (ts_cl hcl N _ kn bg tc ft)
    rw [List.append_nil]
    have c2 : ((N.length : Nat) : Int) ≤ ((tk : Nat) : Int) := by omega
    have e : N.getD tk 0 = 0 := by rw [List.getD_eq_getElem?_getD, List.getElem?_eq_none (by omega)]; rfl
    rw [e]
    simp_all! only [ob0, ow, tfs, List.length_map, c2]

/-! ### the values that a row finds -/
inductive Fd where
  | early (w : Int) | no | yes (th : List (Nm × Int))
def fdL (key : Nm → Nm × Int) (kn : List ((Nm × Int) × Int)) (wh : Option Nm) : List (Int × Nm) → List (Nm × Int) → Fd
  | [], th => .yes th
  | (w, z) :: l, th => match dGet kn (key z) with
    | none => .early w
    | some v => if wh = some z ∧ v ≤ 0 then .no else fdL key kn wh l (dPut th z v)
def ftE (x : Nm) (k : Nat) (w : Int) : D := .tup [.str [101, 97, 114, 108, 121], .str x, .int (k : Nat), .int w]
def ftN (x : Nm) (k : Nat) : D := .tup [.str [110, 101, 101, 100], .str x, .int (k : Nat), .int 0]
theorem cEq_onR (z : Nm) (w : Option Nm) : cEq (.str z) (eOn w) = .ok (.bl (decide (w = some z))) := by
  cases w with
  | none => rfl
  | some y =>
    show cEq (.str z) (.str y) = _
    rw [cEq_s]
    by_cases h : z = y <;> simp [h, eq_comm]
section
variable {s0 : Sto} {a : Nat} {X : D} {P : List Part} (hA : s0[a]? = some (.o 1 [([112, 97, 114, 116, 115], .d X)])) (hcl : clS s0.length s0 = true) (N : List Int)
include hA hcl
theorem ts_clm (N : List Int) (tk : Nat) (kn : List ((Nm × Int) × Int)) (bg : List Nm) (tc : List D) (ft : D) (k : Bool) (l : List (D × D)) : clS (TS s0 N tk kn bg tc ft [.m k l]).length (TS s0 N tk kn bg tc ft [.m k l]) = true := by
  have h1 := clS_mono (n := s0.length + 5 + 1) (by omega) hcl
  rw [ts_len]
  show clS (s0.length + 5 + 1) _ = true
  unfold clS at h1 ⊢
  unfold TS
  rw [List.all_append, h1]
  simp [clC, trF, cls, cl]
theorem fd_l (x : Nm) (key : Nm → Nm × Int) (d : D) (k : Nat) (tk : Nat) (kn : List ((Nm × Int) × Int)) (bg : List Nm) (tc : List D) (ft : D) (wh : Option Nm) : ∀ (l : List (Int × Nm)) (th : List (Nm × Int)), (∀ q ∈ l, ∀ s, callP p_maker [.d X, .d (.str x), .d (.str q.2)] s = .ok (.d (kSI (key q.2)), s)) → th.length + l.length ≤ 1000 → ∃ u,
    loop (gT [gN 7, gN 8]) m_PartsWalk_found_by_b1 (ws (l.map ePN)) [some (.loc a), some (.loc s0.length), es x, ed (.tup [.str x, .int (k : Nat)]), ed d, some (.loc (s0.length + 5)), ed (eOn wh), e_, e_, e_] (TS s0 N tk kn bg tc ft [.m false (dctE kS .int th)]) = match fdL key kn wh l th with
      | .early w => .ok (.rt (.d .non) (TS s0 N tk kn bg tc (ftE x k w) u))
      | .no => .ok (.rt (.d .non) (TS s0 N tk kn bg tc ft u))
      | .yes th => .ok (.nx [some (.loc a), some (.loc s0.length), es x, ed (.tup [.str x, .int (k : Nat)]), ed d, some (.loc (s0.length + 5)), ed (eOn wh), e_, e_, e_] (TS s0 N tk kn bg tc ft [.m false (dctE kS .int th)]))
  | [], th, _, _ => ⟨[], rfl⟩
  | (w, z) :: l, th, hk, hl => by
    have ow := fun l => ts_w s0 N tk kn bg tc ft [.m false (dctE kS .int l)] hA
    have oo := fun tk kn bg tc ft u => ts_o s0 N tk kn bg tc ft u
    have o1 := fun tk kn bg tc ft u => ts_1 s0 N tk kn bg tc ft u
    have o5 := fun tk kn bg tc ft u c => ts_5 s0 N tk kn bg tc ft u c
    have t0 := fun tk kn bg tc ft u tk2 ft2 => tt_0 s0 N tk kn bg tc ft u tk2 ft2
    have t5 := fun tk kn bg tc ft u c c2 => tt_5 s0 N tk kn bg tc ft u c c2
    have K := m_key_of_c hA hcl N (hk (w, z) List.mem_cons_self) tk kn bg tc ft [.m false (dctE kS .int th)] (ts_clm hA hcl N tk kn bg tc ft false _)
    have ni := cNin_E (ev := D.int) keySI kn (key z)
    have hl2 : th.length < 16777216 := by simp only [List.length_cons] at hl; omega
    have lk : (([([112, 97, 114, 116, 115], W.d X)] : List (List Nat × W)).lookup [107, 101, 121, 95, 111, 102]).isNone = true := rfl
    cases e : dGet kn (key z) with
    | none =>
      refine ⟨[.m false (dctE kS .int th)], ?_⟩
      have ef : fdL key kn wh ((w, z) :: l) th = .early w := by rw [fdL, e]
      rw [ef]
      rw [e] at ni
      simp only [Option.isSome_none, Bool.not_false] at ni
      simp_all! only [List.map_cons, loop_cz, ePN, m_PartsWalk_found_by_b1, ob0, ow, oo, o1, o5, t0, tfs, lk, K, ni, ftE]
    | some v =>
      obtain ⟨u, ih⟩ := fd_l x key d k tk kn bg tc ft wh l (dPut th z v) (fun q hq => hk q (List.mem_cons_of_mem _ hq)) (by have := dPut_len th z v; simp only [List.length_cons] at hl; omega)
      rw [e] at ni
      simp only [Option.isSome_some, Bool.not_true] at ni
      have ix := fun s => ixM_E (ev := D.int) keySI e s
      have sm := setM_E (ev := D.int) keyS (o5 tk kn bg tc ft [] (.m false (dctE kS .int th))) hl2 z v
      have ix2 := fun s => ixM_E (ev := D.int) keyS (L := dPut th z v) (k := z) (v := v) (by rw [dGet_put, if_pos rfl]) s
      rw [t5] at sm
      have ce := cEq_onR z wh
      by_cases c : wh = some z
      · have ce2 : cEq (.str z) (eOn (some z)) = .ok (.bl true) := by rw [cEq_onR]; simp
        by_cases c2 : v ≤ 0
        · refine ⟨[.m false (dctE kS .int (dPut th z v))], ?_⟩
          have ef : fdL key kn wh ((w, z) :: l) th = .no := by rw [fdL, e]; simp only; rw [if_pos ⟨c, c2⟩]
          rw [ef]
          clear ce
          subst c
          simp_all! only [List.map_cons, loop_cz, ePN, m_PartsWalk_found_by_b1, m_PartsWalk_found_by_r1, ob0, ow, oo, o1, o5, t0, tfs, lk, K, ni, ix, sm, ix2, ce2, c2]
        · refine ⟨u, ?_⟩
          have ef : fdL key kn wh ((w, z) :: l) th = fdL key kn wh l (dPut th z v) := by rw [fdL, e]; simp only; rw [if_neg (fun h => c2 h.2)]
          rw [ef, ← ih]
          clear ce
          subst c
          simp_all! only [List.map_cons, loop_cz, ePN, m_PartsWalk_found_by_b1, m_PartsWalk_found_by_r1, ob0, ow, oo, o1, o5, t0, tfs, lk, K, ni, ix, sm, ix2, ce2, c2]
      · refine ⟨u, ?_⟩
        have ef : fdL key kn wh ((w, z) :: l) th = fdL key kn wh l (dPut th z v) := by rw [fdL, e]; simp only; rw [if_neg (fun h => c h.1)]
        rw [ef, ← ih]
        simp_all! only [List.map_cons, loop_cz, ePN, m_PartsWalk_found_by_b1, m_PartsWalk_found_by_r1, ob0, ow, oo, o1, o5, t0, tfs, lk, K, ni, ix, sm, ix2, ce, c]
theorem m_found_c {x : Nm} {key : Nm → Nm × Int} {r : Row} (hk : ∀ q ∈ rdN r, ∀ s, callP p_maker [.d X, .d (.str x), .d (.str q.2)] s = .ok (.d (kSI (key q.2)), s)) (ht : (tmL r).length ≤ 100) (hrn : (rdN r).length ≤ 1000) (k : Nat) (tk : Nat) (kn : List ((Nm × Int) × Int)) (bg : List Nm) (tc : List D) (ft : D) :
    m_PartsWalk_found_by [.loc a, .loc s0.length, .d (.str x), .d (.tup [.str x, .int (k : Nat)]), .d (eRow r)] (TS s0 N tk kn bg tc ft []) = match fdL key kn (whR r) (rdN r) [] with
      | .early w => .ok (.d .non, TS s0 N tk kn bg tc (ftE x k w) [])
      | .no => .ok (.d .non, TS s0 N tk kn bg tc ft [])
      | .yes th => .ok (.d (.dct false (dctE kS .int th)), TS s0 N tk kn bg tc ft []) := by
  obtain ⟨u, L⟩ := fd_l hA hcl N x key (eRow r) k tk kn bg tc ft (whR r) (rdN r) [] hk (by simpa using hrn)
  have W := fun s => p_when_of_c r s
  have Rn := fun s => p_read_names_c r ht s
  have sl : (TS s0 N tk kn bg tc ft []).length = s0.length + 5 := by rw [ts_len]; rfl
  have ea : TS s0 N tk kn bg tc ft [] ++ [.m false []] = TS s0 N tk kn bg tc ft [.m false (dctE kS .int [])] := by rw [ts_app]; rfl
  have en0 : start 10 [.loc a, .loc s0.length, .d (.str x), .d (.tup [.str x, .int (k : Nat)]), .d (eRow r)] = [some (.loc a), some (.loc s0.length), es x, ed (.tup [.str x, .int (k : Nat)]), ed (eRow r), e_, e_, e_, e_, e_] := rfl
  generalize hY : (eRow r) = Y at *
  generalize hZ : (rdN r).map ePN = Z at *
  cases e : fdL key kn (whR r) (rdN r) [] with
  | early w =>
    rw [e] at L
    refine mkF_x (t := u) _ en0 ?_ (by rw [ts_len, ts_len]) (ts_cl hcl N tk kn bg tc (ftE x k w))
    have ea2 : TS s0 N tk kn bg tc (ftE x k w) [] ++ u = TS s0 N tk kn bg tc (ftE x k w) u := by rw [ts_app]; rfl
    rw [ea2]
    simp_all! only [W, Rn, sl, ea, L]
  | no =>
    rw [e] at L
    refine mkF_x (t := u) _ en0 ?_ rfl (ts_cl hcl N tk kn bg tc ft)
    have ea2 : TS s0 N tk kn bg tc ft [] ++ u = TS s0 N tk kn bg tc ft u := by rw [ts_app]; rfl
    rw [ea2]
    simp_all! only [W, Rn, sl, ea, L]
  | yes th =>
    rw [e] at L
    refine mkF_xm _ en0 ?_ rfl (ts_cl hcl N tk kn bg tc ft)
    have ea2 : TS s0 N tk kn bg tc ft [] ++ [.m false (dctE kS .int th)] = TS s0 N tk kn bg tc ft [.m false (dctE kS .int th)] := by rw [ts_app]; rfl
    rw [ea2, sl]
    simp_all! only [W, Rn, sl, ea, L, m_PartsWalk_found_by_r2]
end


/-! ### a row done -/
theorem lkP {m : List Nat} {w : W} (h : (m == [112, 97, 114, 116, 115]) = false) : (([([112, 97, 114, 116, 115], w)] : List (List Nat × W)).lookup m).isNone = true := by
  rw [List.lookup_cons, h]; rfl
def tkE (v : Int) (x : Nm) (k : Nat) : D := .tup [.str [116, 97, 107, 101], .int v, .str x, .int (k : Nat)]
def sayE (v : Int) (x : Nm) (k : Nat) : D := .tup [.str [115, 97, 121], .int v, .str x, .int (k : Nat)]
def doF (beg : Nm → Tr → Tr) (key : Nm → Nm × Int) (N : List Int) (x : Nm) (k : Nat) (r : Row) (th : List (Nm × Int)) (st : Tr) : Tr := match r with
  | .set o t => ⟨st.tk, dPut st.kn (key o) (valT th t), st.bg, st.tc, st.ft⟩
  | .take o => ⟨if st.tk < N.length then st.tk + 1 else st.tk, dPut st.kn (key o) (N.getD st.tk 0), st.bg, st.tc ++ [tkE (N.getD st.tk 0) x k], st.ft⟩
  | .say t _ => ⟨st.tk, st.kn, st.bg, st.tc ++ [sayE (valT th t) x k], st.ft⟩
  | .need t => if valT th t ≤ 0 then ⟨st.tk, st.kn, st.bg, st.tc, ftN x k⟩ else st
  | .ask y _ => beg y st
  | .bring y _ => beg y st
  | .doo y => beg y st
  | _ => st
def rowF (beg : Nm → Tr → Tr) (key : Nm → Nm × Int) (N : List Int) (x : Nm) (k : Nat) (r : Row) (st : Tr) : Tr := match fdL key st.kn (whR r) (rdN r) [] with
  | .early w => ⟨st.tk, st.kn, st.bg, st.tc, ftE x k w⟩
  | .no => st
  | .yes th => doF beg key N x k r th st
def rowsF (beg : Nm → Tr → Tr) (key : Nm → Nm × Int) (N : List Int) (x : Nm) : List (Nat × Row) → Tr → Tr
  | [], st => st
  | (k, r) :: l, st => if isN (rowF beg key N x k r st).ft = true then rowsF beg key N x l (rowF beg key N x k r st) else rowF beg key N x k r st
def begF (P : List Part) (key : Nm → Nm → Nm × Int) (N : List Int) : Nat → Nm → Tr → Tr
  | 0, _, st => st
  | n + 1, x, st => if x ∈ st.bg then st else rowsF (begF P key N n) (key x) N x (numR (rowsOf P x)) ⟨st.tk, st.kn, st.bg ++ [x], st.tc, st.ft⟩
abbrev TT (s0 : Sto) (N : List Int) (st : Tr) : Sto := TS s0 N st.tk st.kn st.bg st.tc st.ft []
def tgt : Row → Option Nm
  | .ask y _ => some y | .bring y _ => some y | .doo y => some y | _ => none
structure RowK (X : D) (x : Nm) (key : Nm → Nm × Int) (r : Row) : Prop where
  len : (tmL r).length ≤ 100
  sg : ∀ q ∈ tmL r, small q.1 = true
  kr : ∀ q ∈ rdN r, ∀ s, callP p_maker [.d X, .d (.str x), .d (.str q.2)] s = .ok (.d (kSI (key q.2)), s)
  km : ∀ z, mkT r = some z → ∀ s, callP p_maker [.d X, .d (.str x), .d (.str z)] s = .ok (.d (kSI (key z)), s)
theorem rdN_len (r : Row) : (rdN r).length ≤ (tmL r).length + 1 := by
  cases r with
  | set o t => have := sumN_len t 3; simp only [rdN, tmL]; omega
  | need t => have := sumN_len t 1; simp only [rdN, tmL]; omega
  | say t w =>
    have := sumN_len t 1
    cases w with
    | none => simp only [rdN, tmL]; omega
    | some z => simp only [rdN, tmL, List.length_cons]; omega
  | ask p w => cases w <;> simp [rdN]
  | _ => simp [rdN]
theorem rdN_nms (r : Row) : ∀ z ∈ nmsT (tmL r), z ∈ (rdN r).map (·.2) := fun z hz => by
  cases r with
  | set o t => simp only [rdN]; rw [sumN_nms]; exact hz
  | need t => simp only [rdN]; rw [sumN_nms]; exact hz
  | say t w =>
    cases w with
    | none => simp only [rdN]; rw [sumN_nms]; exact hz
    | some y => simp only [rdN, List.map_cons]; rw [sumN_nms]; exact List.mem_cons_of_mem _ hz
  | _ => cases hz
theorem fdL_yes (key : Nm → Nm × Int) (kn : List ((Nm × Int) × Int)) (wh : Option Nm) : ∀ (l : List (Int × Nm)) (th0 th : List (Nm × Int)), fdL key kn wh l th0 = .yes th →
    (∀ q ∈ l, dGet th q.2 = dGet kn (key q.2) ∧ (dGet th q.2).isSome = true) ∧ ∀ z, z ∉ l.map (·.2) → dGet th z = dGet th0 z
  | [], th0, th, h => by
    cases h; exact ⟨fun q hq => (by cases hq), fun _ _ => rfl⟩
  | (w, z) :: l, th0, th, h => by
    rw [fdL] at h
    cases e : dGet kn (key z) with
    | none => rw [e] at h; cases h
    | some v =>
      rw [e] at h
      simp only at h
      by_cases c : wh = some z ∧ v ≤ 0
      · rw [if_pos c] at h; cases h
      · rw [if_neg c] at h
        obtain ⟨h1, h2⟩ := fdL_yes key kn wh l _ th h
        have hz : dGet th z = some v := by
          by_cases d : z ∈ l.map (·.2)
          · obtain ⟨q, hq, rfl⟩ := List.mem_map.mp d
            rw [(h1 q hq).1, e]
          · rw [h2 z d, dGet_put, if_pos rfl]
        refine ⟨fun q hq => ?_, fun y hy => ?_⟩
        · rcases List.mem_cons.mp hq with rfl | hq
          · exact ⟨by rw [hz, e], by rw [hz]; rfl⟩
          · exact h1 q hq
        · rw [List.map_cons, List.mem_cons, not_or] at hy
          rw [h2 y hy.2, dGet_put, if_neg hy.1]
section
variable {s0 : Sto} {a : Nat} {X : D} {P : List Part} (hA : s0[a]? = some (.o 1 [([112, 97, 114, 116, 115], .d X)])) (hcl : clS s0.length s0 = true) (N : List Int)
include hA hcl
theorem m_done_c (n : Fn) (beg : Nm → Tr → Tr) {x : Nm} {key : Nm → Nm × Int} {r : Row} (hr : RowK X x key r) (k : Nat) (th : List (Nm × Int)) (hth : ∀ z ∈ nmsT (tmL r), (dGet th z).isSome = true) (st : Tr) (hkl : st.kn.length < 16777216) (htl : st.tc.length < 16777216)
    (hn : ∀ y, tgt r = some y → n [.loc a, .loc s0.length, .d (.str y)] (TT s0 N st) = .ok (.d .non, TT s0 N (beg y st))) :
    m_PartsWalk_done n [.loc a, .loc s0.length, .d (.str x), .d (.tup [.str x, .int (k : Nat)]), .d (eRow r), .d (.dct false (dctE kS .int th))] (TT s0 N st) = .ok (.d .non, TT s0 N (doF beg key N x k r th st)) := by
  have en0 : start 8 [.loc a, .loc s0.length, .d (.str x), .d (.tup [.str x, .int (k : Nat)]), .d (eRow r), .d (.dct false (dctE kS .int th))] = [some (.loc a), some (.loc s0.length), es x, ed (.tup [.str x, .int (k : Nat)]), ed (eRow r), ed (.dct false (dctE kS .int th)), e_, e_] := rfl
  refine mkF_x (t := []) _ en0 ?_ (by rw [ts_len, ts_len]) (ts_cl hcl N _ _ _ _ _)
  rw [List.append_nil]
  obtain ⟨tk, kn, bg, tc, ft⟩ := st
  have ow := fun tk kn bg tc ft u => ts_w s0 N tk kn bg tc ft u hA
  have oo := fun tk kn bg tc ft u => ts_o s0 N tk kn bg tc ft u
  have o1 := fun tk kn bg tc ft u => ts_1 s0 N tk kn bg tc ft u
  have o2 := fun tk kn bg tc ft u => ts_2 s0 N tk kn bg tc ft u
  have o4 := fun tk kn bg tc ft u => ts_4 s0 N tk kn bg tc ft u
  have t0 := fun tk kn bg tc ft u tk2 ft2 => tt_0 s0 N tk kn bg tc ft u tk2 ft2
  have t4 := fun tk kn bg tc ft u tc2 => tt_4 s0 N tk kn bg tc ft u tc2
  have V := fun s => p_value_of_c (th := th) hr.sg hth s
  have hkl : kn.length < 16777216 := hkl
  have htl : tc.length < 16777216 := htl
  have hcl2 := fun tk kn bg tc ft => ts_cl hcl N tk kn bg tc ft
  have K := fun z (h : mkT r = some z) tk kn bg tc ft => m_key_of_c hA hcl N (hr.km z h) tk kn bg tc ft [] (hcl2 tk kn bg tc ft)
  have SM := fun tk kn bg tc ft u (h : kn.length < 16777216) k v => setM_E (ev := D.int) keySI (ts_1 s0 N tk kn bg tc ft u) h k v
  simp only [tt_1] at SM
  have ld := fun tk kn bg tc ft w w2 => m_loads_c w w2 (TS s0 N tk kn bg tc ft []) (hcl2 tk kn bg tc ft)
  have lo := fun tk kn bg tc ft w => m_load_c w (TS s0 N tk kn bg tc ft []) (hcl2 tk kn bg tc ft)
  cases r with
  | set o t =>
    have K := K o rfl
    have e : TT s0 N (doF beg key N x k (.set o t) th ⟨tk, kn, bg, tc, ft⟩) = TS s0 N tk (dPut kn (key o) (valT th t)) bg tc ft [] := rfl
    have SM := SM tk kn bg tc ft [] hkl (key o) (valT th t)
    rw [e]
    simp only [eRow, tmL] at V ⊢
    simp_all! only [ob0, ow, oo, o1, tfs, lkP, V, K, SM]
  | take o =>
    have K := K o rfl
    have T := m_take_c hcl N tk kn bg tc ft
    have e : TT s0 N (doF beg key N x k (.take o) th ⟨tk, kn, bg, tc, ft⟩) = TS s0 N (if tk < N.length then tk + 1 else tk) (dPut kn (key o) (N.getD tk 0)) bg (tc ++ [tkE (N.getD tk 0) x k]) ft [] := rfl
    generalize (if tk < N.length then tk + 1 else tk) = tk' at T e
    generalize N.getD tk 0 = v at T e
    have SM := SM tk' kn bg tc ft [] hkl (key o) v
    rw [e]
    simp only [eRow, tmL, tkE] at V ⊢
    simp_all! only [ob0, ow, oo, o1, o4, t4, tfs, lkP, V, K, SM, T, wl]
  | say t w =>
    have e : TT s0 N (doF beg key N x k (.say t w) th ⟨tk, kn, bg, tc, ft⟩) = TS s0 N tk kn bg (tc ++ [sayE (valT th t) x k]) ft [] := rfl
    rw [e]
    simp only [eRow, tmL, sayE] at V ⊢
    simp_all! only [ob0, ow, oo, o1, o4, t4, tfs, lkP, V, wl]
  | need t =>
    by_cases c : valT th t ≤ 0
    · have e : TT s0 N (doF beg key N x k (.need t) th ⟨tk, kn, bg, tc, ft⟩) = TS s0 N tk kn bg tc (ftN x k) [] := by
        unfold TT doF; simp only [if_pos c]
      rw [e]
      simp only [eRow, tmL, ftN] at V ⊢
      simp_all! only [ob0, ow, oo, o1, t0, tfs, lkP, V, c]
    · have e : TT s0 N (doF beg key N x k (.need t) th ⟨tk, kn, bg, tc, ft⟩) = TS s0 N tk kn bg tc ft [] := by
        unfold TT doF; simp only [if_neg c]
      rw [e]
      simp only [eRow, tmL, ftN] at V ⊢
      simp_all! only [ob0, ow, oo, o1, t0, tfs, lkP, V, c]
  | ask y w =>
    have hn := hn y rfl
    have e : doF beg key N x k (.ask y w) th ⟨tk, kn, bg, tc, ft⟩ = beg y ⟨tk, kn, bg, tc, ft⟩ := rfl
    have ci := cNin_sD bg y
    rw [e]
    generalize beg y ⟨tk, kn, bg, tc, ft⟩ = st2 at hn ⊢
    simp only [eRow] at V ⊢
    by_cases c : y ∈ bg
    · simp_all! only [ob0, ow, oo, o2, tfs, lkP, m_PartsWalk_done_r1, ci, c, hn]
    · simp_all! only [ob0, ow, oo, o2, tfs, lkP, m_PartsWalk_done_r1, ci, c, hn, ld, lo]
  | bring y ps =>
    have hn := hn y rfl
    have e : doF beg key N x k (.bring y ps) th ⟨tk, kn, bg, tc, ft⟩ = beg y ⟨tk, kn, bg, tc, ft⟩ := rfl
    have ci := cIn_strsT [98, 114, 105, 110, 103] [[98, 114, 105, 110, 103], [100, 111]]
    simp only [List.map_cons, List.map_nil] at ci
    rw [e]
    generalize beg y ⟨tk, kn, bg, tc, ft⟩ = st2 at hn ⊢
    simp only [eRow] at V ⊢
    simp_all! only [ob0, ow, oo, o2, tfs, lkP, ci, hn]
  | doo y =>
    have hn := hn y rfl
    have e : doF beg key N x k (.doo y) th ⟨tk, kn, bg, tc, ft⟩ = beg y ⟨tk, kn, bg, tc, ft⟩ := rfl
    have ci := cIn_strsT [100, 111] [[98, 114, 105, 110, 103], [100, 111]]
    simp only [List.map_cons, List.map_nil] at ci
    rw [e]
    generalize beg y ⟨tk, kn, bg, tc, ft⟩ = st2 at hn ⊢
    simp only [eRow] at V ⊢
    simp_all! only [ob0, ow, oo, o2, tfs, lkP, ci, hn]
  | give o g =>
    have e : doF beg key N x k (.give o g) th ⟨tk, kn, bg, tc, ft⟩ = ⟨tk, kn, bg, tc, ft⟩ := rfl
    have ci := cIn_strsT [103, 105, 118, 101] [[98, 114, 105, 110, 103], [100, 111]]
    simp only [List.map_cons, List.map_nil] at ci
    rw [e]
    simp only [eRow] at V ⊢
    simp_all! only [ob0, ow, oo, o2, tfs, lkP, ci]
  | part p =>
    have e : doF beg key N x k (.part p) th ⟨tk, kn, bg, tc, ft⟩ = ⟨tk, kn, bg, tc, ft⟩ := rfl
    have ci := cIn_strsT [112, 97, 114, 116] [[98, 114, 105, 110, 103], [100, 111]]
    simp only [List.map_cons, List.map_nil] at ci
    rw [e]
    simp only [eRow] at V ⊢
    simp_all! only [ob0, ow, oo, o2, tfs, lkP, ci]
end


/-! ### parts begun -/
def todo (P : List Part) (w : Part → Nat) (bg : List Nm) : Nat := ((P.filter fun p => !decide (p.1 ∈ bg)).map w).sum
theorem todo_mono {w : Part → Nat} {bg bg2 : List Nm} (h : ∀ y ∈ bg, y ∈ bg2) : ∀ P : List Part, todo P w bg2 ≤ todo P w bg
  | [] => Nat.le_refl _
  | p :: P => by
    have ih := todo_mono (w := w) h P
    unfold todo at ih ⊢
    by_cases c : p.1 ∈ bg
    · have c2 := h _ c
      simpa [List.filter_cons, c, c2] using ih
    · by_cases c2 : p.1 ∈ bg2
      · simp only [List.filter_cons, c, c2, decide_true, decide_false, Bool.not_true, Bool.not_false, if_true, Bool.false_eq_true, if_false, List.map_cons, List.sum_cons]; omega
      · simp only [List.filter_cons, c, c2, decide_true, decide_false, Bool.not_true, Bool.not_false, if_true, Bool.false_eq_true, if_false, List.map_cons, List.sum_cons]; omega
theorem todo_step {w : Part → Nat} {bg : List Nm} {x : Nm} (hx : x ∉ bg) : ∀ P : List Part, todo P w (bg ++ [x]) + (match P.find? (fun p => decide (p.1 = x)) with | some p => w p | none => 0) ≤ todo P w bg
  | [] => Nat.le_refl _
  | p :: P => by
    have ih := todo_step (w := w) hx P
    have mono := todo_mono (w := w) (bg := bg) (bg2 := bg ++ [x]) (fun y hy => List.mem_append_left _ hy) P
    unfold todo at ih mono ⊢
    rw [List.find?_cons]
    by_cases c : p.1 = x
    · have c1 : p.1 ∉ bg := by rw [c]; exact hx
      have c2 : p.1 ∈ bg ++ [x] := by rw [c]; simp
      have hd : decide (p.1 = x) = true := decide_eq_true c
      rw [hd]
      simp only [List.filter_cons, c1, c2, decide_true, decide_false, Bool.not_true, Bool.not_false, if_true, Bool.false_eq_true, if_false, List.map_cons, List.sum_cons]
      omega
    · have hd : decide (p.1 = x) = false := decide_eq_false c
      rw [hd]
      simp only
      by_cases c1 : p.1 ∈ bg
      · have c2 : p.1 ∈ bg ++ [x] := List.mem_append_left _ c1
        simp only [List.filter_cons, c1, c2, decide_true, decide_false, Bool.not_true, Bool.not_false, if_true, Bool.false_eq_true, if_false]
        exact ih
      · have c2 : p.1 ∉ bg ++ [x] := fun h => by
          rcases List.mem_append.mp h with h | h
          · exact c1 h
          · exact c (List.mem_singleton.mp h)
        simp only [List.filter_cons, c1, c2, decide_true, decide_false, Bool.not_true, Bool.not_false, if_true, Bool.false_eq_true, if_false, List.map_cons, List.sum_cons]
        omega
def sz (st : Tr) : Nat := st.kn.length + st.tc.length + st.bg.length
def rls (p : Part) : Nat := p.2.length
/-- what stays within bounds -/
def Bnd (P : List Part) (st st2 : Tr) (k : Nat) : Prop := sz st2 + 2 * todo P rls st2.bg ≤ sz st + k + 2 * todo P rls st.bg ∧ ∀ y ∈ st.bg, y ∈ st2.bg
theorem rowF_ok {P : List Part} {beg : Nm → Tr → Tr} {key : Nm → Nm × Int} {N : List Int} {x : Nm} {k : Nat} {r : Row} {st : Tr} (h : ∀ y, tgt r = some y → Bnd P st (beg y st) 1) : Bnd P st (rowF beg key N x k r st) 2 := by
  have rf : Bnd P st st 2 := ⟨by omega, fun _ h => h⟩
  unfold rowF
  split
  · exact ⟨by simp only [sz]; omega, fun _ h => h⟩
  · exact rf
  · rename_i th _
    cases r with
    | set o t => exact ⟨by have := dPut_len st.kn (key o) (valT th t); simp only [doF, sz] at this ⊢; omega, fun _ h => h⟩
    | take o => exact ⟨by have := dPut_len st.kn (key o) (N.getD st.tk 0); simp only [doF, sz, List.length_append, List.length_cons, List.length_nil] at this ⊢; omega, fun _ h => h⟩
    | say t w => exact ⟨by simp only [doF, sz, List.length_append, List.length_cons, List.length_nil]; omega, fun _ h => h⟩
    | need t =>
      simp only [doF]
      split
      · exact ⟨by simp only [sz]; omega, fun _ h => h⟩
      · exact rf
    | ask y w => have := h y rfl; exact ⟨by have := this.1; simp only [doF]; omega, this.2⟩
    | bring y ps => have := h y rfl; exact ⟨by have := this.1; simp only [doF]; omega, this.2⟩
    | doo y => have := h y rfl; exact ⟨by have := this.1; simp only [doF]; omega, this.2⟩
    | _ => exact rf
theorem isN_dct (b : Bool) (l : List (D × D)) : isN (.dct b l) = false := rfl
theorem isN_ftE (x : Nm) (k : Nat) (w : Int) : isN (ftE x k w) = false := rfl
section
variable {s0 : Sto} {a : Nat} {X : D} {P : List Part} (hA : s0[a]? = some (.o 1 [([112, 97, 114, 116, 115], .d X)])) (hcl : clS s0.length s0 = true) (N : List Int)
include hA hcl
theorem begin_l (n : Nat) (beg : Nm → Tr → Tr) (M : Nat) (hM : M ≤ 16777000) (ok : Tr → Prop) (x : Nm) (key : Nm → Nm × Int)
    (hn : ∀ y st, ok st → sz st + 1 + 2 * todo P rls st.bg ≤ M → m_PartsWalk_begin n [.loc a, .loc s0.length, .d (.str y)] (TT s0 N st) = .ok (.d .non, TT s0 N (beg y st)) ∧ Bnd P st (beg y st) 1)
    (hok : ∀ st st2, ok st → (∀ y ∈ st.bg, y ∈ st2.bg) → ok st2) : ∀ (l : List (Nat × Row)) (st : Tr), (∀ p ∈ l, RowK X x key p.2) → ok st → sz st + 2 * l.length + 2 * todo P rls st.bg ≤ M →
    outOf (loop (gT [gN 3, gN 4, gN 5]) (m_PartsWalk_begin_b1 (m_PartsWalk_begin n)) (ws (l.map (eNR x))) [some (.loc a), some (.loc s0.length), es x, e_, e_, e_, e_] (TT s0 N st)) = .ok (.d .non, TT s0 N (rowsF beg key N x l st)) ∧ Bnd P st (rowsF beg key N x l st) (2 * l.length)
  | [], st, _, _, _ => ⟨rfl, ⟨by simp only [rowsF, List.length_nil]; omega, fun _ h => h⟩⟩
  | (k, r) :: l, st, hl, ho, hs => by
    have hr : RowK X x key r := hl (k, r) List.mem_cons_self
    simp only [List.length_cons] at hs
    have F := m_found_c hA hcl N hr.kr hr.len (by have := rdN_len r; have := hr.len; omega) k st.tk st.kn st.bg st.tc st.ft
    have hb := fun y => hn y st ho (by omega)
    have rk := rowF_ok (P := P) (key := key) (N := N) (x := x) (k := k) (r := r) (st := st) (beg := beg) fun y _ => (hb y).2
    have ow := fun tk kn bg tc ft u => ts_w s0 N tk kn bg tc ft u hA
    have oo := fun tk kn bg tc ft u => ts_o s0 N tk kn bg tc ft u
    have ih := begin_l n beg M hM ok x key hn hok l (rowF beg key N x k r st) (fun p hp => hl p (List.mem_cons_of_mem _ hp)) (hok _ _ ho rk.2) (by have := rk.1; omega)
    have hsz : sz st = st.kn.length + st.tc.length + st.bg.length := rfl
    have D := fun th hth => m_done_c hA hcl N (m_PartsWalk_begin n) beg hr k th hth st (by omega) (by omega) fun y _ => (hb y).1
    have e2 : rowsF beg key N x ((k, r) :: l) st = if isN (rowF beg key N x k r st).ft = true then rowsF beg key N x l (rowF beg key N x k r st) else rowF beg key N x k r st := rfl
    rw [e2]
    refine ⟨?_, ?_⟩
    · rw [List.map_cons, ws_cons]
      have ih := ih.1
      cases e : fdL key st.kn (whR r) (rdN r) [] with
      | early w =>
        have er : rowF beg key N x k r st = ⟨st.tk, st.kn, st.bg, st.tc, ftE x k w⟩ := by unfold rowF; rw [e]
        rw [e] at F
        rw [er]
        simp_all! only [loop_cz, eNR, m_PartsWalk_begin_b1, m_PartsWalk_begin_r1, ob0, ow, oo, tfs, lkP, F, isN_ftE]
      | no =>
        have er : rowF beg key N x k r st = st := by unfold rowF; rw [e]
        rw [e] at F
        rw [er] at ih ⊢
        clear rk e2 hsz er hr hl hb hn D
        by_cases c : isN st.ft = true
        · rw [if_pos c]
          simp_all! only [loop_cz, eNR, m_PartsWalk_begin_b1, m_PartsWalk_begin_r1, ob0, ow, oo, tfs, lkP, F, c, ih]
        · have c : isN st.ft = false := by simpa using c
          rw [if_neg (by rw [c]; decide)]
          simp_all! only [loop_cz, eNR, m_PartsWalk_begin_b1, m_PartsWalk_begin_r1, ob0, ow, oo, tfs, lkP, F, c]
      | yes th =>
        have er : rowF beg key N x k r st = doF beg key N x k r th st := by unfold rowF; rw [e]
        rw [e] at F
        obtain ⟨y1, y2⟩ := fdL_yes key st.kn (whR r) (rdN r) [] th e
        have D := D th fun z hz => by
          obtain ⟨q, hq, rfl⟩ := List.mem_map.mp (rdN_nms r z hz)
          exact (y1 q hq).2
        rw [er] at ih ⊢
        clear rk e2 hsz er hr hl hb hn
        generalize doF beg key N x k r th st = st2 at D ih ⊢
        by_cases c : isN st2.ft = true
        · rw [if_pos c]
          simp_all! only [loop_cz, eNR, m_PartsWalk_begin_b1, m_PartsWalk_begin_r1, ob0, ow, oo, tfs, lkP, F, c, isN_dct, D, ih]
        · have c : isN st2.ft = false := by simpa using c
          rw [if_neg (by rw [c]; decide)]
          simp_all! only [loop_cz, eNR, m_PartsWalk_begin_b1, m_PartsWalk_begin_r1, ob0, ow, oo, tfs, lkP, F, c, isN_dct, D]
    · have ih := ih.2
      split
      · exact ⟨by have := ih.1; have := rk.1; simp only [List.length_cons]; omega, fun y hy => ih.2 y (rk.2 y hy)⟩
      · exact ⟨by have := rk.1; simp only [List.length_cons]; omega, rk.2⟩
theorem m_begin_c (hX : SeqD X (ePs P)) (hP : ∀ p ∈ P, p.2.length ≤ 1000) (key : Nm → Nm → Nm × Int) (hR : ∀ x, ∀ r ∈ rowsOf P x, RowK X x (key x) r) (M : Nat) (hM : M ≤ 16777000) : ∀ (n : Nat) (x : Nm) (st : Tr), todo P (fun _ => 1) st.bg < n → sz st + 1 + 2 * todo P rls st.bg ≤ M →
    m_PartsWalk_begin n [.loc a, .loc s0.length, .d (.str x)] (TT s0 N st) = .ok (.d .non, TT s0 N (begF P key N n x st)) ∧ Bnd P st (begF P key N n x st) 1
  | 0, x, st, h, _ => absurd h (Nat.not_lt_zero _)
  | n + 1, x, st, h, hs => by
    have ow := fun tk kn bg tc ft u => ts_w s0 N tk kn bg tc ft u hA
    have oo := fun tk kn bg tc ft u => ts_o s0 N tk kn bg tc ft u
    have o2 := fun tk kn bg tc ft u => ts_2 s0 N tk kn bg tc ft u
    have ci := cIn_sD st.bg x
    have en0 : start 7 [.loc a, .loc s0.length, .d (.str x)] = [some (.loc a), some (.loc s0.length), es x, e_, e_, e_, e_] := rfl
    have eB : m_PartsWalk_begin (n + 1) = m_PartsWalk_begin_s (m_PartsWalk_begin n) := rfl
    rw [eB]
    by_cases c : x ∈ st.bg
    · have e : begF P key N (n + 1) x st = st := by rw [begF, if_pos c]
      rw [e]
      refine ⟨mkF_x (t := []) _ en0 ?_ rfl (ts_cl hcl N _ _ _ _ _), ⟨by omega, fun _ h => h⟩⟩
      rw [List.append_nil]
      simp_all! only [ob0, ow, oo, o2, tfs, lkP, ci, c]
    · have e : begF P key N (n + 1) x st = rowsF (begF P key N n) (key x) N x (numR (rowsOf P x)) ⟨st.tk, st.kn, st.bg ++ [x], st.tc, st.ft⟩ := by rw [begF, if_neg c]
      rw [e]
      have ad : addN st.bg x = st.bg ++ [x] := by unfold addN; rw [if_neg c]
      have w1 := todo_step (w := fun _ => 1) c P
      have w2 := todo_step (w := rls) c P
      have hsz : sz st = st.kn.length + st.tc.length + st.bg.length := rfl
      have hsz2 : sz ⟨st.tk, st.kn, st.bg ++ [x], st.tc, st.ft⟩ = sz st + 1 := by simp only [sz, List.length_append, List.length_cons, List.length_nil]; omega
      have nl : (numR (rowsOf P x)).length = (rowsOf P x).length := by unfold numR; simp
      have R := m_rows_of_c hA hcl N hX hP x st.tk st.kn (st.bg ++ [x]) st.tc st.ft
      have sm : setAny (.loc (s0.length + 2)) (.d (.str x)) (.d (.bl true)) (TS s0 N st.tk st.kn st.bg st.tc st.ft []) = .ok (TS s0 N st.tk st.kn (st.bg ++ [x]) st.tc st.ft []) := by
        rw [setAny_lc]
        simp only [o2]
        have hl : st.bg.length < sizeL := by show _ < 16777216; omega
        rw [need_of (by rw [keyOk_s, sD_len, decide_eq_true hl]; rfl), putD_sD, ad, tt_2]
      have L : outOf (loop (gT [gN 3, gN 4, gN 5]) (m_PartsWalk_begin_b1 (m_PartsWalk_begin n)) (ws ((numR (rowsOf P x)).map (eNR x))) [some (.loc a), some (.loc s0.length), es x, e_, e_, e_, e_] (TT s0 N ⟨st.tk, st.kn, st.bg ++ [x], st.tc, st.ft⟩)) = .ok (.d .non, TT s0 N (rowsF (begF P key N n) (key x) N x (numR (rowsOf P x)) ⟨st.tk, st.kn, st.bg ++ [x], st.tc, st.ft⟩)) ∧ Bnd P ⟨st.tk, st.kn, st.bg ++ [x], st.tc, st.ft⟩ (rowsF (begF P key N n) (key x) N x (numR (rowsOf P x)) ⟨st.tk, st.kn, st.bg ++ [x], st.tc, st.ft⟩) (2 * (numR (rowsOf P x)).length) := by
        cases e3 : P.find? (fun p => decide (p.1 = x)) with
        | none =>
          have er : rowsOf P x = [] := by unfold rowsOf; rw [e3]
          rw [er]
          exact ⟨rfl, ⟨by show _ ≤ _; exact Nat.le_refl _, fun _ h => h⟩⟩
        | some p =>
          have er : rowsOf P x = p.2 := by unfold rowsOf; rw [e3]
          rw [e3] at w1 w2
          simp only at w1 w2
          have hrl : rls p = (rowsOf P x).length := by rw [er]; rfl
          refine begin_l hA hcl N n (begF P key N n) M hM (fun st => todo P (fun _ => 1) st.bg < n) x (key x) (fun y st h1 h2 => m_begin_c hX hP key hR M hM n y st h1 h2) (fun st st2 h1 h2 => Nat.lt_of_le_of_lt (todo_mono h2 P) h1) _ _ (fun q hq => ?_) ?_ ?_
          · unfold numR at hq
            obtain ⟨i, hi, rfl⟩ := List.mem_map.mp hq
            refine hR x _ ?_
            show (rowsOf P x).getD i (.take []) ∈ rowsOf P x
            have hi := List.mem_range.mp hi
            rw [List.getD_eq_getElem?_getD, List.getElem?_eq_getElem hi]; exact List.getElem_mem hi
          · show todo P (fun _ => 1) (st.bg ++ [x]) < n
            omega
          · rw [nl, hsz2]
            show _ + _ + 2 * todo P rls (st.bg ++ [x]) ≤ M
            omega
      refine ⟨mkF_x (t := []) _ en0 ?_ (by rw [ts_len, ts_len]) (ts_cl hcl N _ _ _ _ _), ⟨?_, fun y hy => L.2.2 y (List.mem_append_left _ hy)⟩⟩
      · rw [List.append_nil]
        have L := L.1
        generalize rowsF (begF P key N n) (key x) N x (numR (rowsOf P x)) ⟨st.tk, st.kn, st.bg ++ [x], st.tc, st.ft⟩ = st2 at L ⊢
        clear w1 w2 nl hsz hsz2 e eB hR
        simp_all! only [ob0, ow, oo, o2, tfs, lkP, ci, c, sm, R, L, m_PartsWalk_begin_r2]
      · have := L.2.1
        rw [hsz2, nl] at this
        have h4 : (rowsOf P x).length = (match P.find? (fun p => decide (p.1 = x)) with | some p => rls p | none => 0) := by
          unfold rowsOf; cases P.find? (fun p => decide (p.1 = x)) <;> rfl
        have h5 : todo P rls (st.bg ++ [x]) = todo P rls (Tr.mk st.tk st.kn (st.bg ++ [x]) st.tc st.ft).bg := rfl
        omega
end
theorem nw_o (s0 : Sto) (fs : List (List Nat × W)) (u : Sto) : objO 0 (.loc s0.length) (s0 ++ (.o 0 fs :: u)) = .ok (s0.length, fs) := by unfold objO; simp
theorem nw_s (s0 : Sto) (c c2 : C) (u : Sto) : (s0 ++ (c :: u)).set s0.length c2 = s0 ++ (c2 :: u) := by
  have := app_set s0 (c :: u) 0 c2; rw [Nat.add_zero] at this; rw [this]; rfl
theorem nw_a (s0 : Sto) (c : C) (u v : Sto) : s0 ++ (c :: u) ++ v = s0 ++ (c :: (u ++ v)) := by simp
theorem nw_l (s0 : Sto) (c : C) (u : Sto) : (s0 ++ (c :: u)).length = s0.length + (u.length + 1) := by simp
theorem putB_nil (f : List Nat) (w : W) : putB f w [] = [(f, w)] := rfl
theorem putB_cons (f g : List Nat) (w x : W) (r : List (List Nat × W)) : putB f w ((g, x) :: r) = if g = f then (g, w) :: r else (g, x) :: putB f w r := rfl
theorem m_init_c (s0 : Sto) (N : List Int) : m_Trail___init__K [.loc s0.length, .d (.tup (N.map .int))] (s0 ++ [.o 0 []]) = .ok (.d .non, TS s0 N 0 [] [] [] .non []) := by
  have mk : ∀ (n : Nat) (b : Sx) (a : List W) (s : Sto), mkK n b a s = outOf (b (start n a) s) := fun _ _ _ _ => rfl
  have en0 : start 2 [.loc s0.length, .d (.tup (N.map .int))] = [some (.loc s0.length), ed (.tup (N.map .int))] := rfl
  unfold m_Trail___init__K
  rw [mk, en0]
  have e : TS s0 N 0 [] [] [] .non [] = s0 ++ [.o 0 [([110, 117, 109, 98, 101, 114, 115], .d (.tup (N.map .int))), ([116, 97, 107, 101, 110], .d (.int 0)), ([107, 110, 111, 119, 110], .loc (s0.length + 1)), ([98, 101, 103, 117, 110], .loc (s0.length + 2)), ([108, 111, 97, 100, 101, 100], .loc (s0.length + 3)), ([116, 114, 97, 99, 101], .loc (s0.length + 4)), ([102, 97, 117, 108, 116], .d .non)], .m true [], .m false [], .m false [], .l []] := rfl
  rw [e]
  simp_all! only [ob0, nw_o, nw_s, nw_a, nw_l, putB_nil, putB_cons, List.length_nil, List.length_cons, List.nil_append, List.cons_append]
def stA : Tr := ⟨0, [], [], [], .non⟩
section
variable {s0 : Sto} {a : Nat} {X : D} {P : List Part} (hA : s0[a]? = some (.o 1 [([112, 97, 114, 116, 115], .d X)])) (hcl : clS s0.length s0 = true) (N : List Int)
include hA hcl
theorem m_go_c (hX : SeqD X (ePs P)) (hP : ∀ p ∈ P, p.2.length ≤ 1000) (key : Nm → Nm → Nm × Int) (hR : ∀ x, ∀ r ∈ rowsOf P x, RowK X x (key x) r) (hl : P.length < 30) (x : Nm) :
    m_PartsWalk_go [.loc a, .d (.str x), .d (.tup (N.map .int))] s0 = .ok (.d (.tup [.tup (begF P key N 30 x stA).tc, (begF P key N 30 x stA).ft]), s0) := by
  have h1 : todo P (fun _ => 1) stA.bg < 30 := by
    have : ∀ P : List Part, todo P (fun _ => 1) [] = P.length := fun P => by
      unfold todo; induction P with
      | nil => rfl
      | cons p P ih => simp at ih ⊢; omega
    show todo P (fun _ => 1) [] < 30
    rw [this]; exact hl
  have h2 : todo P rls [] ≤ 1000 * P.length := by
    have : ∀ P : List Part, (∀ p ∈ P, p.2.length ≤ 1000) → todo P rls [] ≤ 1000 * P.length := fun P => by
      unfold todo; induction P with
      | nil => intro _; exact Nat.le_refl _
      | cons p P ih =>
        intro h
        have := h p List.mem_cons_self
        have := ih fun q hq => h q (List.mem_cons_of_mem _ hq)
        simp [rls] at this ⊢; omega
    exact this P hP
  have B := (m_begin_c hA hcl N hX hP key hR 16777000 (Nat.le_refl _) 30 x stA h1 (by show 0 + 1 + 2 * todo P rls [] ≤ _; omega)).1
  have hA2 := hA
  have I := m_init_c s0 N
  have ow := fun tk kn bg tc ft u => ts_w s0 N tk kn bg tc ft u hA
  have oo := fun tk kn bg tc ft u => ts_o s0 N tk kn bg tc ft u
  have o4 := fun tk kn bg tc ft u => ts_4 s0 N tk kn bg tc ft u
  have hcl2 := fun tk kn bg tc ft => ts_cl hcl N tk kn bg tc ft
  have ld := fun tk kn bg tc ft w w2 => m_loads_c w w2 (TS s0 N tk kn bg tc ft []) (hcl2 tk kn bg tc ft)
  have la := fun tk kn bg tc ft w w2 => m_ahead_c w w2 (TS s0 N tk kn bg tc ft []) (hcl2 tk kn bg tc ft)
  have lo := fun tk kn bg tc ft w => m_load_c w (TS s0 N tk kn bg tc ft []) (hcl2 tk kn bg tc ft)
  have en0 : start 4 [.loc a, .d (.str x), .d (.tup (N.map .int))] = [some (.loc a), es x, ed (.tup (N.map .int)), e_] := rfl
  have B : m_PartsWalk_begin 30 [.loc a, .loc s0.length, .d (.str x)] (TS s0 N 0 [] [] [] .non []) = .ok (.d .non, TT s0 N (begF P key N 30 x stA)) := B
  generalize begF P key N 30 x stA = st2 at B ⊢
  refine mkF_x (t := .o 0 (trF s0.length N st2.tk st2.ft) :: .m true (dctE kSI .int st2.kn) :: .m false (sD st2.bg) :: .m false [] :: .l st2.tc :: []) _ en0 ?_ rfl hcl
  have e2 : s0 ++ (.o 0 (trF s0.length N st2.tk st2.ft) :: .m true (dctE kSI .int st2.kn) :: .m false (sD st2.bg) :: .m false [] :: .l st2.tc :: []) = TT s0 N st2 := rfl
  rw [e2]
  simp_all! only [ob0, ow, oo, o4, tfs, lkP, I, ld, la, lo, B]
end

/-! ### runs, plainly -/
def thA (va : Nm → Int) : Th → Int
  | .num i => i | .nm z => va z
def vaT (va : Nm → Int) (t : List (Int × Th)) : Int := t.foldl (fun a q => a + q.1 * thA va q.2) 0
theorem foldl_congr' {α β : Type} {f g : β → α → β} : ∀ (l : List α) (b : β), (∀ x ∈ l, ∀ b, f b x = g b x) → l.foldl f b = l.foldl g b
  | [], _, _ => rfl
  | x :: l, b, h => by
    rw [List.foldl_cons, List.foldl_cons, h x List.mem_cons_self, foldl_congr' l _ fun y hy => h y (List.mem_cons_of_mem _ hy)]
theorem nmsT_mem {t : List (Int × Th)} {z : Nm} : z ∈ nmsT t ↔ ∃ s, (s, Th.nm z) ∈ t := by
  unfold nmsT
  rw [List.mem_filterMap]
  constructor
  · rintro ⟨⟨s, q⟩, h1, h2⟩
    cases q with
    | num i => cases h2
    | nm y => cases h2; exact ⟨s, h1⟩
  · rintro ⟨s, h⟩; exact ⟨_, h, rfl⟩
theorem valT_eq {th : List (Nm × Int)} {va : Nm → Int} {t : List (Int × Th)} (h : ∀ z ∈ nmsT t, dGet th z = some (va z)) : valT th t = vaT va t := by
  unfold valT vaT
  refine foldl_congr' t 0 fun q hq b => ?_
  obtain ⟨s, q⟩ := q
  cases q with
  | num i => rfl
  | nm z =>
    have := h z (nmsT_mem.mpr ⟨s, hq⟩)
    show b + s * (dGet th z).getD 0 = b + s * va z
    rw [this]; rfl
theorem fdL_all {key : Nm → Nm × Int} {kn : List ((Nm × Int) × Int)} {wh : Option Nm} {va : Nm → Int} (hw : ∀ z, wh = some z → 0 < va z) : ∀ (l : List (Int × Nm)) (th0 : List (Nm × Int)), (∀ q ∈ l, dGet kn (key q.2) = some (va q.2)) → ∃ th, fdL key kn wh l th0 = .yes th
  | [], th0, _ => ⟨th0, rfl⟩
  | (w, z) :: l, th0, h => by
    obtain ⟨th, ih⟩ := fdL_all hw l (dPut th0 z (va z)) fun q hq => h q (List.mem_cons_of_mem _ hq)
    refine ⟨th, ?_⟩
    have h1 : dGet kn (key z) = some (va z) := h (w, z) List.mem_cons_self
    rw [fdL, h1]
    simp only
    rw [if_neg (fun c => by have := hw z c.1; omega)]
    exact ih
section
variable {beg : Nm → Tr → Tr} {key : Nm → Nm × Int} {N : List Int} {x : Nm} {k : Nat} {r : Row} {st : Tr} {va : Nm → Int}
/-- a row all whose names are known -/
theorem rowF_all (h : ∀ q ∈ rdN r, dGet st.kn (key q.2) = some (va q.2)) (hw : ∀ z, whR r = some z → 0 < va z) : ∃ th, rowF beg key N x k r st = doF beg key N x k r th st ∧ valT th (tmL r) = vaT va (tmL r) := by
  obtain ⟨th, e⟩ := fdL_all hw (rdN r) [] h
  refine ⟨th, by unfold rowF; rw [e], valT_eq fun z hz => ?_⟩
  obtain ⟨q, hq, rfl⟩ := List.mem_map.mp (rdN_nms r z hz)
  rw [((fdL_yes _ _ _ _ _ _ e).1 q hq).1, h q hq]
theorem rowF_say {t : List (Int × Th)} (h : ∀ z ∈ nmsT t, dGet st.kn (key z) = some (va z)) : rowF beg key N x k (.say t none) st = ⟨st.tk, st.kn, st.bg, st.tc ++ [sayE (vaT va t) x k], st.ft⟩ := by
  obtain ⟨th, e1, e2⟩ := rowF_all (beg := beg) (N := N) (x := x) (k := k) (r := .say t none) (st := st) (key := key) (va := va) (fun q hq => h _ (by rw [← sumN_nms t 1]; exact List.mem_map_of_mem hq)) (fun z hz => by cases hz)
  rw [e1]
  have e2 : valT th t = vaT va t := e2
  show Tr.mk _ _ _ (st.tc ++ [sayE (valT th t) x k]) _ = _
  rw [e2]
/-- rows by their places -/
theorem rowsF_run (S : Nat → Tr) : ∀ (l : List (Nat × Row)) (n : Nat), (∀ i (hi : i < l.length), rowF beg key N x l[i].1 l[i].2 (S (n + i)) = S (n + i + 1)) → (∀ i, isN (S i).ft = true) → rowsF beg key N x l (S n) = S (n + l.length)
  | [], n, _, _ => rfl
  | (k, r) :: l, n, h, hf => by
    have h0 := h 0 (by simp)
    simp only [List.getElem_cons_zero, Nat.add_zero] at h0
    have ih := rowsF_run S l (n + 1) (fun i hi => by
      have := h (i + 1) (by simpa using hi)
      simp only [List.getElem_cons_succ] at this
      rw [show n + (i + 1) = n + 1 + i by omega] at this
      exact this) hf
    rw [rowsF, h0, if_pos (hf _), ih, List.length_cons, show n + 1 + l.length = n + (l.length + 1) by omega]
end
theorem numR_get (rs : List Row) (i : Nat) (h : i < (numR rs).length) : (numR rs)[i] = (i, rs[i]'(by unfold numR at h; simpa using h)) := by
  unfold numR at h ⊢
  have h2 : i < rs.length := by simpa using h
  rw [List.getElem_map, List.getElem_range, List.getD_eq_getElem?_getD, List.getElem?_eq_getElem h2]; rfl
theorem numR_len (rs : List Row) : (numR rs).length = rs.length := by unfold numR; simp
/-- a name that its part makes -/
theorem maker_here {X : D} {P : List Part} (hX : SeqD X (ePs P)) {x o : Nm} {k : Nat} (h : madeIn (rowsOf P x) o = some k) (s : Sto) : callP p_maker [.d X, .d (.str x), .d (.str o)] s = .ok (.d (kSI (x, (k : Nat))), s) := by
  obtain ⟨h1, _⟩ := p_maker_c hX (fun _ _ => 0) (fun x o => ∃ k, madeIn (rowsOf P x) o = some k) (fun x o h => .inl h) x o ⟨k, h⟩ (by decide)
  have e : makerL P x o = (x, k) := by unfold makerL mkrF; rw [h]
  rw [e] at h1
  exact h1 s
/-- how a run begins -/
theorem begF_start (P : List Part) (key : Nm → Nm → Nm × Int) (N : List Int) (n : Nat) (x : Nm) : begF P key N (n + 1) x stA = rowsF (begF P key N n) (key x) N x (numR (rowsOf P x)) ⟨0, [], [x], [], .non⟩ := by
  rw [begF, if_neg (by simp [stA])]; rfl
noncomputable def l_cell_at_r1 (e : Env) (s : Sto) : R O := (sRet (eK (.int 0))) e s
def l_cell_at_u := And.intro @l_cell_at_r1.eq_1 True.intro
noncomputable def l_cell_at : Fn := mkF 2 (sSeq (sIf (tB (e2 (d2 cLt) (eV 1) (e1 bLen (eV 0)))) (sRet (e2 oIx (eV 0) (eV 1))) sSkip) l_cell_at_r1)
def cellAt (ns : List Int) (k : Int) : Int := ns.getD k.toNat 0
theorem l_cell_at_c (ns : List Int) (k : Int) (h : 0 ≤ k) (s : Sto) : callP l_cell_at [.d (.inp (ns.map .int)), .d (.int k)] s = .ok (.d (.int (cellAt ns k)), s) := by
  by_cases hk : k < ns.length
  · simpa! only [l_cell_at, l_cell_at_u, hk, cellAt]
  · have : cellAt ns k = 0 := by unfold cellAt; rw [List.getD_eq_getElem?_getD, List.getElem?_eq_none (by omega)]; rfl
    simpa! only [l_cell_at, l_cell_at_u, hk, this]

noncomputable def l_name : Fn := mkF 4 (sSeq (sAsg (gN 2) (e2 oIx (eN fLst [(eK (.str [])), (eK (.str [119])), (eK (.str [116, 97, 107, 101])), (eK (.str [103, 111, 55])), (eK (.str [119, 97, 108, 107, 115]))]) (e2 (d2 oMod) (eV 0) (eK (.int 5))))) (sSeq (sAsg (gN 3) (e2 (d2 oMod) (e2 (d2 oDiv) (eV 0) (eK (.int 5))) (e2 oAdd (e1 bLen (eV 2)) (eK (.int 1))))) (sRet (e2 oAdd (e2 oAdd (eSl (eV 2) none (some (eV 3))) (e2 oIx (eK (.str [97, 98, 99, 100, 101, 102, 103, 104])) (eV 1))) (eSl (eV 2) (some (eV 3)) none)))))
noncomputable def l_parts_c1 (e : Env) (s : Sto) : VS := (eN fTup [(eK (.str [115, 97, 121])), (eN fTup [(eN fTup [(eK (.int 1)), (e2 (d2 oMod) (eV 8) (e2 (d2 oPow) (eK (.int 10)) (eK (.int 60))))])]), (eK .non)]) e s
noncomputable def l_parts_r1 (e : Env) (s : Sto) : R O := (sSeq (sAsg (gN 7) (eComp (iSeq (eSl (eV 0) (some (eK (.int 5))) (some (eK (.int 45))))) (gN 8) tYes l_parts_c1 [8])) (sRet (eN fLst [(eN fTup [(eN (callP l_name) [(eV 1), (eK (.int 0))]), (e1 bTup (eV 5))]), (eN fTup [(eN (callP l_name) [(eV 1), (eK (.int 1))]), (e1 bTup (eV 6))]), (eN fTup [(eN (callP l_name) [(eV 1), (eK (.int 2))]), (e1 bTup (eV 7))])]))) e s
def l_parts_u := And.intro @l_parts_c1.eq_1 (And.intro @l_parts_r1.eq_1 True.intro)
noncomputable def l_parts : Fn := mkF 9 (sSeq (sAsg (gN 1) (eN (callP l_cell_at) [(eV 0), (eK (.int 0))])) (sSeq (sAsg (gN 2) (eN (callP l_name) [(e2 (d2 oDiv) (eV 1) (eK (.int 7))), (e2 (d2 oMod) (eN (callP l_cell_at) [(eV 0), (eK (.int 1))]) (eK (.int 8)))])) (sSeq (sAsg (gN 3) (eN (callP l_name) [(e2 (d2 oDiv) (eV 1) (eK (.int 7))), (e2 (d2 oMod) (e2 (d2 oDiv) (eN (callP l_cell_at) [(eV 0), (eK (.int 1))]) (eK (.int 8))) (eK (.int 8)))])) (sSeq (sAsg (gN 4) (eN (callP l_name) [(e2 (d2 oDiv) (eV 1) (eK (.int 7))), (e2 (d2 oMod) (e2 (d2 oDiv) (eN (callP l_cell_at) [(eV 0), (eK (.int 1))]) (eK (.int 64))) (eK (.int 8)))])) (sSeq (sAsg (gN 5) (eN fLst [(eN fTup [(eK (.str [98, 114, 105, 110, 103])), (eN (callP l_name) [(eV 1), (eK (.int 1))]), (eN fTup [(eN fTup [(eV 4), (eV 2)])])]), (eN fTup [(eK (.str [115, 97, 121])), (eN fTup [(eN fTup [(eK (.int 1)), (eV 2)]), (eN fTup [(eK (.int 1)), (eK (.int 4))])]), (eK .non)])])) (sSeq (sAsg (gN 5) (e2 oAdd (eV 5) (eN fLst [(eN fTup [(eK (.str [110, 101, 101, 100])), (eN fTup [(eN fTup [(eK (.int 1)), (eV 2)]), (eN fTup [(eK (.int 1)), (eK (.int 2))])])]), (eN fTup [(eK (.str [97, 115, 107])), (eN (callP l_name) [(eV 1), (eK (.int 2))]), (eV 2)]), (eN fTup [(eK (.str [115, 97, 121])), (eN fTup [(eN fTup [(eK (.int 1)), (eV 2)])]), (eK .non)])]))) (sSeq (sAsg (gN 6) (eN fLst [(eN fTup [(eK (.str [116, 97, 107, 101])), (eV 3)]), (eN fTup [(eK (.str [115, 97, 121])), (eN fTup [(eN fTup [(eK (.int 1)), (eK (.int 8))])]), (eK .non)]), (eN fTup [(eK (.str [103, 105, 118, 101])), (eV 3), (eV 4)])])) (sSeq (sIf (tB (e2 (d2 cEq) (e2 (d2 oMod) (eN (callP l_cell_at) [(eV 0), (eK (.int 2))]) (eK (.int 2))) (eK (.int 1)))) (sAsg (gN 6) (eN fLst [(e2 oIx (eV 6) (eK (.int 1))), (e2 oIx (eV 6) (eK (.int 0))), (e2 oIx (eV 6) (eK (.int 2)))])) sSkip) l_parts_r1))))))))
noncomputable def l_number_r1 (e : Env) (s : Sto) : R O := (sRet (e2 oAdd (e2 (d2 oSub) (e2 (d2 oMod) (e2 (d2 oDiv) (eV 0) (eK (.int 2))) (e2 (d2 oSub) (e2 (d2 oMul) (eK (.int 2)) (e2 (d2 oPow) (eK (.int 10)) (eK (.int 60)))) (eK (.int 1)))) (e2 (d2 oPow) (eK (.int 10)) (eK (.int 60)))) (eK (.int 1)))) e s
def l_number_u := And.intro @l_number_r1.eq_1 True.intro
noncomputable def l_number : Fn := mkF 1 (sSeq (sIf (tB (e2 (d2 cEq) (e2 (d2 oMod) (eV 0) (eK (.int 2))) (eK (.int 0)))) (sRet (e2 (d2 oSub) (e2 (d2 oMod) (e2 (d2 oDiv) (eV 0) (eK (.int 2))) (eK (.int 5))) (eK (.int 2)))) sSkip) l_number_r1)
noncomputable def l_whole : Fn := mkF 1 (sRet (eAnd (e1 (isI .int) (eV 0)) (eNot (e1 (isI .bool) (eV 0)))))
noncomputable def l_told_c1 (e : Env) (s : Sto) : VS := (eN fTup [(eV 2), (eV 10), (e2 oIx (eV 3) (eV 10))]) e s
noncomputable def l_told_b1 (e : Env) (s : Sto) : R O := (sKill [6] (sIf (tNot (tB (eN (callP l_whole) [(e2 oIx (eV 6) (eK (.int 1)))]))) (sRet (eK (.bl false))) sSkip)) e s
noncomputable def l_told_r1 (e : Env) (s : Sto) : R O := (sIf (tOr (tB (e2 (d2 cNe) (eMeth 1 [108, 111, 97, 100, 115, 95, 111, 102] m_PartsWalk_loads_of (eV 0) [(eV 2)]) (eN fTup []))) (tB (e2 (d2 cNe) (eMeth 1 [97, 104, 101, 97, 100, 95, 111, 102] m_PartsWalk_ahead_of (eV 0) [(eV 2)]) (eN fTup [])))) (sRet (eK (.bl false))) sSkip) e s
noncomputable def l_told_r2 (e : Env) (s : Sto) : R O := (sSeq (sFor (iSeq (eV 4)) (gN 6) l_told_b1) l_told_r1) e s
noncomputable def l_told_b2 (e : Env) (s : Sto) : R O := (sKill [2, 3, 4, 5, 6] (sSeq (sAsg (gN 4) (eMeth 1 [114, 111, 119, 115, 95, 111, 102] m_PartsWalk_rows_of (eV 0) [(eV 2)])) (sSeq (sAsg (gN 5) (eComp (iR1 (e1 bLen (eV 3))) (gN 10) tYes l_told_c1 [10])) (sSeq (sIf (tOr (tNot (tB (e1 (isI .tuple) (eV 4)))) (tB (e2 (d2 cNe) (e1 bLst (eV 4)) (eV 5)))) (sRet (eK (.bl false))) sSkip) l_told_r2)))) e s
noncomputable def l_told_c2 (e : Env) (s : Sto) : VS := (eV 10) e s
noncomputable def l_told_t2 (e : Env) (s : Sto) : R (Bool × Sto) := (tB (e2 (d2 cEq) (e2 oIx (e2 oIx (e2 oIx (e2 oIx (eV 1) (eK (.int 1))) (eK (.int 1))) (eV 10)) (eK (.int 0))) (eK (.str [116, 97, 107, 101])))) e s
noncomputable def l_told_b3 (e : Env) (s : Sto) : R O := (sKill [9, 2, 4] (sSeq (sAsg (gN 4) (eMeth 1 [107, 101, 121, 95, 111, 102] m_PartsWalk_key_of (eV 0) [(eV 9), (eV 2)])) (sIf (tOr (tNot (tB (e1 (isI .tuple) (eV 4)))) (tOr (tB (e2 (d2 cNe) (eV 4) (eN fTup [(e2 oIx (e2 oIx (eV 1) (eK (.int 1))) (eK (.int 0))), (eV 7)]))) (tNot (tB (eN (callP l_whole) [(e2 oIx (eV 4) (eK (.int 1)))]))))) (sRet (eK (.bl false))) sSkip))) e s
noncomputable def l_told_r3 (e : Env) (s : Sto) : R O := (sRet (eIsO 1 true (eV 0))) e s
noncomputable def l_told_r4 (e : Env) (s : Sto) : R O := (sSeq (sAsg (gN 7) (e2 oIx (eComp (iR1 (eK (.int 3))) (gN 10) l_told_t2 l_told_c2 [10]) (eK (.int 0)))) (sSeq (sAsg (gN 8) (e2 oIx (e2 oIx (e2 oIx (e2 oIx (e2 oIx (e2 oIx (eV 1) (eK (.int 0))) (eK (.int 1))) (eK (.int 0))) (eK (.int 2))) (eK (.int 0))) (eK (.int 1)))) (sSeq (sFor (iSeq (eN fLst [(eN fTup [(e2 oIx (e2 oIx (eV 1) (eK (.int 0))) (eK (.int 0))), (eV 8)]), (eN fTup [(e2 oIx (e2 oIx (eV 1) (eK (.int 1))) (eK (.int 0))), (e2 oIx (e2 oIx (e2 oIx (e2 oIx (eV 1) (eK (.int 1))) (eK (.int 1))) (eV 7)) (eK (.int 1)))])])) (gT [(gN 9), (gN 2)]) l_told_b3) l_told_r3))) e s
def l_told_u := And.intro @l_told_c1.eq_1 (And.intro @l_told_b1.eq_1 (And.intro @l_told_r1.eq_1 (And.intro @l_told_r2.eq_1 (And.intro @l_told_b2.eq_1 (And.intro @l_told_c2.eq_1 (And.intro @l_told_t2.eq_1 (And.intro @l_told_b3.eq_1 (And.intro @l_told_r3.eq_1 (And.intro @l_told_r4.eq_1 True.intro)))))))))
noncomputable def l_told : Fn := mkF 11 (sSeq (sFor (iSeq (eV 1)) (gT [(gN 2), (gN 3)]) l_told_b2) l_told_r4)
noncomputable def m_Walk_rows_of : Fn := mkF 2 (sRet (eN fTup []))
noncomputable def m_Walk_key_of : Fn := mkF 3 (sRet (eV 2))
noncomputable def m_Walk_loads_of : Fn := mkF 2 (sRet (eN fTup []))
noncomputable def m_Walk_ahead_of : Fn := mkF 2 (sRet (eN fTup []))
noncomputable def m_Walk_found_by_r1 (e : Env) (s : Sto) : R O := (sSeq (sAsg (gSb (eV 5) (eV 8)) (e2 oIx (eFld 0 [107, 110, 111, 119, 110] (eV 1)) (eV 9))) (sIf (tAnd (tB (e2 (d2 cEq) (eV 8) (eV 6))) (tB (e2 (d2 cLe) (e2 oIx (eV 5) (eV 8)) (eK (.int 0))))) (sRet (eK .non)) sSkip)) e s
noncomputable def m_Walk_found_by_b1 (e : Env) (s : Sto) : R O := (sKill [7, 8, 9] (sSeq (sAsg (gN 9) (eMeth 2 [107, 101, 121, 95, 111, 102] m_Walk_key_of (eV 0) [(eV 2), (eV 8)])) (sSeq (sIf (tB (e2 (d2 cNin) (eV 9) (eFld 0 [107, 110, 111, 119, 110] (eV 1)))) (sSeq (sFldS 0 [102, 97, 117, 108, 116] (eV 1) (eN fTup [(eK (.str [101, 97, 114, 108, 121])), (e2 oIx (eV 3) (eK (.int 0))), (e2 oIx (eV 3) (eK (.int 1))), (eV 7)])) (sRet (eK .non))) sSkip) m_Walk_found_by_r1))) e s
noncomputable def m_Walk_found_by_r2 (e : Env) (s : Sto) : R O := (sRet (eV 5)) e s
def m_Walk_found_by_u := And.intro @m_Walk_found_by_r1.eq_1 (And.intro @m_Walk_found_by_b1.eq_1 (And.intro @m_Walk_found_by_r2.eq_1 True.intro))
noncomputable def m_Walk_found_by : Fn := mkF 10 (sSeq (sAsg (gN 5) (eDct false)) (sSeq (sAsg (gN 6) (eN (callP p_when_of) [(eV 4)])) (sSeq (sFor (iSeq (eN (callP p_read_names) [(eV 4)])) (gT [(gN 7), (gN 8)]) m_Walk_found_by_b1) m_Walk_found_by_r2)))
noncomputable def m_Walk_done_r1 (n : Fn) (e : Env) (s : Sto) : R O := (sX (eMeth 2 [98, 101, 103, 105, 110] n (eV 0) [(eV 1), (e2 oIx (eV 4) (eK (.int 1)))])) e s
def m_Walk_done_u := And.intro @m_Walk_done_r1.eq_1 True.intro
noncomputable def m_Walk_done (n : Fn) : Fn := mkF 8 (sSeq (sAsg (gN 6) (e2 oIx (eV 4) (eK (.int 0)))) (sIf (tB (e2 (d2 cEq) (eV 6) (eK (.str [115, 101, 116])))) (sAsg (gSb (eFld 0 [107, 110, 111, 119, 110] (eV 1)) (eMeth 2 [107, 101, 121, 95, 111, 102] m_Walk_key_of (eV 0) [(eV 2), (e2 oIx (eV 4) (eK (.int 1)))])) (eN (callP p_value_of) [(e2 oIx (eV 4) (eK (.int 2))), (eV 5)])) (sIf (tB (e2 (d2 cEq) (eV 6) (eK (.str [116, 97, 107, 101])))) (sSeq (sAsg (gN 7) (eMeth 0 [116, 97, 107, 101] m_Trail_take (eV 1) [])) (sSeq (sAsg (gSb (eFld 0 [107, 110, 111, 119, 110] (eV 1)) (eMeth 2 [107, 101, 121, 95, 111, 102] m_Walk_key_of (eV 0) [(eV 2), (e2 oIx (eV 4) (eK (.int 1)))])) (eV 7)) (sX (m1 isL lAppend (eFld 0 [116, 114, 97, 99, 101] (eV 1)) (eN fTup [(eK (.str [116, 97, 107, 101])), (eV 7), (e2 oIx (eV 3) (eK (.int 0))), (e2 oIx (eV 3) (eK (.int 1)))]))))) (sIf (tB (e2 (d2 cEq) (eV 6) (eK (.str [115, 97, 121])))) (sX (m1 isL lAppend (eFld 0 [116, 114, 97, 99, 101] (eV 1)) (eN fTup [(eK (.str [115, 97, 121])), (eN (callP p_value_of) [(e2 oIx (eV 4) (eK (.int 1))), (eV 5)]), (e2 oIx (eV 3) (eK (.int 0))), (e2 oIx (eV 3) (eK (.int 1)))]))) (sIf (tB (e2 (d2 cEq) (eV 6) (eK (.str [110, 101, 101, 100])))) (sIf (tB (e2 (d2 cLe) (eN (callP p_value_of) [(e2 oIx (eV 4) (eK (.int 1))), (eV 5)]) (eK (.int 0)))) (sFldS 0 [102, 97, 117, 108, 116] (eV 1) (eN fTup [(eK (.str [110, 101, 101, 100])), (e2 oIx (eV 3) (eK (.int 0))), (e2 oIx (eV 3) (eK (.int 1))), (eK (.int 0))])) sSkip) (sIf (tB (e2 (d2 cEq) (eV 6) (eK (.str [97, 115, 107])))) (sSeq (sIf (tB (e2 (d2 cNin) (e2 oIx (eV 4) (eK (.int 1))) (eFld 0 [98, 101, 103, 117, 110] (eV 1)))) (sX (eMeth 0 [108, 111, 97, 100] m_Trail_load (eV 1) [(eMeth 2 [108, 111, 97, 100, 115, 95, 111, 102] m_Walk_loads_of (eV 0) [(e2 oIx (eV 4) (eK (.int 1)))])])) sSkip) (m_Walk_done_r1 n)) (sIf (tB (e2 (d2 cIn) (eV 6) (eN fTup [(eK (.str [98, 114, 105, 110, 103])), (eK (.str [100, 111]))]))) (sX (eMeth 2 [98, 101, 103, 105, 110] n (eV 0) [(eV 1), (e2 oIx (eV 4) (eK (.int 1)))])) sSkip)))))))
noncomputable def m_Walk_begin_r1 (n : Fn) (e : Env) (s : Sto) : R O := (sIf (tB (e1 cNotN (eFld 0 [102, 97, 117, 108, 116] (eV 1)))) sRetN sSkip) e s
noncomputable def m_Walk_begin_b1 (n : Fn) (e : Env) (s : Sto) : R O := (sKill [3, 4, 5, 6] (sSeq (sAsg (gN 6) (eMeth 2 [102, 111, 117, 110, 100, 95, 98, 121] m_Walk_found_by (eV 0) [(eV 1), (eV 2), (eN fTup [(eV 3), (eV 4)]), (eV 5)])) (sSeq (sIf (tB (e1 cNotN (eV 6))) (sX (eMeth 2 [100, 111, 110, 101] (m_Walk_done n) (eV 0) [(eV 1), (eV 2), (eN fTup [(eV 3), (eV 4)]), (eV 5), (eV 6)])) sSkip) (m_Walk_begin_r1 n)))) e s
noncomputable def m_Walk_begin_r2 (n : Fn) (e : Env) (s : Sto) : R O := (sSeq (sAsg (gSb (eFld 0 [98, 101, 103, 117, 110] (eV 1)) (eV 2)) (eK (.bl true))) (sFor (iSeq (eMeth 2 [114, 111, 119, 115, 95, 111, 102] m_Walk_rows_of (eV 0) [(eV 2)])) (gT [(gN 3), (gN 4), (gN 5)]) (m_Walk_begin_b1 n))) e s
def m_Walk_begin_u := And.intro @m_Walk_begin_r1.eq_1 (And.intro @m_Walk_begin_b1.eq_1 (And.intro @m_Walk_begin_r2.eq_1 True.intro))
noncomputable def m_Walk_begin_s (n : Fn) : Fn := mkF 7 (sSeq (sIf (tB (e2 (d2 cIn) (eV 2) (eFld 0 [98, 101, 103, 117, 110] (eV 1)))) sRetN sSkip) (m_Walk_begin_r2 n))
noncomputable def m_Walk_begin : Nat → Fn
  | 0 => fun _ _ => .stuck
  | n + 1 => m_Walk_begin_s (m_Walk_begin n)
noncomputable def m_Walk_go : Fn := mkF 4 (sSeq (sAsg (gN 3) (eMake 0 m_Trail___init__K [(eV 2)])) (sSeq (sX (eMeth 0 [108, 111, 97, 100] m_Trail_load (eV 3) [(eMeth 2 [108, 111, 97, 100, 115, 95, 111, 102] m_Walk_loads_of (eV 0) [(eV 1)])])) (sSeq (sX (eMeth 0 [108, 111, 97, 100] m_Trail_load (eV 3) [(eMeth 2 [97, 104, 101, 97, 100, 95, 111, 102] m_Walk_ahead_of (eV 0) [(eV 1)])])) (sSeq (sX (eMeth 2 [98, 101, 103, 105, 110] (m_Walk_begin 30) (eV 0) [(eV 3), (eV 1)])) (sRet (eN fTup [(e1 bTup (eFld 0 [116, 114, 97, 99, 101] (eV 3))), (eFld 0 [102, 97, 117, 108, 116] (eV 3))]))))))
noncomputable def l_bare_r1 (e : Env) (s : Sto) : R O := (sIf (tOr (tB (e2 (d2 cNe) (eMeth 2 [108, 111, 97, 100, 115, 95, 111, 102] m_Walk_loads_of (eV 2) [(eV 3)]) (eN fTup []))) (tOr (tB (e2 (d2 cNe) (eMeth 2 [97, 104, 101, 97, 100, 95, 111, 102] m_Walk_ahead_of (eV 2) [(eV 3)]) (eN fTup []))) (tB (e2 (d2 cNe) (eMeth 2 [103, 111] m_Walk_go (eV 2) [(eV 3), (e1 bTup (eV 1))]) (eN fTup [(eN fTup []), (eK .non)]))))) (sRet (eK (.bl false))) sSkip) e s
noncomputable def l_bare_b1 (e : Env) (s : Sto) : R O := (sKill [3, 4] (sSeq (sIf (tOr (tB (e2 (d2 cNe) (eMeth 2 [114, 111, 119, 115, 95, 111, 102] m_Walk_rows_of (eV 2) [(eV 3)]) (eN fTup []))) (tB (e2 (d2 cNe) (eMeth 2 [107, 101, 121, 95, 111, 102] m_Walk_key_of (eV 2) [(eV 3), (eK (.str [120]))]) (eK (.str [120]))))) (sRet (eK (.bl false))) sSkip) l_bare_r1)) e s
noncomputable def l_bare_r2 (e : Env) (s : Sto) : R O := (sRet (eK (.bl true))) e s
def l_bare_u := And.intro @l_bare_r1.eq_1 (And.intro @l_bare_b1.eq_1 (And.intro @l_bare_r2.eq_1 True.intro))
noncomputable def l_bare : Fn := mkF 5 (sSeq (sAsg (gN 2) (eMkB 2)) (sSeq (sFor (iSeq (eV 0)) (gT [(gN 3), (gN 4)]) l_bare_b1) l_bare_r2))
noncomputable def l_due_c1 (e : Env) (s : Sto) : VS := (eV 7) e s
noncomputable def l_due_c2 (e : Env) (s : Sto) : VS := (eN fTup [(eK (.str [115, 97, 121])), (e2 oIx (e2 oIx (e2 oIx (e2 oIx (e2 oIx (e2 oIx (eV 0) (eK (.int 2))) (eK (.int 1))) (eV 9)) (eK (.int 1))) (eK (.int 0))) (eK (.int 1))), (e2 oIx (eV 3) (eK (.int 2))), (eV 9)]) e s
noncomputable def l_due_r1 (e : Env) (s : Sto) : R O := (sRet (eN fTup [(e1 bTup (e2 oAdd (eV 6) (eN fLst [(eN fTup [(eK (.str [115, 97, 121])), (eV 2), (e2 oIx (eV 3) (eK (.int 0))), (e2 (d2 oSub) (e1 bLen (e2 oIx (e2 oIx (eV 0) (eK (.int 0))) (eK (.int 1)))) (eK (.int 1)))])]))), (eK .non)])) e s
noncomputable def l_due_r2 (e : Env) (s : Sto) : R O := (sSeq (sIf (tB (e2 (d2 cGt) (eV 2) (eK (.int 0)))) (sAsg (gN 6) (e2 oAdd (eV 6) (eV 4))) sSkip) l_due_r1) e s
noncomputable def l_due_r3 (e : Env) (s : Sto) : R O := (sSeq (sAsg (gN 6) (e2 oAdd (eV 5) (eN fLst [(eN fTup [(eK (.str [115, 97, 121])), (e2 oAdd (eV 2) (eK (.int 4))), (e2 oIx (eV 3) (eK (.int 0))), (eK (.int 1))])]))) (sSeq (sIf (tB (e2 (d2 cLe) (e2 oAdd (eV 2) (eK (.int 2))) (eK (.int 0)))) (sRet (eN fTup [(e1 bTup (eV 6)), (eN fTup [(eK (.str [110, 101, 101, 100])), (e2 oIx (eV 3) (eK (.int 0))), (eK (.int 2)), (eK (.int 0))])])) sSkip) l_due_r2)) e s
noncomputable def l_due_r4 (e : Env) (s : Sto) : R O := (sSeq (sIf (tB (e2 (d2 cEq) (eV 1) (eK (.int 1)))) (sRet (eN fTup [(e1 bTup (eV 5)), (eK .non)])) sSkip) l_due_r3) e s
noncomputable def l_due_r5 (e : Env) (s : Sto) : R O := (sSeq (sAsg (gN 5) (eN fLst [(eN fTup [(eK (.str [116, 97, 107, 101])), (eV 2), (e2 oIx (eV 3) (eK (.int 1))), (eK (.int 0))]), (eN fTup [(eK (.str [115, 97, 121])), (eK (.int 8)), (e2 oIx (eV 3) (eK (.int 1))), (eK (.int 1))])])) (sSeq (sIf (tB (e2 (d2 cEq) (e2 oIx (e2 oIx (e2 oIx (e2 oIx (eV 0) (eK (.int 1))) (eK (.int 1))) (eK (.int 0))) (eK (.int 0))) (eK (.str [115, 97, 121])))) (sAsg (gN 5) (eN fLst [(eN fTup [(eK (.str [115, 97, 121])), (eK (.int 8)), (e2 oIx (eV 3) (eK (.int 1))), (eK (.int 0))]), (eN fTup [(eK (.str [116, 97, 107, 101])), (eV 2), (e2 oIx (eV 3) (eK (.int 1))), (eK (.int 1))])])) sSkip) l_due_r4)) e s
noncomputable def l_due_r6 (e : Env) (s : Sto) : R O := (sSeq (sIf (tB (e2 (d2 cEq) (eV 1) (eK (.int 2)))) (sRet (eN fTup [(e1 bTup (eV 4)), (eK .non)])) sSkip) l_due_r5) e s
def l_due_u := And.intro @l_due_c1.eq_1 (And.intro @l_due_c2.eq_1 (And.intro @l_due_r1.eq_1 (And.intro @l_due_r2.eq_1 (And.intro @l_due_r3.eq_1 (And.intro @l_due_r4.eq_1 (And.intro @l_due_r5.eq_1 (And.intro @l_due_r6.eq_1 True.intro)))))))
noncomputable def l_due : Fn := mkF 10 (sSeq (sAsg (gN 3) (eComp (iSeq (eV 0)) (gT [gN 7, gN 8]) tYes l_due_c1 [7, 8])) (sSeq (sAsg (gN 4) (eN fLst [])) (sSeq (sIf (tB (e2 (d2 cEq) (e1 bLen (eV 0)) (eK (.int 3)))) (sAsg (gN 4) (eComp (iR1 (e1 bLen (e2 oIx (e2 oIx (eV 0) (eK (.int 2))) (eK (.int 1))))) (gN 9) tYes l_due_c2 [9])) sSkip) l_due_r6)))
noncomputable def l_gone_b1 (e : Env) (s : Sto) : R O := (sKill [6] (sIf (tOr (tNot (tB (e1 (isI .tuple) (eV 6)))) (tOr (tB (e2 (d2 cNe) (e1 bLen (eV 6)) (eK (.int 4)))) (tOr (tNot (tB (eN (callP l_whole) [(e2 oIx (eV 6) (eK (.int 1)))]))) (tNot (tB (eN (callP l_whole) [(e2 oIx (eV 6) (eK (.int 3)))])))))) (sRet (eK (.bl false))) sSkip)) e s
noncomputable def l_gone_r1 (e : Env) (s : Sto) : R O := (sRet (e2 (d2 cEq) (eV 4) (eN (callP l_due) [(eV 1), (eV 2), (eV 5)]))) e s
noncomputable def l_gone_r2 (e : Env) (s : Sto) : R O := (sSeq (sIf (tAnd (tB (e1 cNotN (e2 oIx (eV 4) (eK (.int 1))))) (tOr (tNot (tB (e1 (isI .tuple) (e2 oIx (eV 4) (eK (.int 1)))))) (tNot (tB (eN (callP l_whole) [(e2 oIx (e2 oIx (eV 4) (eK (.int 1))) (eK (.int 2)))]))))) (sRet (eK (.bl false))) sSkip) l_gone_r1) e s
noncomputable def l_gone_r3 (e : Env) (s : Sto) : R O := (sSeq (sFor (iSeq (e2 oIx (eV 4) (eK (.int 0)))) (gN 6) l_gone_b1) l_gone_r2) e s
def l_gone_u := And.intro @l_gone_b1.eq_1 (And.intro @l_gone_r1.eq_1 (And.intro @l_gone_r2.eq_1 (And.intro @l_gone_r3.eq_1 True.intro)))
noncomputable def l_gone : Fn := mkF 7 (sSeq (sAsg (gN 4) (eMeth 1 [103, 111] m_PartsWalk_go (eV 0) [(e2 oIx (e2 oIx (eV 1) (eV 2)) (eK (.int 0))), (e1 bTup (eV 3))])) (sSeq (sAsg (gN 5) (e2 oIx (e2 oAdd (eV 3) (eN fLst [(eK (.int 0))])) (eK (.int 0)))) (sSeq (sIf (tOr (tNot (tB (e1 (isI .tuple) (eV 4)))) (tOr (tB (e2 (d2 cNe) (e1 bLen (eV 4)) (eK (.int 2)))) (tNot (tB (e1 (isI .tuple) (e2 oIx (eV 4) (eK (.int 0)))))))) (sRet (eK (.bl false))) sSkip) l_gone_r3)))
noncomputable def law__r1 (e : Env) (s : Sto) : R O := (sIf (tOr (tNot (tB (eN (callM l_gone) [(eV 4), (eV 1), (eK (.int 0)), (eV 7)]))) (tNot (tB (eN (callM l_told) [(eV 5), (eV 2)])))) (sRet (eK (.bl false))) sSkip) e s
noncomputable def law__b1 (e : Env) (s : Sto) : R O := (sKill [7] (sSeq (sIf (tOr (tNot (tB (eN (callM l_gone) [(eV 4), (eV 1), (eV 6), (eV 7)]))) (tNot (tB (eN (callM l_gone) [(eV 5), (eV 2), (e2 (d2 oMod) (eV 6) (eK (.int 2))), (eV 7)])))) (sRet (eK (.bl false))) sSkip) law__r1)) e s
noncomputable def law__r2 (e : Env) (s : Sto) : R O := (sRet (eAnd (eN (callM l_told) [(eV 4), (eV 1)]) (eN (callP l_bare) [(eV 1), (eV 3)]))) e s
def law__u := And.intro @law__r1.eq_1 (And.intro @law__b1.eq_1 (And.intro @law__r2.eq_1 True.intro))
noncomputable def law_ : Fn := mkF 8 (sSeq (sAsg (gN 1) (eN (callP l_parts) [(eV 0)])) (sSeq (sAsg (gN 2) (eN fLst [(eN fTup [(e2 oIx (e2 oIx (eV 1) (eK (.int 0))) (eK (.int 0))), (e2 oAdd (eSl (e2 oIx (e2 oIx (eV 1) (eK (.int 0))) (eK (.int 1))) none (some (eK (.int 3)))) (eSl (e2 oIx (e2 oIx (eV 1) (eK (.int 0))) (eK (.int 1))) (some (eK (.int 4))) none))]), (e2 oIx (eV 1) (eK (.int 1)))])) (sSeq (sAsg (gN 3) (eN fLst [(eN (callP l_number) [(eN (callP l_cell_at) [(eV 0), (eK (.int 3))])]), (eN (callP l_number) [(eN (callP l_cell_at) [(eV 0), (eK (.int 4))])])])) (sSeq (sAsg (gN 4) (eMake 1 m_PartsWalk___init__K [(e1 bTup (eV 1))])) (sSeq (sAsg (gN 5) (eMake 1 m_PartsWalk___init__K [(e1 bTup (eV 2))])) (sSeq (sAsg (gN 6) (e2 (d2 oMod) (e2 (d2 oDiv) (eN (callP l_cell_at) [(eV 0), (eK (.int 2))]) (eK (.int 2))) (eK (.int 3)))) (sSeq (sFor (iSeq (eN fLst [(eV 3), (eN fLst []), (e1 bLstRvD (eV 3)), (eV 3)])) (gN 7) law__b1) law__r2)))))))
/-! ### names -/
def baseN (f : Int) : Nm := if f % 5 = 0 then [] else if f % 5 = 1 then [119] else if f % 5 = 2 then [116, 97, 107, 101] else if f % 5 = 3 then [103, 111, 55] else [119, 97, 108, 107, 115]
def atN (f : Int) : Nat := (f / 5 % ((baseN f).length + 1 : Nat)).toNat
def nm6 (f : Int) (k : Nat) : Nm := (baseN f).take (atN f) ++ [97 + k] ++ (baseN f).drop (atN f)
theorem baseN_len (f : Int) : (baseN f).length ≤ 5 := by unfold baseN; (repeat' split) <;> simp
theorem atN_le (f : Int) : atN f ≤ (baseN f).length := by
  unfold atN
  have := Int.emod_lt_of_pos (f / 5) (b := (((baseN f).length + 1 : Nat) : Int)) (by omega)
  have := Int.emod_nonneg (f / 5) (b := (((baseN f).length + 1 : Nat) : Int)) (by omega)
  omega
theorem nm6_inj {f : Int} {j k : Nat} (h : nm6 f j = nm6 f k) : j = k := by
  unfold nm6 at h
  rw [List.append_assoc, List.append_assoc] at h
  have := List.append_cancel_left h
  simp at this
  omega
theorem nm6_ok (f : Int) {k : Nat} (hk : k < 8) : GoodT (nm6 f k) := by
  have h1 := baseN_len f
  have h3 : ∀ c ∈ baseN f, c < 0x110000 := by
    unfold baseN
    repeat' split
    all_goals (intro c hc; simp at hc; try omega)
  refine ⟨by unfold nm6; simp only [List.length_append, List.length_take, List.length_drop, List.length_singleton]; omega, ?_⟩
  rw [List.all_eq_true]
  intro c hc
  refine decide_eq_true ?_
  unfold nm6 at hc
  rcases List.mem_append.mp hc with hc | hc
  · rcases List.mem_append.mp hc with hc | hc
    · exact h3 c (List.mem_of_mem_take hc)
    · rw [List.mem_singleton.mp hc]; omega
  · exact h3 c (List.mem_of_mem_drop hc)
theorem abc_at : ∀ i : Nat, i < 8 → ([97, 98, 99, 100, 101, 102, 103, 104] : List Nat).getD i 0 = 97 + i := by decide
theorem l_name_c (f : Int) {k : Int} (hk : 0 ≤ k ∧ k < 8) (s : Sto) : callP l_name [.d (.int f), .d (.int k)] s = .ok (.d (.str (nm6 f k.toNat)), s) := by
  have h5 := Int.emod_nonneg f (b := 5) (by decide)
  have h6 := Int.emod_lt_of_pos f (b := 5) (by decide)
  have lt := fun s => ixSt [97, 98, 99, 100, 101, 102, 103, 104] (i := k) ⟨hk.1, by simpa using hk.2, by decide⟩ s
  rw [abc_at _ (by omega)] at lt
  have le := atN_le f
  have lb := baseN_len f
  have ix : ∀ s, ixW [.d (.str []), .d (.str [119]), .d (.str [116, 97, 107, 101]), .d (.str [103, 111, 55]), .d (.str [119, 97, 108, 107, 115])] (.d (.int (f % 5))) s = .ok (.d (.str (baseN f)), s) := fun s => by
    rw [show ixW [.d (.str []), .d (.str [119]), .d (.str [116, 97, 107, 101]), .d (.str [103, 111, 55]), .d (.str [119, 97, 108, 107, 115])] (.d (.int (f % 5))) s = _ from ixW_str [[], [119], [116, 97, 107, 101], [103, 111, 55], [119, 97, 108, 107, 115]] (i := f % 5) ⟨h5, by simpa using h6⟩ s]
    unfold baseN
    have : f % 5 = 0 ∨ f % 5 = 1 ∨ f % 5 = 2 ∨ f % 5 = 3 ∨ f % 5 = 4 := by omega
    rcases this with e | e | e | e | e <;> rw [e] <;> rfl
  have hm := oMod_i (f / 5) (((baseN f).length : Int) + 1) (by omega)
  have ha : f / 5 % (((baseN f).length : Int) + 1) = ((atN f : Nat) : Int) := by
    unfold atN
    have e : (((baseN f).length + 1 : Nat) : Int) = ((baseN f).length : Int) + 1 := by omega
    rw [e]
    have := Int.emod_nonneg (f / 5) (b := ((baseN f).length : Int) + 1) (by omega)
    omega
  rw [ha] at hm
  have c1 : cut (baseN f) none (some ((atN f : Nat) : Int)) = (baseN f).take (atN f) := by
    unfold cut sIx
    have hn : ¬ ((atN f : Nat) : Int) < 0 := by omega
    simp [hn]
  have c2 : cut (baseN f) (some ((atN f : Nat) : Int)) none = (baseN f).drop (atN f) := by
    unfold cut sIx
    have hn : ¬ ((atN f : Nat) : Int) < 0 := by omega
    simp only [hn, if_false, Int.toNat_natCast, Nat.min_eq_left le]
    exact List.take_of_length_le (by simp)
  have l1 : ((baseN f).take (atN f)).length ≤ 5 := by rw [List.length_take]; omega
  have l2 : ((baseN f).drop (atN f)).length ≤ 5 := by rw [List.length_drop]; omega
  have a1 := fun s => oAdd_sc (x := (baseN f).take (atN f)) (y := [97 + k.toNat]) (by simp; omega) s
  have a2 := fun s => oAdd_sc (x := (baseN f).take (atN f) ++ [97 + k.toNat]) (y := (baseN f).drop (atN f)) (by simp; omega) s
  unfold nm6
  generalize (baseN f).take (atN f) = b1 at *
  generalize (baseN f).drop (atN f) = b2 at *
  generalize atN f = at_ at *
  generalize baseN f = b at *
  simp_all! only [l_name, ix, hm, lt, c1, c2, a1, a2]
/-! ### the parts -/
structure WP where
  n0 : Nm
  n1 : Nm
  n2 : Nm
  own : Nm
  there : Nm
  given : Nm
  sw : Bool
  cs : List Int
structure WP.Ok (w : WP) : Prop where
  g0 : GoodT w.n0
  g1 : GoodT w.n1
  g2 : GoodT w.n2
  d01 : w.n0 ≠ w.n1
  d02 : w.n0 ≠ w.n2
  d12 : w.n1 ≠ w.n2
  go : GoodT w.own
  gt : GoodT w.there
  gg : GoodT w.given
  cl : w.cs.length ≤ 40
def r1 (w : WP) : Row := .say [(1, .nm w.own), (1, .num 4)] none
def r2 (w : WP) : Row := .need [(1, .nm w.own), (1, .num 2)]
def r4 (w : WP) : Row := .say [(1, .nm w.own)] none
def oneR (w : WP) (b : Bool) : List Row := if b then [.bring w.n1 [(w.given, w.own)], r1 w, r2 w, .ask w.n2 (some w.own), r4 w] else [.bring w.n1 [(w.given, w.own)], r1 w, r2 w, r4 w]
def rT (w : WP) : Row := .take w.there
def rS : Row := .say [(1, .num 8)] none
def twoR (w : WP) : List Row := if w.sw then [rS, rT w, .give w.there w.given] else [rT w, rS, .give w.there w.given]
def threeR (w : WP) : List Row := w.cs.map fun c => .say [(1, .num c)] none
def PW (w : WP) (b : Bool) : List Part := if b then [(w.n0, oneR w true), (w.n1, twoR w), (w.n2, threeR w)] else [(w.n0, oneR w false), (w.n1, twoR w)]
theorem l_parts_c (ns : List Int) (hl : ns.length ≤ 63) : ∃ w : WP, w.Ok ∧ ∀ s, callP l_parts [.d (.inp (ns.map .int))] s = .ok (.d (.lst (ePs (PW w true))), s) := by
  have C0 := fun s => l_cell_at_c ns 0 (by omega) s
  have C1 := fun s => l_cell_at_c ns 1 (by omega) s
  have C2 := fun s => l_cell_at_c ns 2 (by omega) s
  generalize cellAt ns 0 = f at *
  generalize cellAt ns 1 = c at *
  generalize cellAt ns 2 = q at *
  have e8 : ∀ i : Int, 0 ≤ i % 8 ∧ i % 8 < 8 := fun i => by omega
  have N0 := fun s => l_name_c f (k := 0) (by omega) s
  have N1 := fun s => l_name_c f (k := 1) (by omega) s
  have N2 := fun s => l_name_c f (k := 2) (by omega) s
  have No := fun s => l_name_c (f / 7) (k := c % 8) (e8 _) s
  have Nt := fun s => l_name_c (f / 7) (k := c / 8 % 8) (e8 _) s
  have Ng := fun s => l_name_c (f / 7) (k := c / 64 % 8) (e8 _) s
  let w : WP := ⟨nm6 f 0, nm6 f 1, nm6 f 2, nm6 (f / 7) (c % 8).toNat, nm6 (f / 7) (c / 8 % 8).toNat, nm6 (f / 7) (c / 64 % 8).toNat, decide (q % 2 = 1), (cut ns (some 5) (some 45)).map fun x => x % 10 ^ 60⟩
  have lc : (cut ns (some 5) (some 45)).length ≤ 40 := by unfold cut; rw [List.length_take]; unfold sIx; simp; omega
  have hw : w.Ok := by
    refine ⟨nm6_ok f (by omega), nm6_ok f (by omega), nm6_ok f (by omega), fun e => ?_, fun e => ?_, fun e => ?_, nm6_ok _ (by omega), nm6_ok _ (by omega), nm6_ok _ (by omega), ?_⟩
    · have := nm6_inj e; omega
    · have := nm6_inj e; omega
    · have := nm6_inj e; omega
    · show ((cut ns (some 5) (some 45)).map _).length ≤ 40
      rw [List.length_map]; exact lc
  refine ⟨w, hw, fun s => ?_⟩
  have p60 : (10 : Int) ^ 60 ≠ 0 := by decide
  have Cm := fun (w0 w1 w2 w3 w4 w5 w6 : Option W) (s : Sto) => comp_all (gN 8) l_parts_c1 [8] [w0, w1, w2, w3, w4, w5, w6, e_, e_] s (fun x : Int => W.d (.int x)) (fun x => eRow (.say [(1, .num (x % 10 ^ 60))] none)) (cut ns (some 5) (some 45)) fun x _ => by
    refine ⟨_, rfl, ?_⟩
    simp only [eRow, eOn, List.map_cons, List.map_nil, eTm, eTh]
    simp_all! only [l_parts_c1]
  have e3 : ((cut ns (some 5) (some 45)).map fun x => eRow (.say [(1, .num (x % 10 ^ 60))] none)) = (threeR w).map eRow := by
    show _ = (((cut ns (some 5) (some 45)).map fun x => x % 10 ^ 60).map fun c => Row.say [(1, .num c)] none).map eRow
    rw [List.map_map, List.map_map]; rfl
  rw [e3] at Cm
  have e4 : ((cut ns (some 5) (some 45)).map fun x : Int => W.d (.int x)) = ws (cut (ns.map D.int) (some 5) (some 45)) := by
    rw [cut_map, ws_map]
  rw [e4] at Cm
  have l3 : ((threeR w).map eRow).length ≤ 1000 := by
    unfold threeR; rw [List.length_map, List.length_map]; have := hw.cl; omega
  have l4 : (cut (ns.map D.int) (some 5) (some 45)).length ≤ 1000 := by rw [cut_map, List.length_map]; omega
  have eP : ePs (PW w true) = [.tup [.str w.n0, .tup ((oneR w true).map eRow)], .tup [.str w.n1, .tup ((twoR w).map eRow)], .tup [.str w.n2, .tup ((threeR w).map eRow)]] := rfl
  rw [eP]
  have e1 : (oneR w true).map eRow = [eRow (.bring w.n1 [(w.given, w.own)]), eRow (r1 w), eRow (r2 w), eRow (.ask w.n2 (some w.own)), eRow (r4 w)] := rfl
  have e2 : (twoR w).map eRow = if q % 2 = 1 then [eRow rS, eRow (rT w), eRow (.give w.there w.given)] else [eRow (rT w), eRow rS, eRow (.give w.there w.given)] := by
    show (if decide (q % 2 = 1) = true then [rS, rT w, Row.give w.there w.given] else [rT w, rS, Row.give w.there w.given]).map eRow = _
    by_cases h : q % 2 = 1 <;> simp [h]
  rw [e1, e2]
  clear e1 e2 eP e3 e4 hw lc
  have t0 : (0 : Int).toNat = 0 := rfl
  have t1 : (1 : Int).toNat = 1 := rfl
  have t2 : (2 : Int).toNat = 2 := rfl
  rw [t0] at N0
  rw [t1] at N1
  rw [t2] at N2
  generalize (threeR w).map eRow = TR at *
  have hn0 : w.n0 = nm6 f 0 := rfl
  have hn1 : w.n1 = nm6 f 1 := rfl
  have hn2 : w.n2 = nm6 f 2 := rfl
  have ho : w.own = nm6 (f / 7) (c % 8).toNat := rfl
  have ht : w.there = nm6 (f / 7) (c / 8 % 8).toNat := rfl
  have hg : w.given = nm6 (f / 7) (c / 64 % 8).toNat := rfl
  unfold r1 r2 r4 rS rT
  simp only [eRow, eOn, List.map_cons, List.map_nil, eTm, eTh, ePr]
  rw [← hn0] at N0
  rw [← hn1] at N1
  rw [← hn2] at N2
  rw [← ho] at No
  rw [← ht] at Nt
  rw [← hg] at Ng
  clear hn0 hn1 hn2 ho ht hg
  generalize w.n0 = n0 at *
  generalize w.n1 = n1 at *
  generalize w.n2 = n2 at *
  generalize w.own = ow at *
  generalize w.there = th at *
  generalize w.given = gi at *
  clear_value w
  generalize ns.map D.int = NN at *
  by_cases h : q % 2 = 1
  · simp only [h, if_true]
    simp_all! only [l_parts, ↓C0, ↓C1, ↓C2, ↓N0, ↓N1, ↓N2, ↓No, ↓Nt, ↓Ng, h, l_parts_r1, Cm, l3, l4]
  · simp only [h, if_false]
    simp_all! only [l_parts, ↓C0, ↓C1, ↓C2, ↓N0, ↓N1, ↓N2, ↓No, ↓Nt, ↓Ng, h, l_parts_r1, Cm, l3, l4]
/-! ### the runs -/
def ktN (w : WP) : Nat := if w.sw then 1 else 0
def keyC (w : WP) (_ _ : Nm) : Nm × Int := (w.n1, (ktN w : Int))
section
variable {w : WP} (hw : w.Ok) (b : Bool)
include hw
theorem rows0 : rowsOf (PW w b) w.n0 = oneR w b := by
  unfold rowsOf PW
  cases b <;> simp
theorem rows1 : rowsOf (PW w b) w.n1 = twoR w := by
  have := hw.d01
  unfold rowsOf PW
  cases b <;> simp [this]
theorem rows2 : rowsOf (PW w true) w.n2 = threeR w := by
  have h1 := hw.d02
  have h2 := hw.d12
  unfold rowsOf PW
  simp [h1, h2]
theorem rows_in {x : Nm} {r : Row} (hr : r ∈ rowsOf (PW w b) x) : (x = w.n0 ∧ r ∈ oneR w b) ∨ (x = w.n1 ∧ r ∈ twoR w) ∨ (x = w.n2 ∧ r ∈ threeR w) := by
  obtain ⟨p, hp, rfl, hm⟩ := rowsOf_of hr
  unfold PW at hp
  cases b
  · simp at hp
    rcases hp with rfl | rfl
    · exact .inl ⟨rfl, hm⟩
    · exact .inr (.inl ⟨rfl, hm⟩)
  · simp at hp
    rcases hp with rfl | rfl | rfl
    · exact .inl ⟨rfl, hm⟩
    · exact .inr (.inl ⟨rfl, hm⟩)
    · exact .inr (.inr ⟨rfl, hm⟩)
theorem made1 : madeIn (rowsOf (PW w b) w.n1) w.there = some (ktN w) := by
  rw [rows1 hw]
  unfold madeIn twoR ktN
  cases w.sw <;> simp [rT, rS, mkT, List.findIdx?_cons]
theorem made0 : madeIn (rowsOf (PW w b) w.n0) w.own = none := by
  rw [rows0 hw]
  unfold madeIn oneR
  cases b <;> simp [r1, r2, r4, mkT, List.findIdx?_cons]
theorem mk1 (s : Sto) : callP p_maker [.d (.tup (ePs (PW w b))), .d (.str w.n1), .d (.str w.there)] s = .ok (.d (kSI (w.n1, (ktN w : Int))), s) := maker_here (X := .tup (ePs (PW w b))) (.inl rfl) (made1 hw b) s
theorem onw0 : onw (PW w b) w.n0 w.own = some (w.n1, w.there) := by
  unfold onw
  rw [made0 hw]
  have h1 : brF (rowsOf (PW w b) w.n0) w.own = some (w.n1, w.given) := by
    rw [rows0 hw]
    unfold oneR brF
    cases b <;> simp [List.findSome?_cons, brR]
  have h2 : gvF (rowsOf (PW w b) w.n1) w.given = some w.there := by
    rw [rows1 hw]
    unfold twoR gvF
    cases w.sw <;> simp [List.findSome?_cons, gvR, rS, rT]
  rw [h1]
  simp only
  rw [h2]; rfl
theorem mk0 (s : Sto) : callP p_maker [.d (.tup (ePs (PW w b))), .d (.str w.n0), .d (.str w.own)] s = .ok (.d (kSI (w.n1, (ktN w : Int))), s) := by
  obtain ⟨h1, o2, h2, h3⟩ := p_maker_c (X := .tup (ePs (PW w b))) (P := PW w b) (.inl rfl) (fun x _ => if x = w.n0 then 1 else 0) (fun x o => (x = w.n0 ∧ o = w.own) ∨ (x = w.n1 ∧ o = w.there)) (fun x o ho => by
    rcases ho with ⟨rfl, rfl⟩ | ⟨rfl, rfl⟩
    · refine .inr ⟨w.n1, w.there, onw0 hw b, .inr ⟨rfl, rfl⟩, ?_⟩
      rw [if_neg (Ne.symm hw.d01), if_pos rfl]; omega
    · exact .inl ⟨_, made1 hw b⟩) w.n0 w.own (.inl ⟨rfl, rfl⟩) (by rw [if_pos rfl]; omega)
  rw [h1]
  generalize makerL (PW w b) w.n0 w.own = m at *
  obtain ⟨x, k⟩ := m
  simp only at h2 h3 ⊢
  rcases h2 with ⟨rfl, rfl⟩ | ⟨rfl, rfl⟩
  · rw [made0 hw b] at h3; cases h3
  · rw [made1 hw b] at h3; cases h3; rfl
theorem rowKw : ∀ x, ∀ r ∈ rowsOf (PW w b) x, RowK (.tup (ePs (PW w b))) x (keyC w x) r := fun x r hr => by
  rcases rows_in hw b hr with ⟨rfl, hm⟩ | ⟨rfl, hm⟩ | ⟨rfl, hm⟩
  · have key : ∀ q : Int × Nm, q.2 = w.own → ∀ s, callP p_maker [.d (.tup (ePs (PW w b))), .d (.str w.n0), .d (.str q.2)] s = .ok (.d (kSI (keyC w w.n0 q.2)), s) := fun q e s => by rw [e]; exact mk0 hw b s
    have hm : r = .bring w.n1 [(w.given, w.own)] ∨ r = r1 w ∨ r = r2 w ∨ r = .ask w.n2 (some w.own) ∨ r = r4 w := by
      unfold oneR at hm
      cases b <;> simp at hm
      · rcases hm with h | h | h | h <;> simp [h]
      · rcases hm with h | h | h | h | h <;> simp [h]
    rcases hm with rfl | rfl | rfl | rfl | rfl
    · exact ⟨by simp [tmL], fun q hq => (by cases hq), fun q hq => (by cases hq), fun z hz => (by cases hz)⟩
    · exact ⟨by simp [tmL, r1], fun q hq => (by simp [tmL, r1] at hq; rcases hq with rfl | rfl <;> rfl), fun q hq => key q (by simp [rdN, r1, sumN] at hq; rw [hq]), fun z hz => (by cases hz)⟩
    · exact ⟨by simp [tmL, r2], fun q hq => (by simp [tmL, r2] at hq; rcases hq with rfl | rfl <;> rfl), fun q hq => key q (by simp [rdN, r2, sumN] at hq; rw [hq]), fun z hz => (by cases hz)⟩
    · exact ⟨by simp [tmL], fun q hq => (by cases hq), fun q hq => key q (by simp [rdN] at hq; rw [hq]), fun z hz => (by cases hz)⟩
    · exact ⟨by simp [tmL, r4], fun q hq => (by simp [tmL, r4] at hq; rw [hq]; rfl), fun q hq => key q (by simp [rdN, r4, sumN] at hq; rw [hq]), fun z hz => (by cases hz)⟩
  · have hm : r = rS ∨ r = rT w ∨ r = .give w.there w.given := by
      unfold twoR at hm
      cases hs : w.sw <;> rw [hs] at hm <;> simp at hm
      · rcases hm with h | h | h <;> simp [h]
      · rcases hm with h | h | h <;> simp [h]
    rcases hm with rfl | rfl | rfl
    · exact ⟨by simp [tmL, rS], fun q hq => (by simp [tmL, rS] at hq; rw [hq]; rfl), fun q hq => by simp [rdN, rS, sumN] at hq, fun z hz => (by cases hz)⟩
    · exact ⟨by simp [tmL, rT], fun q hq => (by cases hq), fun q hq => (by cases hq), fun z hz s => (by cases hz; exact mk1 hw b s)⟩
    · exact ⟨by simp [tmL], fun q hq => (by cases hq), fun q hq => (by cases hq), fun z hz => (by cases hz)⟩
  · obtain ⟨c, _, rfl⟩ := List.mem_map.mp hm
    exact ⟨by simp [tmL], fun q hq => (by simp [tmL] at hq; rw [hq]; rfl), fun q hq => by simp [rdN, sumN] at hq, fun z hz => (by cases hz)⟩
end
def secW (w : WP) (v : Int) : List D := if w.sw then [sayE 8 w.n1 0, tkE v w.n1 1] else [tkE v w.n1 0, sayE 8 w.n1 1]
def thdW (w : WP) : List D := (List.range w.cs.length).map fun k => sayE (w.cs.getD k 0) w.n2 k
def fstW (w : WP) (b : Bool) (v : Int) : List D × D :=
  if v + 2 ≤ 0 then (secW w v ++ [sayE (v + 4) w.n0 1], ftN w.n0 2)
  else (secW w v ++ [sayE (v + 4) w.n0 1] ++ (if 0 < v then (if b then thdW w else []) else []) ++ [sayE v w.n0 (if b then 4 else 3)], .non)
def tk1 (N : List Int) : Nat := if 0 < N.length then 0 + 1 else 0
section
variable {w : WP} (hw : w.Ok) (b : Bool)
include hw
theorem beg1 (N : List Int) (m : Nat) (f : List Nm) (hf : w.n1 ∉ f) : begF (PW w b) (keyC w) N (m + 1) w.n1 ⟨0, [], f, [], .non⟩ = ⟨tk1 N, [((w.n1, (ktN w : Int)), N.getD 0 0)], f ++ [w.n1], secW w (N.getD 0 0), .non⟩ := by
  rw [begF, if_neg hf, rows1 hw]
  unfold secW twoR ktN keyC ktN
  cases hs : w.sw
  · rfl
  · rfl
theorem say_n {beg : Nm → Tr → Tr} {key : Nm → Nm × Int} {N : List Int} {x : Nm} {k : Nat} (c : Int) (st : Tr) : rowF beg key N x k (.say [(1, .num c)] none) st = ⟨st.tk, st.kn, st.bg, st.tc ++ [sayE c x k], st.ft⟩ := by
  have : rowF beg key N x k (.say [(1, .num c)] none) st = ⟨st.tk, st.kn, st.bg, st.tc ++ [sayE (0 + 1 * c) x k], st.ft⟩ := rfl
  rw [this, Int.zero_add, Int.one_mul]
theorem beg2 (N : List Int) (m : Nat) (tk : Nat) (kn : List ((Nm × Int) × Int)) (f : List Nm) (tc : List D) (hf : w.n2 ∉ f) : begF (PW w true) (keyC w) N (m + 1) w.n2 ⟨tk, kn, f, tc, .non⟩ = ⟨tk, kn, f ++ [w.n2], tc ++ thdW w, .non⟩ := by
  rw [begF, if_neg hf, rows2 hw]
  have R := rowsF_run (beg := begF (PW w true) (keyC w) N m) (key := keyC w w.n2) (N := N) (x := w.n2) (fun i => ⟨tk, kn, f ++ [w.n2], tc ++ (thdW w).take i, .non⟩) (numR (threeR w)) 0 (fun i hi => by
    have hl : i < w.cs.length := by rw [numR_len] at hi; unfold threeR at hi; rwa [List.length_map] at hi
    rw [numR_get]
    have e : (threeR w)[i]'(by unfold threeR; rw [List.length_map]; exact hl) = .say [(1, .num (w.cs[i]))] none := by unfold threeR; rw [List.getElem_map]
    simp only [e]
    rw [say_n hw, Nat.zero_add]
    have et : (thdW w).take (i + 1) = (thdW w).take i ++ [sayE w.cs[i] w.n2 i] := by
      have hg : (thdW w)[i]? = some (sayE w.cs[i] w.n2 i) := by
        unfold thdW
        rw [List.getElem?_map, List.getElem?_range hl, Option.map_some, List.getD_eq_getElem?_getD, List.getElem?_eq_getElem hl]; rfl
      rw [List.take_add_one, hg]; rfl
    rw [et, List.append_assoc]) (fun i => rfl)
  have h0 : tc ++ (thdW w).take 0 = tc := by rw [List.take_zero, List.append_nil]
  rw [h0] at R
  rw [R]
  have hl : (thdW w).take (0 + (numR (threeR w)).length) = thdW w := List.take_of_length_le (by rw [numR_len]; unfold thdW threeR; rw [List.length_map, List.length_map, List.length_range]; omega)
  rw [hl]
theorem row_c {beg : Nm → Tr → Tr} {N : List Int} {x : Nm} (r : Row) (k : Nat) (l : List (Nat × Row)) (st : Tr) : rowsF beg (keyC w x) N x ((k, r) :: l) st = if isN (rowF beg (keyC w x) N x k r st).ft = true then rowsF beg (keyC w x) N x l (rowF beg (keyC w x) N x k r st) else rowF beg (keyC w x) N x k r st := rfl
theorem run0 (N : List Int) : (begF (PW w b) (keyC w) N 30 w.n0 stA).tc = (fstW w b (N.getD 0 0)).1 ∧ (begF (PW w b) (keyC w) N 30 w.n0 stA).ft = (fstW w b (N.getD 0 0)).2 := by
  have hd01 := hw.d01
  have hd02 := hw.d02
  have hd12 := hw.d12
  rw [begF_start, rows0 hw]
  have B1 := beg1 hw b N 28 [w.n0] (by simp; exact Ne.symm hd01)
  generalize hv : N.getD 0 0 = v at *
  have hk : ∀ z, dGet [((w.n1, (ktN w : Int)), v)] (keyC w w.n0 z) = some v := fun z => by rw [dGet_cons]; exact if_pos rfl
  have S1 : ∀ (k : Nat) (f : List Nm) (tc : List D), rowF (begF (PW w b) (keyC w) N 29) (keyC w w.n0) N w.n0 k (r1 w) ⟨tk1 N, [((w.n1, (ktN w : Int)), v)], f, tc, .non⟩ = ⟨tk1 N, [((w.n1, (ktN w : Int)), v)], f, tc ++ [sayE (v + 4) w.n0 k], .non⟩ := fun k f tc => by
    have := rowF_say (beg := begF (PW w b) (keyC w) N 29) (key := keyC w w.n0) (N := N) (x := w.n0) (k := k) (st := ⟨tk1 N, [((w.n1, (ktN w : Int)), v)], f, tc, .non⟩) (va := fun _ => v) (t := [(1, .nm w.own), (1, .num 4)]) (fun z _ => hk z)
    have e : vaT (fun _ => v) [(1, Th.nm w.own), (1, Th.num 4)] = v + 4 := by show (0 + 1 * v) + 1 * 4 = v + 4; omega
    rw [e] at this
    exact this
  have S4 : ∀ (k : Nat) (f : List Nm) (tc : List D), rowF (begF (PW w b) (keyC w) N 29) (keyC w w.n0) N w.n0 k (r4 w) ⟨tk1 N, [((w.n1, (ktN w : Int)), v)], f, tc, .non⟩ = ⟨tk1 N, [((w.n1, (ktN w : Int)), v)], f, tc ++ [sayE v w.n0 k], .non⟩ := fun k f tc => by
    have := rowF_say (beg := begF (PW w b) (keyC w) N 29) (key := keyC w w.n0) (N := N) (x := w.n0) (k := k) (st := ⟨tk1 N, [((w.n1, (ktN w : Int)), v)], f, tc, .non⟩) (va := fun _ => v) (t := [(1, .nm w.own)]) (fun z _ => hk z)
    have e : vaT (fun _ => v) [(1, Th.nm w.own)] = v := by show 0 + 1 * v = v; omega
    rw [e] at this
    exact this
  have S2 : ∀ (k : Nat) (f : List Nm) (tc : List D), rowF (begF (PW w b) (keyC w) N 29) (keyC w w.n0) N w.n0 k (r2 w) ⟨tk1 N, [((w.n1, (ktN w : Int)), v)], f, tc, .non⟩ = if v + 2 ≤ 0 then ⟨tk1 N, [((w.n1, (ktN w : Int)), v)], f, tc, ftN w.n0 k⟩ else ⟨tk1 N, [((w.n1, (ktN w : Int)), v)], f, tc, .non⟩ := fun k f tc => by
    obtain ⟨th, e1, e2⟩ := rowF_all (beg := begF (PW w b) (keyC w) N 29) (key := keyC w w.n0) (N := N) (x := w.n0) (k := k) (r := r2 w) (st := ⟨tk1 N, [((w.n1, (ktN w : Int)), v)], f, tc, .non⟩) (va := fun _ => v) (fun q _ => hk q.2) (fun z hz => by cases hz)
    rw [e1]
    have e : vaT (fun _ => v) (tmL (r2 w)) = v + 2 := by show (0 + 1 * v) + 1 * 2 = v + 2; omega
    rw [e] at e2
    show (if valT th (tmL (r2 w)) ≤ 0 then _ else _) = _
    rw [e2]
  have S3 : ∀ (k : Nat) (f : List Nm) (tc : List D), rowF (begF (PW w b) (keyC w) N 29) (keyC w w.n0) N w.n0 k (.ask w.n2 (some w.own)) ⟨tk1 N, [((w.n1, (ktN w : Int)), v)], f, tc, .non⟩ = if 0 < v then begF (PW w b) (keyC w) N 29 w.n2 ⟨tk1 N, [((w.n1, (ktN w : Int)), v)], f, tc, .non⟩ else ⟨tk1 N, [((w.n1, (ktN w : Int)), v)], f, tc, .non⟩ := fun k f tc => by
    have ef : fdL (keyC w w.n0) [((w.n1, (ktN w : Int)), v)] (some w.own) [(3, w.own)] [] = match dGet [((w.n1, (ktN w : Int)), v)] (keyC w w.n0 w.own) with
      | none => .early 3
      | some v' => if some w.own = some w.own ∧ v' ≤ 0 then .no else .yes (dPut [] w.own v') := rfl
    rw [hk] at ef
    simp only at ef
    unfold rowF
    simp only [whR, rdN]
    rw [ef]
    by_cases c : 0 < v
    · rw [if_neg (fun h => by have := h.2; omega), if_pos c]; rfl
    · rw [if_pos ⟨trivial, by omega⟩, if_neg c]
  have S0 : ∀ ps, rowF (begF (PW w b) (keyC w) N 29) (keyC w w.n0) N w.n0 0 (.bring w.n1 ps) ⟨0, [], [w.n0], [], .non⟩ = ⟨tk1 N, [((w.n1, (ktN w : Int)), v)], [w.n0] ++ [w.n1], secW w v, .non⟩ := fun ps => B1
  have nn : isN D.non = true := rfl
  have nf : ∀ k, isN (ftN w.n0 k) = false := fun k => rfl
  unfold fstW
  cases b
  · have en : numR (oneR w false) = [(0, .bring w.n1 [(w.given, w.own)]), (1, r1 w), (2, r2 w), (3, r4 w)] := rfl
    rw [en]
    rw [row_c hw, S0, if_pos nn, row_c hw, S1, if_pos nn, row_c hw, S2]
    by_cases c : v + 2 ≤ 0
    · simp only [c, if_true, nf]
      exact ⟨rfl, rfl⟩
    · simp only [c, if_false, nn, if_true]
      rw [row_c hw, S4, if_pos nn]
      simp only [rowsF]
      by_cases d : 0 < v <;> simp [d]
  · have en : numR (oneR w true) = [(0, .bring w.n1 [(w.given, w.own)]), (1, r1 w), (2, r2 w), (3, .ask w.n2 (some w.own)), (4, r4 w)] := rfl
    rw [en]
    rw [row_c hw, S0, if_pos nn, row_c hw, S1, if_pos nn, row_c hw, S2]
    by_cases c : v + 2 ≤ 0
    · simp only [c, if_true, nf]
      exact ⟨rfl, rfl⟩
    · simp only [c, if_false, nn, if_true]
      rw [row_c hw, S3]
      by_cases d : 0 < v
      · simp only [d, if_true]
        rw [beg2 hw N 28 _ _ _ _ (by simp; exact ⟨Ne.symm hd02, Ne.symm hd12⟩), if_pos nn, row_c hw, S4, if_pos nn]
        simp [rowsF]
      · simp only [d, if_false, nn, if_true]
        rw [row_c hw, S4, if_pos nn]
        simp [rowsF]
theorem run1 (N : List Int) : (begF (PW w b) (keyC w) N 30 w.n1 stA).tc = secW w (N.getD 0 0) ∧ (begF (PW w b) (keyC w) N 30 w.n1 stA).ft = .non := by
  have := beg1 hw b N 29 [] (by simp)
  have e : stA = ⟨0, [], [], [], .non⟩ := rfl
  rw [e, this]
  exact ⟨rfl, rfl⟩
theorem run2 (N : List Int) : (begF (PW w true) (keyC w) N 30 w.n2 stA).tc = thdW w ∧ (begF (PW w true) (keyC w) N 30 w.n2 stA).ft = .non := by
  have := beg2 hw N 29 0 [] [] [] (by simp)
  have e : stA = ⟨0, [], [], [], .non⟩ := rfl
  rw [e, this]
  exact ⟨rfl, rfl⟩
end
/-! ### rows that can be compared -/
def GdR : Row → Prop
  | .bring p ps => GoodT p ∧ ∀ q ∈ ps, GoodT q.1 ∧ GoodT q.2 | .give o g => GoodT o ∧ GoodT g
  | .set o t => GoodT o ∧ ∀ q ∈ t, ∀ z, q.2 = .nm z → GoodT z | .take o => GoodT o
  | .say t w => (∀ q ∈ t, ∀ z, q.2 = .nm z → GoodT z) ∧ ∀ z, w = some z → GoodT z
  | .need t => ∀ q ∈ t, ∀ z, q.2 = .nm z → GoodT z
  | .ask p w => GoodT p ∧ ∀ z, w = some z → GoodT z | _ => False
theorem okD_non (n : Nat) : okD n .non = true := by cases n <;> rfl
theorem okD_gs (n : Nat) {z : Nm} (h : GoodT z) : okD n (.str z) = true := by cases n <;> exact h.2
theorem okD_tms (n : Nat) {t : List (Int × Th)} (h : ∀ q ∈ t, ∀ z, q.2 = .nm z → GoodT z) : okD (n + 2) (.tup (t.map eTm)) = true := okD_tup _ _ fun y hy => by
  obtain ⟨q, hq, rfl⟩ := List.mem_map.mp hy
  obtain ⟨a, th⟩ := q
  refine okD_tup _ _ fun y hy => ?_
  simp only [List.mem_cons, List.not_mem_nil, or_false] at hy
  rcases hy with rfl | rfl
  · exact okD_int _ _
  · cases th with
    | num i => exact okD_int _ _
    | nm z => exact okD_gs _ (h _ hq z rfl)
theorem okD_on (n : Nat) {w : Option Nm} (h : ∀ z, w = some z → GoodT z) : okD n (eOn w) = true := by
  cases w with
  | none => exact okD_non n
  | some z => exact okD_gs n (h z rfl)
theorem okD_row (n : Nat) {r : Row} (h : GdR r) : okD (n + 3) (eRow r) = true := by
  have k : ∀ s : Nm, s ∈ ([[98, 114, 105, 110, 103], [103, 105, 118, 101], [115, 101, 116], [116, 97, 107, 101], [115, 97, 121], [110, 101, 101, 100], [97, 115, 107]] : List Nm) → okD (n + 2) (.str s) = true := fun s hs => by
    simp only [List.mem_cons, List.not_mem_nil, or_false] at hs
    rcases hs with rfl | rfl | rfl | rfl | rfl | rfl | rfl <;> rfl
  cases r with
  | bring p ps =>
    refine okD_tup _ _ fun y hy => ?_
    simp only [List.mem_cons, List.not_mem_nil, or_false] at hy
    rcases hy with rfl | rfl | rfl
    · exact k _ (by simp)
    · exact okD_gs _ h.1
    · refine okD_tup _ _ fun y hy => ?_
      obtain ⟨q, hq, rfl⟩ := List.mem_map.mp hy
      have hq := h.2 q hq
      obtain ⟨a, b⟩ := q
      refine okD_tup _ _ fun y hy => ?_
      simp only [List.mem_cons, List.not_mem_nil, or_false] at hy
      rcases hy with rfl | rfl
      · exact okD_gs _ hq.1
      · exact okD_gs _ hq.2
  | give o g =>
    refine okD_tup _ _ fun y hy => ?_
    simp only [List.mem_cons, List.not_mem_nil, or_false] at hy
    rcases hy with rfl | rfl | rfl
    · exact k _ (by simp)
    · exact okD_gs _ h.1
    · exact okD_gs _ h.2
  | set o t =>
    refine okD_tup _ _ fun y hy => ?_
    simp only [List.mem_cons, List.not_mem_nil, or_false] at hy
    rcases hy with rfl | rfl | rfl
    · exact k _ (by simp)
    · exact okD_gs _ h.1
    · exact okD_tms _ h.2
  | take o =>
    refine okD_tup _ _ fun y hy => ?_
    simp only [List.mem_cons, List.not_mem_nil, or_false] at hy
    rcases hy with rfl | rfl
    · exact k _ (by simp)
    · exact okD_gs _ h
  | say t w =>
    refine okD_tup _ _ fun y hy => ?_
    simp only [List.mem_cons, List.not_mem_nil, or_false] at hy
    rcases hy with rfl | rfl | rfl
    · exact k _ (by simp)
    · exact okD_tms _ h.1
    · exact okD_on _ h.2
  | need t =>
    refine okD_tup _ _ fun y hy => ?_
    simp only [List.mem_cons, List.not_mem_nil, or_false] at hy
    rcases hy with rfl | rfl
    · exact k _ (by simp)
    · exact okD_tms _ h
  | ask p w =>
    refine okD_tup _ _ fun y hy => ?_
    simp only [List.mem_cons, List.not_mem_nil, or_false] at hy
    rcases hy with rfl | rfl | rfl
    · exact k _ (by simp)
    · exact okD_gs _ h.1
    · exact okD_on _ h.2
  | _ => exact False.elim h
/-! ### what is due -/
def dueW (w : WP) (b : Bool) (root : Int) (v : Int) : List D × D := if root = 2 then (thdW w, .non) else if root = 1 then (secW w v, .non) else fstW w b v
def dueD (w : WP) (b : Bool) (root : Int) (v : Int) : D := .tup [.tup (dueW w b root v).1, (dueW w b root v).2]
theorem thd_len (w : WP) : (thdW w).length = w.cs.length := by unfold thdW; rw [List.length_map, List.length_range]
theorem due_n (w0 w1 w2 w3 w4 w5 w6 w9 : Option W) (L : List (Nm × D)) (s : Sto) : comp (gT [gN 7, gN 8]) tYes l_due_c1 [7, 8] [w0, w1, w2, w3, w4, w5, w6, e_, e_, w9] (L.map fun p => .d (.tup [.str p.1, p.2])) s = .ok (ws (L.map fun p => .str p.1), s) :=
  comp_all (gT [gN 7, gN 8]) l_due_c1 [7, 8] [w0, w1, w2, w3, w4, w5, w6, e_, e_, w9] s (fun p : Nm × D => W.d (.tup [.str p.1, p.2])) (fun p => .str p.1) L fun p _ => by
    obtain ⟨a, b⟩ := p
    refine ⟨[w0, w1, w2, w3, w4, w5, w6, es a, ed b, w9], rfl, ?_⟩
    simp_all! only [l_due_c1]
theorem due_n2 (w0 w1 w2 w3 w4 w5 w6 w9 : Option W) (a b : Nm) (x y : D) (s : Sto) : comp (gT [gN 7, gN 8]) tYes l_due_c1 [7, 8] [w0, w1, w2, w3, w4, w5, w6, e_, e_, w9] [.d (.tup [.str a, x]), .d (.tup [.str b, y])] s = .ok (ws [.str a, .str b], s) := due_n w0 w1 w2 w3 w4 w5 w6 w9 [(a, x), (b, y)] s
theorem due_n3 (w0 w1 w2 w3 w4 w5 w6 w9 : Option W) (a b c : Nm) (x y z : D) (s : Sto) : comp (gT [gN 7, gN 8]) tYes l_due_c1 [7, 8] [w0, w1, w2, w3, w4, w5, w6, e_, e_, w9] [.d (.tup [.str a, x]), .d (.tup [.str b, y]), .d (.tup [.str c, z])] s = .ok (ws [.str a, .str b, .str c], s) := due_n w0 w1 w2 w3 w4 w5 w6 w9 [(a, x), (b, y), (c, z)] s
theorem zc2 (a b : D) (s : Sto) : zkCd (.ok ([.d a, .d b], s)) = .ok (.d (.lst [a, b]), s) := rfl
theorem zc3 (a b c : D) (s : Sto) : zkCd (.ok ([.d a, .d b, .d c], s)) = .ok (.d (.lst [a, b, c]), s) := rfl
theorem due_c {w : WP} (hw : w.Ok) (b : Bool) {root : Int} (hr : root = 0 ∨ root = 1 ∨ (root = 2 ∧ b = true)) (v : Int) (s : Sto) : callP l_due [.d (.lst (ePs (PW w b))), .d (.int root), .d (.int v)] s = .ok (.d (dueD w b root v), s) := by
  have cl := hw.cl
  have eT : ∀ x : D, x = .tup ((twoR w).map eRow) → ∃ r0 y, (twoR w).map eRow = r0 :: y := fun _ _ => by
    unfold twoR; cases w.sw <;> exact ⟨_, _, rfl⟩
  have ix := fun s (i : Nat) (hi : i < (threeR w).length) => ixW_map (.take []) eRow (threeR w) (i := ((i : Nat) : Int)) ⟨by omega, by omega⟩ s
  have tl : (threeR w).length = w.cs.length := by unfold threeR; rw [List.length_map]
  have C2 := fun (w1 w2 w4 w5 w6 w7 w8 : Option W) (n0 n1 : D) (p0 p1 : D) (s : Sto) => comp_all (gN 9) l_due_c2 [9] [ed (.lst [p0, p1, .tup [.str w.n2, .tup ((threeR w).map eRow)]]), w1, w2, ed (.lst [n0, n1, .str w.n2]), w4, w5, w6, w7, w8, e_] s (fun i : Nat => W.d (.int (i : Nat))) (fun i => sayE (w.cs.getD i 0) w.n2 i) (List.range w.cs.length) fun i hi => by
    have hi := List.mem_range.mp hi
    have ix := fun s => ix s i (by omega)
    have er : (threeR w).getD i (.take []) = .say [(1, .num (w.cs.getD i 0))] none := by
      unfold threeR
      rw [List.getD_eq_getElem?_getD, List.getElem?_map, List.getD_eq_getElem?_getD, List.getElem?_eq_getElem hi]; rfl
    simp only [Int.toNat_natCast, er] at ix
    refine ⟨_, rfl, ?_⟩
    unfold sayE
    simp only [eRow, eOn, List.map_cons, List.map_nil, eTm, eTh] at ix
    generalize (threeR w).map eRow = TR at *
    generalize w.cs.getD i 0 = c at *
    simp_all! only [l_due_c2, ix]
  have eth : (List.range w.cs.length).map (fun i => sayE (w.cs.getD i 0) w.n2 i) = thdW w := rfl
  have erg : (List.range w.cs.length).map (fun i : Nat => W.d (.int (i : Nat))) = rng 0 w.cs.length := by rw [rng_map]; simp
  rw [eth, erg] at C2
  have l3 : ((threeR w).map eRow).length = w.cs.length := by rw [List.length_map, tl]
  have lth := thd_len w
  have nn : ((w.cs.length : Nat) : Int).toNat = w.cs.length := by omega
  have z0 : ((0 : Nat) : Int) = 0 := rfl
  have z1 : ((1 : Nat) : Int) = 1 := rfl
  have z2 : ((2 : Nat) : Int) = 2 := rfl
  have z3 : ((3 : Nat) : Int) = 3 := rfl
  have z4 : ((4 : Nat) : Int) = 4 := rfl
  have y4 : (5 : Int) - 1 = 4 := rfl
  have y3 : (4 : Int) - 1 = 3 := rfl
  have q1 : ¬ (1 : Int) = 2 := by decide
  have q2 : ¬ (0 : Int) = 2 := by decide
  have q3 : ¬ (0 : Int) = 1 := by decide
  have q4 : ¬ (2 : Int) = 1 := by decide
  have q5 : ¬ (2 : Int) = 3 := by decide
  unfold dueD dueW fstW secW
  cases b
  · have hr : root = 0 ∨ root = 1 := by
      rcases hr with h | h | ⟨_, h⟩
      · exact .inl h
      · exact .inr h
      · cases h
    have eP : ePs (PW w false) = [.tup [.str w.n0, .tup ((oneR w false).map eRow)], .tup [.str w.n1, .tup ((twoR w).map eRow)]] := rfl
    rw [eP]
    clear eP C2 ix eT
    cases hs : w.sw
    all_goals
      have e2 := hs
      rcases hr with rfl | rfl
    all_goals
      unfold oneR twoR r1 r2 r4 rS rT sayE tkE ftN
      simp only [hs, eRow, eOn, List.map_cons, List.map_nil, eTm, eTh, ePr, Bool.false_eq_true, if_false, if_true, z0, z1, z2, z3, z4, q1, q2, q3]
      clear hs e2 cl tl l3 lth nn eth erg hw
      generalize w.n0 = n0 at *
      generalize w.n1 = n1 at *
      generalize w.n2 = n2 at *
      generalize w.own = ow at *
      generalize w.there = th at *
      generalize w.given = gi at *
      clear w
    · by_cases c : v + 2 ≤ 0
      · (simp_all! only [l_due, l_due_r6, l_due_r5, l_due_r4, l_due_r3, l_due_r2, l_due_r1, due_n2, zc2, c, q1, q2, q3, q4, q5]) <;> rfl
      · by_cases d : 0 < v
        · (simp_all! only [l_due, l_due_r6, l_due_r5, l_due_r4, l_due_r3, l_due_r2, l_due_r1, due_n2, zc2, c, d, q1, q2, q3, q4, q5]) <;> rfl
        · (simp_all! only [l_due, l_due_r6, l_due_r5, l_due_r4, l_due_r3, l_due_r2, l_due_r1, due_n2, zc2, c, d, q1, q2, q3, q4, q5]) <;> rfl
    · (simp_all! only [l_due, l_due_r6, l_due_r5, l_due_r4, l_due_r3, l_due_r2, l_due_r1, due_n2, zc2, q1, q2, q3, q4, q5]) <;> rfl
    · by_cases c : v + 2 ≤ 0
      · (simp_all! only [l_due, l_due_r6, l_due_r5, l_due_r4, l_due_r3, l_due_r2, l_due_r1, due_n2, zc2, c, q1, q2, q3, q4, q5]) <;> rfl
      · by_cases d : 0 < v
        · (simp_all! only [l_due, l_due_r6, l_due_r5, l_due_r4, l_due_r3, l_due_r2, l_due_r1, due_n2, zc2, c, d, q1, q2, q3, q4, q5]) <;> rfl
        · (simp_all! only [l_due, l_due_r6, l_due_r5, l_due_r4, l_due_r3, l_due_r2, l_due_r1, due_n2, zc2, c, d, q1, q2, q3, q4, q5]) <;> rfl
    · (simp_all! only [l_due, l_due_r6, l_due_r5, l_due_r4, l_due_r3, l_due_r2, l_due_r1, due_n2, zc2, q1, q2, q3, q4, q5]) <;> rfl
  · have hr : root = 0 ∨ root = 1 ∨ root = 2 := by
      rcases hr with h | h | ⟨h, _⟩
      · exact .inl h
      · exact .inr (.inl h)
      · exact .inr (.inr h)
    have eP : ePs (PW w true) = [.tup [.str w.n0, .tup ((oneR w true).map eRow)], .tup [.str w.n1, .tup ((twoR w).map eRow)], .tup [.str w.n2, .tup ((threeR w).map eRow)]] := rfl
    rw [eP]
    clear eP ix eT
    cases hs : w.sw
    all_goals
      have e2 := hs
      rcases hr with rfl | rfl | rfl
    all_goals
      unfold oneR twoR r1 r2 r4 rS rT sayE tkE ftN
      simp only [hs, eRow, eOn, List.map_cons, List.map_nil, eTm, eTh, ePr, Bool.false_eq_true, if_false, if_true, z0, z1, z2, z3, z4, q1, q2, q3]
      clear hs e2 tl eth erg hw
      generalize (threeR w).map eRow = TR at *
      generalize thdW w = TH at *
      generalize w.cs.length = n at *
      generalize w.n0 = n0 at *
      generalize w.n1 = n1 at *
      generalize w.n2 = n2 at *
      generalize w.own = ow at *
      generalize w.there = th at *
      generalize w.given = gi at *
      clear w
    · by_cases c : v + 2 ≤ 0
      · (simp_all! only [l_due, l_due_r6, l_due_r5, l_due_r4, l_due_r3, l_due_r2, l_due_r1, due_n3, zc3, c, C2, l3, nn, lth, q1, q2, q3, q4, q5]) <;> rfl
      · by_cases d : 0 < v
        · (simp_all! only [l_due, l_due_r6, l_due_r5, l_due_r4, l_due_r3, l_due_r2, l_due_r1, due_n3, zc3, c, d, C2, l3, nn, lth, q1, q2, q3, q4, q5]) <;> rfl
        · (simp_all! only [l_due, l_due_r6, l_due_r5, l_due_r4, l_due_r3, l_due_r2, l_due_r1, due_n3, zc3, c, d, C2, l3, nn, lth, q1, q2, q3, q4, q5]) <;> rfl
    · (simp_all! only [l_due, l_due_r6, l_due_r5, l_due_r4, l_due_r3, l_due_r2, l_due_r1, due_n3, zc3, C2, l3, nn, lth, q1, q2, q3, q4, q5]) <;> rfl
    · (simp_all! only [l_due, l_due_r6, l_due_r5, l_due_r4, l_due_r3, l_due_r2, l_due_r1, due_n3, zc3, C2, l3, nn, lth, q1, q2, q3, q4, q5]) <;> rfl
    · by_cases c : v + 2 ≤ 0
      · (simp_all! only [l_due, l_due_r6, l_due_r5, l_due_r4, l_due_r3, l_due_r2, l_due_r1, due_n3, zc3, c, C2, l3, nn, lth, q1, q2, q3, q4, q5]) <;> rfl
      · by_cases d : 0 < v
        · (simp_all! only [l_due, l_due_r6, l_due_r5, l_due_r4, l_due_r3, l_due_r2, l_due_r1, due_n3, zc3, c, d, C2, l3, nn, lth, q1, q2, q3, q4, q5]) <;> rfl
        · (simp_all! only [l_due, l_due_r6, l_due_r5, l_due_r4, l_due_r3, l_due_r2, l_due_r1, due_n3, zc3, c, d, C2, l3, nn, lth, q1, q2, q3, q4, q5]) <;> rfl
    · (simp_all! only [l_due, l_due_r6, l_due_r5, l_due_r4, l_due_r3, l_due_r2, l_due_r1, due_n3, zc3, C2, l3, nn, lth, q1, q2, q3, q4, q5]) <;> rfl
    · (simp_all! only [l_due, l_due_r6, l_due_r5, l_due_r4, l_due_r3, l_due_r2, l_due_r1, due_n3, zc3, C2, l3, nn, lth, q1, q2, q3, q4, q5]) <;> rfl
/-! ### one walk gone along -/
def IsDd (d : D) : Prop := ∃ (k : Nm) (v : Int) (x : Nm) (n : Int), d = .tup [.str k, .int v, .str x, .int n] ∧ GoodT k ∧ GoodT x
theorem sec_dd {w : WP} (hw : w.Ok) (v : Int) : ∀ d ∈ secW w v, IsDd d := fun d hd => by
  have kt : GoodT [116, 97, 107, 101] := ⟨by decide, by decide⟩
  have ks : GoodT [115, 97, 121] := ⟨by decide, by decide⟩
  unfold secW at hd
  split at hd
  · simp only [List.mem_cons, List.not_mem_nil, or_false] at hd
    rcases hd with rfl | rfl
    · exact ⟨_, _, _, _, rfl, ks, hw.g1⟩
    · exact ⟨_, _, _, _, rfl, kt, hw.g1⟩
  · simp only [List.mem_cons, List.not_mem_nil, or_false] at hd
    rcases hd with rfl | rfl
    · exact ⟨_, _, _, _, rfl, kt, hw.g1⟩
    · exact ⟨_, _, _, _, rfl, ks, hw.g1⟩
theorem thd_dd {w : WP} (hw : w.Ok) : ∀ d ∈ thdW w, IsDd d := fun d hd => by
  have ks : GoodT [115, 97, 121] := ⟨by decide, by decide⟩
  obtain ⟨k, _, rfl⟩ := List.mem_map.mp hd
  exact ⟨_, _, _, _, rfl, ks, hw.g2⟩
theorem due_dd {w : WP} (hw : w.Ok) (b : Bool) (root v : Int) : ∀ d ∈ (dueW w b root v).1, IsDd d := fun d hd => by
  have ks : GoodT [115, 97, 121] := ⟨by decide, by decide⟩
  have sy : ∀ (u : Int) (k : Nat), IsDd (sayE u w.n0 k) := fun u k => ⟨_, _, _, _, rfl, ks, hw.g0⟩
  unfold dueW at hd
  split at hd
  · exact thd_dd hw d hd
  · split at hd
    · exact sec_dd hw v d hd
    · unfold fstW at hd
      split at hd
      · rcases List.mem_append.mp hd with hd | hd
        · exact sec_dd hw v d hd
        · rw [List.mem_singleton.mp hd]; exact sy _ _
      · rcases List.mem_append.mp hd with hd | hd
        · rcases List.mem_append.mp hd with hd | hd
          · rcases List.mem_append.mp hd with hd | hd
            · exact sec_dd hw v d hd
            · rw [List.mem_singleton.mp hd]; exact sy _ _
          · split at hd
            · split at hd
              · exact thd_dd hw d hd
              · cases hd
            · cases hd
        · rw [List.mem_singleton.mp hd]; exact sy _ _
theorem due_ft (w : WP) (b : Bool) (root v : Int) : (dueW w b root v).2 = .non ∨ (dueW w b root v).2 = .tup [.str [110, 101, 101, 100], .str w.n0, .int 2, .int 0] := by
  unfold dueW fstW
  split
  · exact .inl rfl
  · split
    · exact .inl rfl
    · split
      · exact .inr rfl
      · exact .inl rfl
theorem okD_IsDd (n : Nat) {d : D} (h : IsDd d) : okD (n + 1) d = true := by
  obtain ⟨k, v, x, m, rfl, hk, hx⟩ := h
  refine okD_tup _ _ fun y hy => ?_
  simp only [List.mem_cons, List.not_mem_nil, or_false] at hy
  rcases hy with rfl | rfl | rfl | rfl
  · exact okD_gs _ hk
  · exact okD_int _ _
  · exact okD_gs _ hx
  · exact okD_int _ _
theorem okD_due {w : WP} (hw : w.Ok) (b : Bool) (root v : Int) : okD 60 (dueD w b root v) = true := by
  refine okD_tup _ _ fun y hy => ?_
  simp only [List.mem_cons, List.not_mem_nil, or_false] at hy
  rcases hy with rfl | rfl
  · exact okD_tup 58 _ fun y hy => okD_IsDd 57 (due_dd hw b root v y hy)
  · rcases due_ft w b root v with e | e <;> rw [e]
    · rfl
    · refine okD_tup 58 _ fun y hy => ?_
      simp only [List.mem_cons, List.not_mem_nil, or_false] at hy
      rcases hy with rfl | rfl | rfl | rfl
      · rfl
      · exact okD_gs _ hw.g0
      · rfl
      · rfl
theorem gone_1 (w0 w1 w2 w3 w4 w5 : Option W) (S : Sto) : ∀ l : List D, (∀ d ∈ l, IsDd d) → loop (gN 6) l_gone_b1 (ws l) [w0, w1, w2, w3, w4, w5, e_] S = .ok (.nx [w0, w1, w2, w3, w4, w5, e_] S)
  | [], _ => rfl
  | d :: l, h => by
    have ih := gone_1 w0 w1 w2 w3 w4 w5 S l fun d hd => h d (List.mem_cons_of_mem _ hd)
    obtain ⟨k, v, x, n, rfl, _, _⟩ := h d List.mem_cons_self
    have e : ws (D.tup [.str k, .int v, .str x, .int n] :: l) = .d (.tup [.str k, .int v, .str x, .int n]) :: ws l := rfl
    rw [e]
    have W1 : ∀ (i : Int) S, callP l_whole [.d (.int i)] S = .ok (.d (.bl true), S) := fun i S => by simp_all! only [l_whole]
    simp_all! only [loop_cz, l_gone_b1, W1, ih]
theorem gone_c {w : WP} (hw : w.Ok) (b : Bool) {root : Int} (hr : root = 0 ∨ root = 1 ∨ (root = 2 ∧ b = true)) (N : List Int) (hN : N.length ≤ 10) {S : Sto} {a : Nat} (hA : S[a]? = some (.o 1 [([112, 97, 114, 116, 115], .d (.tup (ePs (PW w b))))])) (hcl : clS S.length S = true) :
    callM l_gone [.loc a, .d (.lst (ePs (PW w b))), .d (.int root), .d (.lst (N.map .int))] S = .ok (.d (.bl true), S) := by
  have cl := hw.cl
  have rl : ∀ p ∈ PW w b, p.2.length ≤ 1000 := fun p hp => by
    have h2 : (twoR w).length = 3 := by unfold twoR; cases w.sw <;> rfl
    have h3 : (threeR w).length = w.cs.length := by unfold threeR; rw [List.length_map]
    unfold PW at hp
    cases b
    · simp at hp
      rcases hp with rfl | rfl
      · simp [oneR]
      · simp only; omega
    · simp at hp
      rcases hp with rfl | rfl | rfl
      · simp [oneR]
      · simp only; omega
      · simp only; omega
  have pl : (PW w b).length < 30 := by unfold PW; cases b <;> simp
  have G0 := fun x => m_go_c (X := .tup (ePs (PW w b))) (P := PW w b) hA hcl N (.inl rfl) rl (keyC w) (rowKw hw b) pl x
  have G : ∃ (nr : Nm) (rs : D), (∀ s, ixW (ws (ePs (PW w b))) (.d (.int root)) s = .ok (.d (.tup [.str nr, rs]), s)) ∧ m_PartsWalk_go [.loc a, .d (.str nr), .d (.tup (N.map .int))] S = .ok (.d (dueD w b root (N.getD 0 0)), S) := by
    unfold dueD dueW
    rcases hr with rfl | rfl | ⟨rfl, rfl⟩
    · refine ⟨w.n0, .tup ((oneR w b).map eRow), fun s => by cases b <;> rfl, ?_⟩
      rw [G0, (run0 hw b N).1, (run0 hw b N).2, if_neg (by decide), if_neg (by decide)]
    · refine ⟨w.n1, .tup ((twoR w).map eRow), fun s => by cases b <;> rfl, ?_⟩
      rw [G0, (run1 hw b N).1, (run1 hw b N).2, if_neg (by decide), if_pos rfl]
    · refine ⟨w.n2, .tup ((threeR w).map eRow), fun s => rfl, ?_⟩
      rw [G0, (run2 hw N).1, (run2 hw N).2]; rfl
  obtain ⟨nr, rs, hp, G⟩ := G
  have hv : ∀ s, ixW (ws (N.map D.int ++ [D.int 0])) (.d (.int 0)) s = .ok (.d (.int (N.getD 0 0)), s) := fun s => by
    have := ixW_map (0 : Int) D.int (N ++ [0]) (i := 0) ⟨Int.le_refl _, by simp⟩ s
    rw [List.map_append] at this
    have e : (N ++ [0]).getD (0 : Int).toNat 0 = N.getD 0 0 := by cases N <;> rfl
    rw [e] at this
    exact this
  have Du := fun s => due_c hw b hr (N.getD 0 0) s
  generalize N.getD 0 0 = v at *
  have dd := due_dd hw b root v
  have L := fun w0 w1 w2 w3 w4 w5 => gone_1 w0 w1 w2 w3 w4 w5 S (dueW w b root v).1 dd
  have ce := cEq_self (okD_due hw b root v)
  have hft := due_ft w b root v
  have oo : objO 1 (.loc a) S = .ok (a, [([112, 97, 114, 116, 115], .d (.tup (ePs (PW w b))))]) := by unfold objO; simp [hA]
  have nl : (N.map D.int).length ≤ 10 := by rw [List.length_map]; exact hN
  have W1 : ∀ (i : Int) S, callP l_whole [.d (.int i)] S = .ok (.d (.bl true), S) := fun i S => by simp_all! only [l_whole]
  unfold callM l_gone
  refine mkF_s [el a, ed (.lst (ePs (PW w b))), ei root, ed (.lst (N.map .int)), e_, e_, e_] rfl ?_ rfl hcl
  unfold dueD at *
  generalize (dueW w b root v).1 = dl at *
  generalize (dueW w b root v).2 = df at *
  clear hA hcl cl rl pl G0 dd hr hw
  generalize ePs (PW w b) = PP at *
  generalize N.map D.int = NN at *
  rcases hft with rfl | rfl
  · simp_all! only [ob0, oo, lkP, hp, G, hv, L, l_gone_r3, l_gone_r2, l_gone_r1, ↓Du, ce, nl]
  · simp_all! only [ob0, oo, lkP, hp, G, hv, L, l_gone_r3, l_gone_r2, l_gone_r1, ↓Du, ce, nl, W1]
/-! ### what a walk tells -/
theorem gdW {w : WP} (hw : w.Ok) (b : Bool) : ∀ p ∈ PW w b, GoodT p.1 ∧ ∀ r ∈ p.2, GdR r := by
  have g3 : ∀ r ∈ threeR w, GdR r := fun r hr => by
    obtain ⟨c, _, rfl⟩ := List.mem_map.mp hr
    exact ⟨fun q hq z e => (by rw [List.mem_singleton.mp hq] at e; cases e), fun z e => (by cases e)⟩
  have g2 : ∀ r ∈ twoR w, GdR r := fun r hr => by
    have hm : r = rS ∨ r = rT w ∨ r = .give w.there w.given := by
      unfold twoR at hr
      cases hs : w.sw <;> rw [hs] at hr <;> simp at hr
      · rcases hr with h | h | h <;> simp [h]
      · rcases hr with h | h | h <;> simp [h]
    rcases hm with rfl | rfl | rfl
    · exact ⟨fun q hq z e => (by rw [List.mem_singleton.mp hq] at e; cases e), fun z e => (by cases e)⟩
    · exact hw.gt
    · exact ⟨hw.gt, hw.gg⟩
  have g1 : ∀ r ∈ oneR w b, GdR r := fun r hr => by
    have hm : r = .bring w.n1 [(w.given, w.own)] ∨ r = r1 w ∨ r = r2 w ∨ r = .ask w.n2 (some w.own) ∨ r = r4 w := by
      unfold oneR at hr
      cases b <;> simp at hr
      · rcases hr with h | h | h | h <;> simp [h]
      · rcases hr with h | h | h | h | h <;> simp [h]
    have tm : ∀ (t : Int × Th), t ∈ [((1 : Int), Th.nm w.own), (1, .num 4)] ∨ t ∈ [((1 : Int), Th.nm w.own), (1, .num 2)] ∨ t ∈ [((1 : Int), Th.nm w.own)] → ∀ z, t.2 = .nm z → GoodT z := fun t h z e => by
      simp at h
      rcases h with (h | h) | (h | h) | h <;> subst h <;> cases e <;> exact hw.go
    rcases hm with rfl | rfl | rfl | rfl | rfl
    · exact ⟨hw.g1, fun q hq => by rw [List.mem_singleton.mp hq]; exact ⟨hw.gg, hw.go⟩⟩
    · exact ⟨fun q hq => tm q (.inl hq), fun z e => by cases e⟩
    · exact fun q hq => tm q (.inr (.inl hq))
    · exact ⟨hw.g2, fun z e => by cases e; exact hw.go⟩
    · exact ⟨fun q hq => tm q (.inr (.inr hq)), fun z e => by cases e⟩
  intro p hp
  unfold PW at hp
  cases b
  · simp at hp
    rcases hp with rfl | rfl
    · exact ⟨hw.g0, g1⟩
    · exact ⟨hw.g1, g2⟩
  · simp at hp
    rcases hp with rfl | rfl | rfl
    · exact ⟨hw.g0, g1⟩
    · exact ⟨hw.g1, g2⟩
    · exact ⟨hw.g2, g3⟩
theorem pw_rl {w : WP} (hw : w.Ok) (b : Bool) : ∀ p ∈ PW w b, p.2.length ≤ 40 := fun p hp => by
  have cl := hw.cl
  have h2 : (twoR w).length = 3 := by unfold twoR; cases w.sw <;> rfl
  have h3 : (threeR w).length = w.cs.length := by unfold threeR; rw [List.length_map]
  unfold PW at hp
  cases b
  · simp at hp
    rcases hp with rfl | rfl
    · simp [oneR]
    · simp only; omega
  · simp at hp
    rcases hp with rfl | rfl | rfl
    · simp [oneR]
    · simp only; omega
    · simp only; omega
theorem pw_nd {w : WP} (hw : w.Ok) (b : Bool) : ((PW w b).map (·.1)).Nodup := by
  have h1 := hw.d01
  have h2 := hw.d02
  have h3 := hw.d12
  unfold PW
  cases b <;> simp [h1, h2, h3]
section
variable {s0 : Sto} {a : Nat} {P : List Part} (hA : s0[a]? = some (.o 1 [([112, 97, 114, 116, 115], .d (.tup (ePs P)))])) (hcl : clS s0.length s0 = true)
include hA hcl
theorem g_obj : objO 1 (.loc a) s0 = .ok (a, [([112, 97, 114, 116, 115], .d (.tup (ePs P)))]) := by unfold objO; simp [hA]
theorem g_rows (hP : ∀ p ∈ P, p.2.length ≤ 1000) (x : Nm) : m_PartsWalk_rows_of [.loc a, .d (.str x)] s0 = .ok (.d (.tup ((numR (rowsOf P x)).map (eNR x))), s0) := by
  have ow := g_obj hA hcl
  have fp := fun (s : Sto) => fldW_h [112, 97, 114, 116, 115] (.d (.tup (ePs P))) [] s
  have L := rows_l (some (.loc a)) x s0 P hP
  refine mkF_x (t := []) [some (.loc a), es x, e_, e_, e_] rfl ?_ rfl hcl
  rw [List.append_nil]
  unfold rowsOf
  cases e : P.find? (fun p => decide (p.1 = x)) with
  | none =>
    rw [e] at L
    simp_all! only [ob0, ow, fp, L, m_PartsWalk_rows_of_r1] <;> rfl
  | some p =>
    rw [e] at L
    simp_all! only [ob0, ow, fp, L]
theorem g_key {x z : Nm} {k : Nm × Int} (hk : ∀ s, callP p_maker [.d (.tup (ePs P)), .d (.str x), .d (.str z)] s = .ok (.d (kSI k), s)) : m_PartsWalk_key_of [.loc a, .d (.str x), .d (.str z)] s0 = .ok (.d (kSI k), s0) := by
  have ow := g_obj hA hcl
  have fp := fun (s : Sto) => fldW_h [112, 97, 114, 116, 115] (.d (.tup (ePs P))) [] s
  refine mkF_x (t := []) [some (.loc a), es x, es z] rfl ?_ rfl hcl
  rw [List.append_nil]
  simp_all! only [ob0, ow, fp, hk]
end
theorem whole_i (i : Int) (S : Sto) : callP l_whole [.d (.int i)] S = .ok (.d (.bl true), S) := by simp_all! only [l_whole]
theorem told_1 (w0 w1 w2 w3 w4 w5 w7 w8 w9 w10 : Option W) (x : Nm) (S : Sto) : ∀ l : List (Nat × Row), loop (gN 6) l_told_b1 (ws (l.map (eNR x))) [w0, w1, w2, w3, w4, w5, e_, w7, w8, w9, w10] S = .ok (.nx [w0, w1, w2, w3, w4, w5, e_, w7, w8, w9, w10] S)
  | [] => rfl
  | p :: l => by
    have ih := told_1 w0 w1 w2 w3 w4 w5 w7 w8 w9 w10 x S l
    have e : ws ((p :: l).map (eNR x)) = .d (eNR x p) :: ws (l.map (eNR x)) := rfl
    rw [e]
    unfold eNR at *
    have W1 := whole_i
    simp_all! only [loop_cz, l_told_b1, W1, ih]
theorem okD_nr {x : Nm} (hx : GoodT x) {rs : List Row} (h : ∀ r ∈ rs, GdR r) : okD 60 (.lst ((numR rs).map (eNR x))) = true := okD_lst 59 _ fun y hy => by
  obtain ⟨p, hp, rfl⟩ := List.mem_map.mp hy
  obtain ⟨i, hi, rfl⟩ := List.mem_map.mp hp
  have hi := List.mem_range.mp hi
  refine okD_tup 58 _ fun y hy => ?_
  simp only [List.mem_cons, List.not_mem_nil, or_false] at hy
  rcases hy with rfl | rfl | rfl
  · exact okD_gs _ hx
  · exact okD_int _ _
  · refine okD_row 55 (h _ ?_)
    rw [List.getD_eq_getElem?_getD, List.getElem?_eq_getElem hi]
    exact List.getElem_mem hi
theorem told_2 {S : Sto} {a : Nat} {P : List Part} (hA : S[a]? = some (.o 1 [([112, 97, 114, 116, 115], .d (.tup (ePs P)))])) (hcl : clS S.length S = true) (hP : ∀ p ∈ P, p.2.length ≤ 40) (nd : (P.map (·.1)).Nodup) (gd : ∀ p ∈ P, GoodT p.1 ∧ ∀ r ∈ p.2, GdR r) (w1 : Option W) :
    ∀ Q : List Part, (∀ p ∈ Q, p ∈ P) → loop (gT [gN 2, gN 3]) l_told_b2 (ws (ePs Q)) [el a, w1, e_, e_, e_, e_, e_, e_, e_, e_, e_] S = .ok (.nx [el a, w1, e_, e_, e_, e_, e_, e_, e_, e_, e_] S)
  | [], _ => rfl
  | p :: Q, h => by
    have ih := told_2 hA hcl hP nd gd w1 Q fun q hq => h q (List.mem_cons_of_mem _ hq)
    have hp := h p List.mem_cons_self
    have hl := hP p hp
    have oo := g_obj hA hcl
    have R := g_rows hA hcl (fun q hq => by have := hP q hq; omega) p.1
    rw [rowsOf_mem nd hp] at R
    have Lo := m_loads_c (.loc a) (.d (.str p.1)) S hcl
    have La := m_ahead_c (.loc a) (.d (.str p.1)) S hcl
    have C := fun (w0 w1 w4 w5 w6 w7 w8 w9 : Option W) s => comp_all (gN 10) l_told_c1 [10] [w0, w1, es p.1, ed (.tup (p.2.map eRow)), w4, w5, w6, w7, w8, w9, e_] s (fun i : Nat => .d (.int (i : Nat))) (fun i => eNR p.1 (i, p.2.getD i (.take []))) (List.range p.2.length) fun i hi => by
      have hi := List.mem_range.mp hi
      have ix := fun s => ixW_map (.take []) eRow p.2 (i := ((i : Nat) : Int)) ⟨by omega, by omega⟩ s
      simp only [Int.toNat_natCast] at ix
      exact ⟨_, rfl, by simp_all! only [l_told_c1, ix, eNR]⟩
    have rE : rng 0 p.2.length = (List.range p.2.length).map fun i => W.d (.int ((i : Nat) : Int)) := by rw [rng_map]; simp
    rw [← rE] at C
    have eN : ((List.range p.2.length).map fun i => eNR p.1 (i, p.2.getD i (.take []))) = (numR p.2).map (eNR p.1) := by unfold numR; rw [List.map_map]; rfl
    rw [eN] at C
    have nn : ((p.2.length : Nat) : Int).toNat = p.2.length := by omega
    have pl : (p.2.map eRow).length = p.2.length := List.length_map _
    have L1 := fun w0 w1 w2 w3 w4 w5 w7 w8 w9 w10 => told_1 w0 w1 w2 w3 w4 w5 w7 w8 w9 w10 p.1 S (numR p.2)
    have ce := cNe_self (okD_nr (gd p hp).1 (gd p hp).2)
    have c0 : cNe (.tup []) (.tup []) = .ok (.bl false) := rfl
    have nl : ((numR p.2).map (eNR p.1)).length ≤ 40 := by rw [List.length_map, numR_len]; exact hl
    rw [show ws (ePs (p :: Q)) = .d (ePart p) :: ws (ePs Q) from rfl]
    clear hA hcl hP nd gd h hp rE eN
    unfold ePart
    generalize (numR p.2).map (eNR p.1) = NR at *
    generalize p.2.map eRow = RR at *
    generalize ePs P = PP at *
    simp_all! only [loop_cz, l_told_b2, ob0, oo, lkP, R, C, pl, nn, l_told_r2, L1, l_told_r1, Lo, La, ce, c0, nl, ih]
theorem pw_ex (w : WP) (b : Bool) : ∃ R0 T : List D, ePs (PW w b) = .tup [.str w.n0, .tup (.tup [.str [98, 114, 105, 110, 103], .str w.n1, .tup [.tup [.str w.given, .str w.own]]] :: R0)] :: .tup [.str w.n1, .tup ((twoR w).map eRow)] :: T ∧ R0.length ≤ 10 ∧ T.length ≤ 1 := by
  cases b
  · exact ⟨_, _, rfl, by simp, by simp⟩
  · exact ⟨_, _, rfl, by simp, by simp⟩
theorem told_at (w : WP) (b : Bool) (w0 w2 w3 w4 w5 w6 w7 w8 w9 : Option W) (s : Sto) : comp (gN 10) l_told_t2 l_told_c2 [10] [w0, ed (.lst (ePs (PW w b))), w2, w3, w4, w5, w6, w7, w8, w9, e_] (rng 0 3) s = .ok ([.d (.int (ktN w : Int))], s) := by
  have K := comp_map (gN 10) l_told_t2 l_told_c2 [10] [w0, ed (.lst (ePs (PW w b))), w2, w3, w4, w5, w6, w7, w8, w9, e_] s (fun i : Nat => .d (.int (i : Nat))) (fun i => decide (i = ktN w)) (fun i => .int (i : Nat)) (List.range 3) fun i hi => by
    have hi := List.mem_range.mp hi
    refine ⟨_, rfl, ?_, fun _ => rfl⟩
    obtain ⟨R0, T, e, _, _⟩ := pw_ex w b
    rw [e]
    clear e
    unfold ktN twoR rS rT
    have : i = 0 ∨ i = 1 ∨ i = 2 := by omega
    generalize w.n0 = n0 at *
    generalize w.n1 = n1 at *
    generalize w.given = gi at *
    generalize w.own = ow at *
    generalize w.there = th at *
    generalize w.sw = sw at *
    have z0 : ((0 : Nat) : Int) = 0 := rfl
    have z1 : ((1 : Nat) : Int) = 1 := rfl
    have z2 : ((2 : Nat) : Int) = 2 := rfl
    clear w
    rcases this with rfl | rfl | rfl <;> cases sw <;> simp only [eRow, eOn, List.map_cons, List.map_nil, eTm, eTh, ePr, Bool.false_eq_true, if_false, if_true, z0, z1, z2] <;> simp_all! only [l_told_t2]
  have e1 : (List.range 3).map (fun i : Nat => W.d (.int (i : Nat))) = rng 0 3 := by rw [rng_map]; simp
  rw [e1] at K
  rw [K]
  unfold ktN
  cases w.sw <;> rfl
theorem zc1 (a : D) (s : Sto) : zkCd (.ok ([.d a], s)) = .ok (.d (.lst [a]), s) := rfl
theorem eIsO_z (c : Nat) (b : Bool) (i : Nat) (e : Env) (s : Sto) {a : Nat} {fs : List (List Nat × W)} (he : eV i e s = .ok (.loc a, s)) (ho : objO c (.loc a) s = .ok (a, fs)) : eIsO c b (eV i) e s = .ok (.d (.bl b), s) := by
  unfold eIsO
  rw [he]
  show (objO c (.loc a) s).bind _ = _
  rw [ho]; rfl
theorem told_c {w : WP} (hw : w.Ok) (b : Bool) {S : Sto} {a : Nat} (hA : S[a]? = some (.o 1 [([112, 97, 114, 116, 115], .d (.tup (ePs (PW w b))))])) (hcl : clS S.length S = true) :
    callM l_told [.loc a, .d (.lst (ePs (PW w b)))] S = .ok (.d (.bl true), S) := by
  have L := told_2 hA hcl (pw_rl hw b) (pw_nd hw b) (gdW hw b) (ed (.lst (ePs (PW w b)))) (PW w b) fun p hp => hp
  have oo := g_obj hA hcl
  have K0 := g_key hA hcl (mk0 hw b)
  have K1 := g_key hA hcl (mk1 hw b)
  have At := told_at w b
  have ok : okD 60 (.tup [.str w.n1, .int (ktN w : Int)]) = true := okD_tup 59 _ fun y hy => by
    simp only [List.mem_cons, List.not_mem_nil, or_false] at hy
    rcases hy with rfl | rfl
    · exact okD_gs _ hw.g1
    · exact okD_int _ _
  have ce := cNe_self ok
  have W1 := whole_i
  have nn : (3 : Int).toNat = 3 := rfl
  have th : ∀ s, ixW (ws ((twoR w).map eRow)) (.d (.int (ktN w : Int))) s = .ok (.d (.tup [.str [116, 97, 107, 101], .str w.there]), s) := fun s => by
    unfold twoR ktN
    cases w.sw <;> rfl
  have is0 : ∀ w1 w2 w3 w4 w5 w6 w7 w8 w9 w10, eIsO 1 true (eV 0) [el a, w1, w2, w3, w4, w5, w6, w7, w8, w9, w10] S = .ok (.d (.bl true), S) := fun _ _ _ _ _ _ _ _ _ _ => eIsO_z 1 true 0 _ S rfl oo
  obtain ⟨R0, T, e, _, _⟩ := pw_ex w b
  unfold callM l_told
  refine mkF_s [el a, ed (.lst (ePs (PW w b))), e_, e_, e_, e_, e_, e_, e_, e_, e_] rfl ?_ rfl hcl
  unfold kSI at K0 K1
  simp only at K0 K1
  clear hA hcl ok hw
  simp only [e] at L oo At ⊢
  clear e
  generalize (twoR w).map eRow = TR at *
  generalize ((ktN w : Nat) : Int) = kt at *
  generalize w.n0 = n0 at *
  generalize w.n1 = n1 at *
  generalize w.given = gi at *
  generalize w.own = ow at *
  generalize w.there = tt at *
  have Lb : ∀ (w3 w5 w6 w8 w10 : Option W), loop (gT [gN 9, gN 2]) l_told_b3 [.d (.tup [.str n0, .str ow]), .d (.tup [.str n1, .str tt])] [el a, ed (.lst (.tup [.str n0, .tup (.tup [.str [98, 114, 105, 110, 103], .str n1, .tup [.tup [.str gi, .str ow]]] :: R0)] :: .tup [.str n1, .tup TR] :: T)), e_, w3, e_, w5, w6, ed (.int kt), w8, e_, w10] S = .ok (.nx [el a, ed (.lst (.tup [.str n0, .tup (.tup [.str [98, 114, 105, 110, 103], .str n1, .tup [.tup [.str gi, .str ow]]] :: R0)] :: .tup [.str n1, .tup TR] :: T)), e_, w3, e_, w5, w6, ed (.int kt), w8, e_, w10] S) := fun w3 w5 w6 w8 w10 => by
    simp_all! only [loop_cz, l_told_b3, ob0, oo, lkP, K0, K1, ce, W1, loopW_nil]
  simp only [ws_cons] at L
  simp_all! only [L, l_told_r4, At, zc1, nn, th, Lb, l_told_r3, is0]
/-! ### a Walk as it is -/
theorem w_rows (w w2 : W) (s : Sto) (hc : clS s.length s = true) : m_Walk_rows_of [w, w2] s = .ok (.d (.tup []), s) :=
  mkF_x (t := []) [some w, some w2] rfl (by rw [List.append_nil]; simp_all! only [] <;> rfl) rfl hc
theorem w_loads (w w2 : W) (s : Sto) (hc : clS s.length s = true) : m_Walk_loads_of [w, w2] s = .ok (.d (.tup []), s) :=
  mkF_x (t := []) [some w, some w2] rfl (by rw [List.append_nil]; simp_all! only [] <;> rfl) rfl hc
theorem w_ahead (w w2 : W) (s : Sto) (hc : clS s.length s = true) : m_Walk_ahead_of [w, w2] s = .ok (.d (.tup []), s) :=
  mkF_x (t := []) [some w, some w2] rfl (by rw [List.append_nil]; simp_all! only [] <;> rfl) rfl hc
theorem w_key (w w2 : W) (z : Nm) (s : Sto) (hc : clS s.length s = true) : m_Walk_key_of [w, w2, .d (.str z)] s = .ok (.d (.str z), s) :=
  mkF_x (t := []) [some w, some w2, es z] rfl (by rw [List.append_nil]; simp_all! only [] <;> rfl) rfl hc
theorem lk0 (m : List Nat) : (([] : List (List Nat × W)).lookup m).isNone = true := rfl
section
variable {s0 : Sto} {a : Nat} (hA : s0[a]? = some (.o 2 [])) (hcl : clS s0.length s0 = true) (N : List Int)
include hA hcl
theorem w_begin (n : Nat) (x : Nm) : m_Walk_begin (n + 1) [.loc a, .loc s0.length, .d (.str x)] (TS s0 N 0 [] [] [] .non []) = .ok (.d .non, TS s0 N 0 [] [x] [] .non []) := by
  have ow := fun tk kn bg tc ft u => ts_w s0 N tk kn bg tc ft u hA
  have oo := fun tk kn bg tc ft u => ts_o s0 N tk kn bg tc ft u
  have o2 := fun tk kn bg tc ft u => ts_2 s0 N tk kn bg tc ft u
  have ci := cIn_sD [] x
  have en0 : start 7 [.loc a, .loc s0.length, .d (.str x)] = [some (.loc a), some (.loc s0.length), es x, e_, e_, e_, e_] := rfl
  have eB : m_Walk_begin (n + 1) = m_Walk_begin_s (m_Walk_begin n) := rfl
  rw [eB]
  have c : x ∉ ([] : List Nm) := by simp
  have ad : addN ([] : List Nm) x = [x] := rfl
  have R := w_rows (.loc a) (.d (.str x)) (TS s0 N 0 [] [x] [] .non []) (ts_cl hcl N _ _ _ _ _)
  have sm : setAny (.loc (s0.length + 2)) (.d (.str x)) (.d (.bl true)) (TS s0 N 0 [] [] [] .non []) = .ok (TS s0 N 0 [] [x] [] .non []) := by
    rw [setAny_lc]
    simp only [o2]
    have hl : ([] : List Nm).length < sizeL := by decide
    rw [need_of (by rw [keyOk_s, sD_len, decide_eq_true hl]; rfl), putD_sD, ad, tt_2]
  refine mkF_x (t := []) _ en0 ?_ (by rw [ts_len, ts_len]) (ts_cl hcl N _ _ _ _ _)
  rw [List.append_nil]
  clear eB hA
  simp_all! only [ob0, ow, oo, o2, tfs, lk0, ci, c, sm, R, m_Walk_begin_r2, loopW_nil]
theorem w_go (x : Nm) : m_Walk_go [.loc a, .d (.str x), .d (.tup (N.map .int))] s0 = .ok (.d (.tup [.tup [], .non]), s0) := by
  have B := w_begin hA hcl N 29 x
  have hA2 := hA
  have I := m_init_c s0 N
  have ow := fun tk kn bg tc ft u => ts_w s0 N tk kn bg tc ft u hA
  have oo := fun tk kn bg tc ft u => ts_o s0 N tk kn bg tc ft u
  have o4 := fun tk kn bg tc ft u => ts_4 s0 N tk kn bg tc ft u
  have hcl2 := fun tk kn bg tc ft => ts_cl hcl N tk kn bg tc ft
  have ld := fun tk kn bg tc ft w w2 => w_loads w w2 (TS s0 N tk kn bg tc ft []) (hcl2 tk kn bg tc ft)
  have la := fun tk kn bg tc ft w w2 => w_ahead w w2 (TS s0 N tk kn bg tc ft []) (hcl2 tk kn bg tc ft)
  have lo := fun tk kn bg tc ft w => m_load_c w (TS s0 N tk kn bg tc ft []) (hcl2 tk kn bg tc ft)
  have en0 : start 4 [.loc a, .d (.str x), .d (.tup (N.map .int))] = [some (.loc a), es x, ed (.tup (N.map .int)), e_] := rfl
  have B : m_Walk_begin 30 [.loc a, .loc s0.length, .d (.str x)] (TS s0 N 0 [] [] [] .non []) = .ok (.d .non, TS s0 N 0 [] [x] [] .non []) := B
  refine mkF_x (t := .o 0 (trF s0.length N 0 .non) :: .m true (dctE kSI .int []) :: .m false (sD [x]) :: .m false [] :: .l [] :: []) _ en0 ?_ rfl hcl
  have e2 : s0 ++ (.o 0 (trF s0.length N 0 .non) :: .m true (dctE kSI .int []) :: .m false (sD [x]) :: .m false [] :: .l [] :: []) = TS s0 N 0 [] [x] [] .non [] := rfl
  rw [e2]
  have tw0 : ∀ S, fTup [tupW [], W.d D.non] S = .ok (.d (.tup [.tup [], .non]), S) := fun _ => rfl
  simp_all! only [ob0, ow, oo, o4, tfs, lk0, I, ld, la, lo, B, tw0]
end
theorem bare_1 (w0 : Option W) (N : List Int) (hN : N.length ≤ 10) : ∀ Q : List Part, loop (gT [gN 3, gN 4]) l_bare_b1 (ws (ePs Q)) [w0, ed (.lst (N.map .int)), el 0, e_, e_] [.o 2 []] = .ok (.nx [w0, ed (.lst (N.map .int)), el 0, e_, e_] [.o 2 []])
  | [] => rfl
  | p :: Q => by
    have ih := bare_1 w0 N hN Q
    have R := w_rows (.loc 0) (.d (.str p.1)) [.o 2 []] rfl
    have Lo := w_loads (.loc 0) (.d (.str p.1)) [.o 2 []] rfl
    have La := w_ahead (.loc 0) (.d (.str p.1)) [.o 2 []] rfl
    have K := w_key (.loc 0) (.d (.str p.1)) [120] [.o 2 []] rfl
    have G := w_go (s0 := [.o 2 []]) (a := 0) rfl rfl N p.1
    have oo : objO 2 (.loc 0) [.o 2 []] = .ok (0, []) := rfl
    have c0 : cNe (.tup []) (.tup []) = .ok (.bl false) := rfl
    have c1 : cNe (.str [120]) (.str [120]) = .ok (.bl false) := rfl
    have c2 : cNe (.tup [.tup [], .non]) (.tup [.tup [], .non]) = .ok (.bl false) := rfl
    have nl : (N.map D.int).length ≤ 10 := by rw [List.length_map]; exact hN
    rw [show ws (ePs (p :: Q)) = .d (ePart p) :: ws (ePs Q) from rfl]
    unfold ePart
    generalize p.2.map eRow = RR at *
    generalize N.map D.int = NN at *
    simp_all! only [loop_cz, l_bare_b1, ob0, oo, lk0, R, Lo, La, K, G, c0, c1, c2, nl, l_bare_r1, ih]
theorem eMkB_z (c : Nat) (e : Env) (s : Sto) : eMkB c e s = .ok (.loc s.length, s ++ [.o c []]) := rfl
theorem bare_c (P : List Part) (N : List Int) (hN : N.length ≤ 10) (s : Sto) : callP l_bare [.d (.lst (ePs P)), .d (.lst (N.map .int))] s = .ok (.d (.bl true), s) := by
  have L := bare_1 (ed (.lst (ePs P))) N hN P
  generalize ePs P = PP at *
  generalize N.map D.int = NN at *
  simp_all! only [l_bare, eMkB_z, List.length_nil, List.nil_append, L, l_bare_r2]
/-! ### the law -/
theorem l_number_c (c : Int) (s : Sto) : ∃ v : Int, ∀ s, callP l_number [.d (.int c)] s = .ok (.d (.int v), s) := by
  by_cases h : c % 2 = 0
  · exact ⟨c / 2 % 5 - 2, fun s => by simp_all! only [l_number, h]⟩
  · have p : (0 : Int) < 2 * 10 ^ 60 - 1 := by decide
    have m := oMod_i (c / 2) (2 * 10 ^ 60 - 1) p
    exact ⟨c / 2 % (2 * 10 ^ 60 - 1) - 10 ^ 60 + 1, fun s => by simp_all! only [l_number, l_number_r1, h, m]⟩
def oW (w : WP) (b : Bool) : C := .o 1 [([112, 97, 114, 116, 115], .d (.tup (ePs (PW w b))))]
def sW (w : WP) : Sto := [oW w true, oW w false]
theorem law_1 {w : WP} (hw : w.Ok) {r : Int} (hr : r = 0 ∨ r = 1 ∨ r = 2) (w0 w3 : Option W) : ∀ L : List (List Int), (∀ N ∈ L, N.length ≤ 10) →
    loop (gN 7) law__b1 (ws (L.map fun N => .lst (N.map .int))) [w0, ed (.lst (ePs (PW w true))), ed (.lst (ePs (PW w false))), w3, el 0, el 1, ei r, e_] (sW w) = .ok (.nx [w0, ed (.lst (ePs (PW w true))), ed (.lst (ePs (PW w false))), w3, el 0, el 1, ei r, e_] (sW w))
  | [], _ => rfl
  | N :: L, h => by
    have ih := law_1 hw hr w0 w3 L fun N hN => h N (List.mem_cons_of_mem _ hN)
    have hN := h N List.mem_cons_self
    have hc : clS (sW w).length (sW w) = true := rfl
    have g1 := gone_c hw true (root := r) (by rcases hr with h | h | h <;> simp [h]) N hN (S := sW w) (a := 0) rfl hc
    have g2 := gone_c hw false (root := r % 2) (by rcases hr with h | h | h <;> simp [h]) N hN (S := sW w) (a := 1) rfl hc
    have g3 := gone_c hw true (root := 0) (.inl rfl) N hN (S := sW w) (a := 0) rfl hc
    have t1 := told_c hw false (S := sW w) (a := 1) rfl hc
    have e : ws ((N :: L).map fun N => D.lst (N.map .int)) = .d (.lst (N.map .int)) :: ws (L.map fun N => .lst (N.map .int)) := rfl
    rw [e, loop_step]
    have B : lstep (gN 7) law__b1 (.d (.lst (N.map .int))) [w0, ed (.lst (ePs (PW w true))), ed (.lst (ePs (PW w false))), w3, el 0, el 1, ei r, e_] (sW w) = .ok (.nx [w0, ed (.lst (ePs (PW w true))), ed (.lst (ePs (PW w false))), w3, el 0, el 1, ei r, e_] (sW w)) := by
      have hm := oMod_i r 2 (by decide)
      clear ih h hc hw e
      generalize ePs (PW w true) = PT at *
      generalize ePs (PW w false) = PF at *
      generalize N.map D.int = NN at *
      generalize sW w = S at *
      simp_all! only [lstep_n, law__b1, law__r1, ↓g1, ↓g2, ↓g3, ↓t1, hm]
    rw [B]
    exact ih
theorem less_e (w : WP) : ∃ (x y : D) (A T : List D), ePs (PW w true) = [.tup [.str w.n0, .tup A], x, y] ∧ ePs (PW w false) = [.tup [.str w.n0, .tup (cut A none (some 3) ++ cut A (some 4) none)], x] ∧ A.length = 5 := ⟨_, _, _, [], rfl, rfl, rfl⟩
theorem law_true : ∀ ns : List Int, ns.length ≤ 63 → law_ [.d (.inp (ns.map .int))] [] = .ok (.d (.bl true), []) := by
  intro ns hl
  obtain ⟨w, hw, Pc⟩ := l_parts_c ns hl
  have C2 := fun s => l_cell_at_c ns 2 (by omega) s
  have C3 := fun s => l_cell_at_c ns 3 (by omega) s
  have C4 := fun s => l_cell_at_c ns 4 (by omega) s
  generalize cellAt ns 2 = c2 at *
  generalize cellAt ns 3 = c3 at *
  generalize cellAt ns 4 = c4 at *
  obtain ⟨a, Na⟩ := l_number_c c3 []
  obtain ⟨b, Nb⟩ := l_number_c c4 []
  have hc : clS (sW w).length (sW w) = true := rfl
  have hr : c2 / 2 % 3 = 0 ∨ c2 / 2 % 3 = 1 ∨ c2 / 2 % 3 = 2 := by omega
  have hm := oMod_i (c2 / 2) 3 (by decide)
  have L := law_1 hw hr (ed (.inp (ns.map .int))) (ed (.lst [.int a, .int b])) [[a, b], [], [b, a], [a, b]] (fun N hN => by
    simp only [List.mem_cons, List.not_mem_nil, or_false] at hN
    rcases hN with rfl | rfl | rfl | rfl <;> simp)
  have t1 := told_c hw true (S := sW w) (a := 0) rfl hc
  have Ba := fun s => bare_c (PW w true) [a, b] (by simp) s
  obtain ⟨x, y, A, T, e1, e2, e3⟩ := less_e w
  have lp : (ePs (PW w true)).length ≤ 3 := by rw [e1]; simp
  have i0 : ∀ s, ixW (ws (ePs (PW w true))) (.d (.int 0)) s = .ok (.d (.tup [.str w.n0, .tup A]), s) := fun s => by rw [e1]; rfl
  have i1 : ∀ s, ixW (ws (ePs (PW w true))) (.d (.int 1)) s = .ok (.d x, s) := fun s => by rw [e1]; rfl
  have lA : (cut A none (some 3)).length = 3 := by unfold cut sIx; simp [e3]
  have lB : (cut A (some 4) none).length = 1 := by unfold cut sIx; simp [e3]
  have ad : ∀ s, oAdd (.d (.tup (cut A none (some 3)))) (.d (.tup (cut A (some 4) none))) s = .ok (.d (.tup (cut A none (some 3) ++ cut A (some 4) none)), s) := fun s => oAdd_tc (by rw [lA, lB]; decide) s
  have mk1 : m_PartsWalk___init__K [.loc 0, .d (.tup (ePs (PW w true)))] [.o 1 []] = .ok (.d .non, [oW w true]) := rfl
  have mk2 : m_PartsWalk___init__K [.loc 1, .d (.tup (ePs (PW w false)))] [oW w true, .o 1 []] = .ok (.d .non, [oW w true, oW w false]) := rfl
  have sw : [oW w true, oW w false] = sW w := rfl
  have lf : (ePs (PW w false)).length ≤ 3 := by rw [e2]; simp
  rw [sw] at mk2
  rw [e2] at mk2 L lf
  simp only [List.map_cons, List.map_nil, ws_cons, ws_nil] at L Ba
  have sl : (sW w).length = 2 := rfl
  clear hw hr hc e1 e2 sw
  generalize oW w true = o1 at *
  generalize sW w = S at *
  generalize ePs (PW w true) = PT at *
  generalize w.n0 = n0 at *
  generalize ns.map D.int = NN at *
  have rv : [D.int a, D.int b].reverse = [.int b, .int a] := rfl
  have p1 : (0 : Nat) + 1 = 1 := rfl
  refine law_run ?_
  simp_all! only [rv, p1, ↓Pc, i0, i1, ad, ↓C3, ↓C4, ↓Na, ↓Nb, ob0, mk1, mk2, ↓C2, hm, bLstRvD, L, law__r2, ↓t1, ↓Ba, lp, lf]
end
end B
namespace Rw_bundlehouse_k26_walks
open PySem PySem.Spec PyProof.Rows L2 B
abbrev XC (K : PySem.W.Frag) : Nat → Value := fun n => .ref (He.ga K ([].getD n ""))
structure Tx (K : PySem.W.Frag) (mg : Str → Option Value) : Prop where
  g__law_cell_at : mg "_law_cell_at" = some (.ref (He.ga K "_law_cell_at"))
  d__law_cell_at : ∃ fd, FunD K "_law_cell_at" "_law_cell_at" (defArgs (top 18)) (defBody (top 18)) (defScope (top 18)) [] [] (He.ga K "_law_cell_at") fd
  g__law_name : mg "_law_name" = some (.ref (He.ga K "_law_name"))
  d__law_name : ∃ fd, FunD K "_law_name" "_law_name" (defArgs (top 20)) (defBody (top 20)) (defScope (top 20)) [] [] (He.ga K "_law_name") fd
  g__law_parts : mg "_law_parts" = some (.ref (He.ga K "_law_parts"))
  d__law_parts : ∃ fd, FunD K "_law_parts" "_law_parts" (defArgs (top 22)) (defBody (top 22)) (defScope (top 22)) [] [] (He.ga K "_law_parts") fd
  d_PartsWalk____init__ : ∃ fd, FunD K "__init__" "PartsWalk.__init__" (defArgs (mth 16 0)) (defBody (mth 16 0)) (defScope (mth 16 0)) [] [] (He.fAd K ("PartsWalk", some "__init__")) fd
  g__law_number : mg "_law_number" = some (.ref (He.ga K "_law_number"))
  d__law_number : ∃ fd, FunD K "_law_number" "_law_number" (defArgs (top 21)) (defBody (top 21)) (defScope (top 21)) [] [] (He.ga K "_law_number") fd
  d_PartsWalk__rows_of : ∃ fd, FunD K "rows_of" "PartsWalk.rows_of" (defArgs (mth 16 1)) (defBody (mth 16 1)) (defScope (mth 16 1)) [] [] (He.fAd K ("PartsWalk", some "rows_of")) fd
  g_rows_of : mg "rows_of" = some (.ref (He.ga K "rows_of"))
  d_rows_of : ∃ fd, FunD K "rows_of" "rows_of" (defArgs (top 4)) (defBody (top 4)) (defScope (top 4)) [] [] (He.ga K "rows_of") fd
  g_made_by : mg "made_by" = some (.ref (He.ga K "made_by"))
  d_made_by : ∃ fd, FunD K "made_by" "made_by" (defArgs (top 5)) (defBody (top 5)) (defScope (top 5)) [] [] (He.ga K "made_by") fd
  g_made_in : mg "made_in" = some (.ref (He.ga K "made_in"))
  d_made_in : ∃ fd, FunD K "made_in" "made_in" (defArgs (top 6)) (defBody (top 6)) (defScope (top 6)) [] [] (He.ga K "made_in") fd
  g_brought_from : mg "brought_from" = some (.ref (He.ga K "brought_from"))
  d_brought_from : ∃ fd, FunD K "brought_from" "brought_from" (defArgs (top 7)) (defBody (top 7)) (defScope (top 7)) [] [] (He.ga K "brought_from") fd
  g_given_as : mg "given_as" = some (.ref (He.ga K "given_as"))
  d_given_as : ∃ fd, FunD K "given_as" "given_as" (defArgs (top 8)) (defBody (top 8)) (defScope (top 8)) [] [] (He.ga K "given_as") fd
  g_onward : mg "onward" = some (.ref (He.ga K "onward"))
  d_onward : ∃ fd, FunD K "onward" "onward" (defArgs (top 9)) (defBody (top 9)) (defScope (top 9)) [] [] (He.ga K "onward") fd
  g_maker : mg "maker" = some (.ref (He.ga K "maker"))
  d_maker : ∃ fd, FunD K "maker" "maker" (defArgs (top 10)) (defBody (top 10)) (defScope (top 10)) [] [] (He.ga K "maker") fd
  d_PartsWalk__key_of : ∃ fd, FunD K "key_of" "PartsWalk.key_of" (defArgs (mth 16 2)) (defBody (mth 16 2)) (defScope (mth 16 2)) [] [] (He.fAd K ("PartsWalk", some "key_of")) fd
  g__law_whole : mg "_law_whole" = some (.ref (He.ga K "_law_whole"))
  d__law_whole : ∃ fd, FunD K "_law_whole" "_law_whole" (defArgs (top 19)) (defBody (top 19)) (defScope (top 19)) [] [] (He.ga K "_law_whole") fd
  d_PartsWalk__loads_of : ∃ fd, FunD K "loads_of" "Walk.loads_of" (defArgs (mth 15 2)) (defBody (mth 15 2)) (defScope (mth 15 2)) [] [] (He.fAd K ("PartsWalk", some "loads_of")) fd
  d_PartsWalk__ahead_of : ∃ fd, FunD K "ahead_of" "Walk.ahead_of" (defArgs (mth 15 3)) (defBody (mth 15 3)) (defScope (mth 15 3)) [] [] (He.fAd K ("PartsWalk", some "ahead_of")) fd
  g__law_told : mg "_law_told" = some (.ref (He.ga K "_law_told"))
  d__law_told : ∃ fd, FunD K "_law_told" "_law_told" (defArgs (top 25)) (defBody (top 25)) (defScope (top 25)) [] [] (He.ga K "_law_told") fd
  d_Walk__rows_of : ∃ fd, FunD K "rows_of" "Walk.rows_of" (defArgs (mth 15 0)) (defBody (mth 15 0)) (defScope (mth 15 0)) [] [] (He.fAd K ("Walk", some "rows_of")) fd
  d_Walk__key_of : ∃ fd, FunD K "key_of" "Walk.key_of" (defArgs (mth 15 1)) (defBody (mth 15 1)) (defScope (mth 15 1)) [] [] (He.fAd K ("Walk", some "key_of")) fd
  d_Walk__loads_of : ∃ fd, FunD K "loads_of" "Walk.loads_of" (defArgs (mth 15 2)) (defBody (mth 15 2)) (defScope (mth 15 2)) [] [] (He.fAd K ("Walk", some "loads_of")) fd
  d_Walk__ahead_of : ∃ fd, FunD K "ahead_of" "Walk.ahead_of" (defArgs (mth 15 3)) (defBody (mth 15 3)) (defScope (mth 15 3)) [] [] (He.fAd K ("Walk", some "ahead_of")) fd
  d_Trail____init__ : ∃ fd, FunD K "__init__" "Trail.__init__" (defArgs (mth 12 0)) (defBody (mth 12 0)) (defScope (mth 12 0)) [] [] (He.fAd K ("Trail", some "__init__")) fd
  d_Trail__load : ∃ fd, FunD K "load" "Trail.load" (defArgs (mth 12 2)) (defBody (mth 12 2)) (defScope (mth 12 2)) [] [] (He.fAd K ("Trail", some "load")) fd
  g_when_of : mg "when_of" = some (.ref (He.ga K "when_of"))
  d_when_of : ∃ fd, FunD K "when_of" "when_of" (defArgs (top 14)) (defBody (top 14)) (defScope (top 14)) [] [] (He.ga K "when_of") fd
  g_sum_names : mg "sum_names" = some (.ref (He.ga K "sum_names"))
  d_sum_names : ∃ fd, FunD K "sum_names" "sum_names" (defArgs (top 1)) (defBody (top 1)) (defScope (top 1)) [] [] (He.ga K "sum_names") fd
  g_read_names : mg "read_names" = some (.ref (He.ga K "read_names"))
  d_read_names : ∃ fd, FunD K "read_names" "read_names" (defArgs (top 2)) (defBody (top 2)) (defScope (top 2)) [] [] (He.ga K "read_names") fd
  d_Walk__found_by : ∃ fd, FunD K "found_by" "Walk.found_by" (defArgs (mth 15 6)) (defBody (mth 15 6)) (defScope (mth 15 6)) [] [] (He.fAd K ("Walk", some "found_by")) fd
  g_value_of : mg "value_of" = some (.ref (He.ga K "value_of"))
  d_value_of : ∃ fd, FunD K "value_of" "value_of" (defArgs (top 13)) (defBody (top 13)) (defScope (top 13)) [] [] (He.ga K "value_of") fd
  d_Trail__take : ∃ fd, FunD K "take" "Trail.take" (defArgs (mth 12 1)) (defBody (mth 12 1)) (defScope (mth 12 1)) [] [] (He.fAd K ("Trail", some "take")) fd
  d_Walk__done : ∃ fd, FunD K "done" "Walk.done" (defArgs (mth 15 7)) (defBody (mth 15 7)) (defScope (mth 15 7)) [] [] (He.fAd K ("Walk", some "done")) fd
  d_Walk__begin : ∃ fd, FunD K "begin" "Walk.begin" (defArgs (mth 15 5)) (defBody (mth 15 5)) (defScope (mth 15 5)) [] [] (He.fAd K ("Walk", some "begin")) fd
  d_Walk__go : ∃ fd, FunD K "go" "Walk.go" (defArgs (mth 15 4)) (defBody (mth 15 4)) (defScope (mth 15 4)) [] [] (He.fAd K ("Walk", some "go")) fd
  g__law_bare : mg "_law_bare" = some (.ref (He.ga K "_law_bare"))
  d__law_bare : ∃ fd, FunD K "_law_bare" "_law_bare" (defArgs (top 26)) (defBody (top 26)) (defScope (top 26)) [] [] (He.ga K "_law_bare") fd
  d_PartsWalk__found_by : ∃ fd, FunD K "found_by" "Walk.found_by" (defArgs (mth 15 6)) (defBody (mth 15 6)) (defScope (mth 15 6)) [] [] (He.fAd K ("PartsWalk", some "found_by")) fd
  d_PartsWalk__done : ∃ fd, FunD K "done" "Walk.done" (defArgs (mth 15 7)) (defBody (mth 15 7)) (defScope (mth 15 7)) [] [] (He.fAd K ("PartsWalk", some "done")) fd
  d_PartsWalk__begin : ∃ fd, FunD K "begin" "Walk.begin" (defArgs (mth 15 5)) (defBody (mth 15 5)) (defScope (mth 15 5)) [] [] (He.fAd K ("PartsWalk", some "begin")) fd
  d_PartsWalk__go : ∃ fd, FunD K "go" "Walk.go" (defArgs (mth 15 4)) (defBody (mth 15 4)) (defScope (mth 15 4)) [] [] (He.fAd K ("PartsWalk", some "go")) fd
  g__law_due : mg "_law_due" = some (.ref (He.ga K "_law_due"))
  d__law_due : ∃ fd, FunD K "_law_due" "_law_due" (defArgs (top 23)) (defBody (top 23)) (defScope (top 23)) [] [] (He.ga K "_law_due") fd
  g__law_gone : mg "_law_gone" = some (.ref (He.ga K "_law_gone"))
  d__law_gone : ∃ fd, FunD K "_law_gone" "_law_gone" (defArgs (top 24)) (defBody (top 24)) (defScope (top 24)) [] [] (He.ga K "_law_gone") fd
  g_law : mg "law" = some (.ref (He.ga K "law"))
  d_law : ∃ fd, FunD K "law" "law" (defArgs (top 27)) (defBody (top 27)) (defScope (top 27)) [] [] (He.ga K "law") fd
  fr_len : mg "len" = none
  fr_tuple : mg "tuple" = none
  fr_range : mg "range" = none
  fr_enumerate : mg "enumerate" = none
  fr_bool : mg "bool" = none
  fr_int : mg "int" = none
  fr_isinstance : mg "isinstance" = none
  fr_list : mg "list" = none
  fr_str : mg "str" = none
  fr_reversed : mg "reversed" = none
  g_Trail : mg "Trail" = some (.ref (He.ga K "Trail"))
  g_PartsWalk : mg "PartsWalk" = some (.ref (He.ga K "PartsWalk"))
  g_Walk : mg "Walk" = some (.ref (He.ga K "Walk"))
  cl_PartsWalk : Cls K (He.ga K "PartsWalk")
  cl_Trail : Cls K (He.ga K "Trail")
  cl_Walk : Cls K (He.ga K "Walk")
  na_PartsWalk_parts : NoAttr K (He.ga K "PartsWalk") "parts"
  na_Trail_numbers : NoAttr K (He.ga K "Trail") "numbers"
  na_Trail_taken : NoAttr K (He.ga K "Trail") "taken"
  na_Trail_known : NoAttr K (He.ga K "Trail") "known"
  na_Trail_begun : NoAttr K (He.ga K "Trail") "begun"
  na_Trail_loaded : NoAttr K (He.ga K "Trail") "loaded"
  na_Trail_trace : NoAttr K (He.ga K "Trail") "trace"
  na_Trail_fault : NoAttr K (He.ga K "Trail") "fault"
  me_PartsWalk_rows_of : Meth K (He.ga K "PartsWalk") "rows_of" (He.fAd K ("PartsWalk", some "rows_of"))
  me_PartsWalk_loads_of : Meth K (He.ga K "PartsWalk") "loads_of" (He.fAd K ("PartsWalk", some "loads_of"))
  me_PartsWalk_ahead_of : Meth K (He.ga K "PartsWalk") "ahead_of" (He.fAd K ("PartsWalk", some "ahead_of"))
  me_PartsWalk_key_of : Meth K (He.ga K "PartsWalk") "key_of" (He.fAd K ("PartsWalk", some "key_of"))
  me_Walk_key_of : Meth K (He.ga K "Walk") "key_of" (He.fAd K ("Walk", some "key_of"))
  me_Trail_take : Meth K (He.ga K "Trail") "take" (He.fAd K ("Trail", some "take"))
  me_Trail_load : Meth K (He.ga K "Trail") "load" (He.fAd K ("Trail", some "load"))
  me_Walk_loads_of : Meth K (He.ga K "Walk") "loads_of" (He.fAd K ("Walk", some "loads_of"))
  me_Walk_begin : Meth K (He.ga K "Walk") "begin" (He.fAd K ("Walk", some "begin"))
  me_Walk_found_by : Meth K (He.ga K "Walk") "found_by" (He.fAd K ("Walk", some "found_by"))
  me_Walk_done : Meth K (He.ga K "Walk") "done" (He.fAd K ("Walk", some "done"))
  me_Walk_rows_of : Meth K (He.ga K "Walk") "rows_of" (He.fAd K ("Walk", some "rows_of"))
  me_Walk_ahead_of : Meth K (He.ga K "Walk") "ahead_of" (He.fAd K ("Walk", some "ahead_of"))
  me_Walk_go : Meth K (He.ga K "Walk") "go" (He.fAd K ("Walk", some "go"))
  me_PartsWalk_begin : Meth K (He.ga K "PartsWalk") "begin" (He.fAd K ("PartsWalk", some "begin"))
  me_PartsWalk_found_by : Meth K (He.ga K "PartsWalk") "found_by" (He.fAd K ("PartsWalk", some "found_by"))
  me_PartsWalk_done : Meth K (He.ga K "PartsWalk") "done" (He.fAd K ("PartsWalk", some "done"))
  me_PartsWalk_go : Meth K (He.ga K "PartsWalk") "go" (He.fAd K ("PartsWalk", some "go"))
  mk_Trail : Mk K (He.ga K "Trail") (He.fAd K ("Trail", some "__init__"))
  mk_PartsWalk : Mk K (He.ga K "PartsWalk") (He.fAd K ("PartsWalk", some "__init__"))
  mb_Walk : MkO.MkB K (He.ga K "Walk")
  ow_PartsWalk : OwC K (He.ga K "PartsWalk")
  ki_PartsWalk_Walk : PySem.W.kitOne K (.ref (He.ga K "PartsWalk")) (.ref (He.ga K "Walk")) = some true
theorem tx_of {K : PySem.W.Frag} {h : Heap} {mg : Str → Option Value} (X : K.In h) (G : h.Ns mainGlobals mg) (c : SaysX fa fn xs K) : Tx K mg where
  g__law_cell_at := He.glo_ok X G (c.d.fact 0 rfl)
  d__law_cell_at := c.d.def_ 0 rfl
  g__law_name := He.glo_ok X G (c.d.fact 1 rfl)
  d__law_name := c.d.def_ 1 rfl
  g__law_parts := He.glo_ok X G (c.d.fact 2 rfl)
  d__law_parts := c.d.def_ 2 rfl
  d_PartsWalk____init__ := c.d.def_ 3 rfl
  g__law_number := He.glo_ok X G (c.d.fact 3 rfl)
  d__law_number := c.d.def_ 4 rfl
  d_PartsWalk__rows_of := c.d.def_ 5 rfl
  g_rows_of := He.glo_ok X G (c.d.fact 4 rfl)
  d_rows_of := c.d.def_ 6 rfl
  g_made_by := He.glo_ok X G (c.d.fact 5 rfl)
  d_made_by := c.d.def_ 7 rfl
  g_made_in := He.glo_ok X G (c.d.fact 6 rfl)
  d_made_in := c.d.def_ 8 rfl
  g_brought_from := He.glo_ok X G (c.d.fact 7 rfl)
  d_brought_from := c.d.def_ 9 rfl
  g_given_as := He.glo_ok X G (c.d.fact 8 rfl)
  d_given_as := c.d.def_ 10 rfl
  g_onward := He.glo_ok X G (c.d.fact 9 rfl)
  d_onward := c.d.def_ 11 rfl
  g_maker := He.glo_ok X G (c.d.fact 10 rfl)
  d_maker := c.d.def_ 12 rfl
  d_PartsWalk__key_of := c.d.def_ 13 rfl
  g__law_whole := He.glo_ok X G (c.d.fact 11 rfl)
  d__law_whole := c.d.def_ 14 rfl
  d_PartsWalk__loads_of := c.d.def_ 15 rfl
  d_PartsWalk__ahead_of := c.d.def_ 16 rfl
  g__law_told := He.glo_ok X G (c.d.fact 12 rfl)
  d__law_told := c.d.def_ 17 rfl
  d_Walk__rows_of := c.d.def_ 18 rfl
  d_Walk__key_of := c.d.def_ 19 rfl
  d_Walk__loads_of := c.d.def_ 20 rfl
  d_Walk__ahead_of := c.d.def_ 21 rfl
  d_Trail____init__ := c.d.def_ 22 rfl
  d_Trail__load := c.d.def_ 23 rfl
  g_when_of := He.glo_ok X G (c.d.fact 13 rfl)
  d_when_of := c.d.def_ 24 rfl
  g_sum_names := He.glo_ok X G (c.d.fact 14 rfl)
  d_sum_names := c.d.def_ 25 rfl
  g_read_names := He.glo_ok X G (c.d.fact 15 rfl)
  d_read_names := c.d.def_ 26 rfl
  d_Walk__found_by := c.d.def_ 27 rfl
  g_value_of := He.glo_ok X G (c.d.fact 16 rfl)
  d_value_of := c.d.def_ 28 rfl
  d_Trail__take := c.d.def_ 29 rfl
  d_Walk__done := c.d.def_ 30 rfl
  d_Walk__begin := c.d.def_ 31 rfl
  d_Walk__go := c.d.def_ 32 rfl
  g__law_bare := He.glo_ok X G (c.d.fact 17 rfl)
  d__law_bare := c.d.def_ 33 rfl
  d_PartsWalk__found_by := c.d.def_ 34 rfl
  d_PartsWalk__done := c.d.def_ 35 rfl
  d_PartsWalk__begin := c.d.def_ 36 rfl
  d_PartsWalk__go := c.d.def_ 37 rfl
  g__law_due := He.glo_ok X G (c.d.fact 18 rfl)
  d__law_due := c.d.def_ 38 rfl
  g__law_gone := He.glo_ok X G (c.d.fact 19 rfl)
  d__law_gone := c.d.def_ 39 rfl
  g_law := He.glo_ok X G (c.d.fact 20 rfl)
  d_law := c.d.def_ 40 rfl
  fr_len := He.free_ok X G (c.d.fact 21 rfl)
  fr_tuple := He.free_ok X G (c.d.fact 22 rfl)
  fr_range := He.free_ok X G (c.d.fact 23 rfl)
  fr_enumerate := He.free_ok X G (c.d.fact 24 rfl)
  fr_bool := He.free_ok X G (c.d.fact 25 rfl)
  fr_int := He.free_ok X G (c.d.fact 26 rfl)
  fr_isinstance := He.free_ok X G (c.d.fact 27 rfl)
  fr_list := He.free_ok X G (c.d.fact 28 rfl)
  fr_str := He.free_ok X G (c.d.fact 29 rfl)
  fr_reversed := He.free_ok X G (c.d.fact 30 rfl)
  g_Trail := He.glo_ok X G (c.d.fact 31 rfl)
  g_PartsWalk := He.glo_ok X G (c.d.fact 32 rfl)
  g_Walk := He.glo_ok X G (c.d.fact 33 rfl)
  cl_PartsWalk := He.cls_ok (c.d.fact 34 rfl)
  cl_Trail := He.cls_ok (c.d.fact 35 rfl)
  cl_Walk := He.cls_ok (c.d.fact 36 rfl)
  na_PartsWalk_parts := He.noat_ok (c.d.fact 37 rfl)
  na_Trail_numbers := He.noat_ok (c.d.fact 38 rfl)
  na_Trail_taken := He.noat_ok (c.d.fact 39 rfl)
  na_Trail_known := He.noat_ok (c.d.fact 40 rfl)
  na_Trail_begun := He.noat_ok (c.d.fact 41 rfl)
  na_Trail_loaded := He.noat_ok (c.d.fact 42 rfl)
  na_Trail_trace := He.noat_ok (c.d.fact 43 rfl)
  na_Trail_fault := He.noat_ok (c.d.fact 44 rfl)
  me_PartsWalk_rows_of := He.meth_ok (c.d.fact 45 rfl)
  me_PartsWalk_loads_of := He.meth_ok (c.d.fact 46 rfl)
  me_PartsWalk_ahead_of := He.meth_ok (c.d.fact 47 rfl)
  me_PartsWalk_key_of := He.meth_ok (c.d.fact 48 rfl)
  me_Walk_key_of := He.meth_ok (c.d.fact 49 rfl)
  me_Trail_take := He.meth_ok (c.d.fact 50 rfl)
  me_Trail_load := He.meth_ok (c.d.fact 51 rfl)
  me_Walk_loads_of := He.meth_ok (c.d.fact 52 rfl)
  me_Walk_begin := He.meth_ok (c.d.fact 53 rfl)
  me_Walk_found_by := He.meth_ok (c.d.fact 54 rfl)
  me_Walk_done := He.meth_ok (c.d.fact 55 rfl)
  me_Walk_rows_of := He.meth_ok (c.d.fact 56 rfl)
  me_Walk_ahead_of := He.meth_ok (c.d.fact 57 rfl)
  me_Walk_go := He.meth_ok (c.d.fact 58 rfl)
  me_PartsWalk_begin := He.meth_ok (c.d.fact 59 rfl)
  me_PartsWalk_found_by := He.meth_ok (c.d.fact 60 rfl)
  me_PartsWalk_done := He.meth_ok (c.d.fact 61 rfl)
  me_PartsWalk_go := He.meth_ok (c.d.fact 62 rfl)
  mk_Trail := He.mkr_ok (c.d.fact 63 rfl)
  mk_PartsWalk := He.mkr_ok (c.d.fact 64 rfl)
  mb_Walk := MkO.mkbB_ok (c.x 0 rfl)
  ow_PartsWalk := owcB_ok (c.x 1 rfl)
  ki_PartsWalk_Walk := of_decide_eq_true (c.x 2 rfl)
section
variable {P : Program} {w : World} {K : PySem.W.Frag} {mg : Str → Option Value} {base : Heap} {xc : Nat → Value} {oc : Nat → Addr}
theorem sc_l_cell_at : FnScope ["_law_script", "_law_k"] ["_law_script", "_law_k"] (defScope (top 18)) := ⟨rfl, rfl, rfl, by decide +kernel, rfl, by decide +kernel, by decide +kernel⟩
theorem H_l_cell_at (T : Tx K mg) : FnB P w K mg base (XC K) (OC K) 1 "_law_cell_at" ["_law_script", "_law_k"] l_cell_at := by
  obtain ⟨fd, F⟩ := T.d__law_cell_at
  refine fnF (k := 0) (N := ["_law_script", "_law_k"]) T.g__law_cell_at F (fun _ _ _ _ _ _ us hl => match us, hl with | [_, _], _ => rfl) sc_l_cell_at (by decide) fun cdv A outer s H E c => ?_
  have v0 := fun pos => kVar (z := zOf P w K mg base (XC K) (OC K) ["_law_script", "_law_k"] "_law_cell_at" (defScope (top 18)) (He.ga K "_law_cell_at") cdv A outer s H E) 0 (x := "_law_script") rfl (.inl rfl) (by decide) (by decide) pos
  have v1 := fun pos => kVar (z := zOf P w K mg base (XC K) (OC K) ["_law_script", "_law_k"] "_law_cell_at" (defScope (top 18)) (He.ga K "_law_cell_at") cdv A outer s H E) 1 (x := "_law_k") rfl (.inl rfl) (by decide) (by decide) pos
  exact (ssCons (sIfOk (B.tLt (v1 _) (kLen rfl T.fr_len (v0 _))) (ssOne (sRetOk (kIx c (v0 _) (v1 _)))) ssNil) (ssOne (sRetOk kInt)))
theorem sc_l_name : FnScope ["_law_form", "_law_k", "_law_base", "_law_at"] ["_law_form", "_law_k"] (defScope (top 20)) := ⟨rfl, rfl, rfl, by decide +kernel, rfl, by decide +kernel, by decide +kernel⟩
theorem H_l_name (T : Tx K mg) : FnB P w K mg base (XC K) (OC K) 1 "_law_name" ["_law_form", "_law_k"] l_name := by
  obtain ⟨fd, F⟩ := T.d__law_name
  refine fnF (k := 0) (N := ["_law_form", "_law_k", "_law_base", "_law_at"]) T.g__law_name F (fun _ _ _ _ _ _ us hl => match us, hl with | [_, _], _ => rfl) sc_l_name (by decide) fun cdv A outer s H E c => ?_
  have v0 := fun pos => kVar (z := zOf P w K mg base (XC K) (OC K) ["_law_form", "_law_k", "_law_base", "_law_at"] "_law_name" (defScope (top 20)) (He.ga K "_law_name") cdv A outer s H E) 0 (x := "_law_form") rfl (.inl rfl) (by decide) (by decide) pos
  have v1 := fun pos => kVar (z := zOf P w K mg base (XC K) (OC K) ["_law_form", "_law_k", "_law_base", "_law_at"] "_law_name" (defScope (top 20)) (He.ga K "_law_name") cdv A outer s H E) 1 (x := "_law_k") rfl (.inl rfl) (by decide) (by decide) pos
  have v2 := fun pos => kVar (z := zOf P w K mg base (XC K) (OC K) ["_law_form", "_law_k", "_law_base", "_law_at"] "_law_name" (defScope (top 20)) (He.ga K "_law_name") cdv A outer s H E) 2 (x := "_law_base") rfl (.inl rfl) (by decide) (by decide) pos
  have v3 := fun pos => kVar (z := zOf P w K mg base (XC K) (OC K) ["_law_form", "_law_k", "_law_base", "_law_at"] "_law_name" (defScope (top 20)) (He.ga K "_law_name") cdv A outer s H E) 3 (x := "_law_at") rfl (.inl rfl) (by decide) (by decide) pos
  exact (ssCons (sSetOk c 2 (kIx c (kLst (aCons (kStr []) (aCons (kStr [119]) (aCons (kStr [116, 97, 107, 101]) (aCons (kStr [103, 111, 55]) (aCons (kStr [119, 97, 108, 107, 115]) aNil)))))) (kMod (v0 _) kInt)) rfl (.inl rfl) (.inr rfl)) (ssCons (sSetOk c 3 (kMod (kDiv (v0 _) kInt) (kAdd (kLen rfl T.fr_len (v2 _)) kInt)) rfl (.inl rfl) (.inr rfl)) (ssOne (sRetOk (kAdd (kAdd (kSl (v2 _) oNone (oSome (v3 _))) (kIx c (kStr [97, 98, 99, 100, 101, 102, 103, 104]) (v1 _))) (kSl (v2 _) (oSome (v3 _)) oNone))))))
theorem sc_l_parts : FnScope ["_law_script", "_law_form", "_law_own", "_law_there", "_law_given", "_law_one", "_law_two", "_law_three", "_law_cell"] ["_law_script"] (defScope (top 22)) := ⟨rfl, rfl, rfl, by decide +kernel, rfl, by decide +kernel, by decide +kernel⟩
theorem H_l_parts (T : Tx K mg) : FnB P w K mg base (XC K) (OC K) 2 "_law_parts" ["_law_script"] l_parts := by
  obtain ⟨fd, F⟩ := T.d__law_parts
  refine fnF (k := 1) (N := ["_law_script", "_law_form", "_law_own", "_law_there", "_law_given", "_law_one", "_law_two", "_law_three", "_law_cell"]) T.g__law_parts F (fun _ _ _ _ _ _ us hl => match us, hl with | [_], _ => rfl) sc_l_parts (by decide) fun cdv A outer s H E c => ?_
  have v0 := fun pos => kVar (z := zOf P w K mg base (XC K) (OC K) ["_law_script", "_law_form", "_law_own", "_law_there", "_law_given", "_law_one", "_law_two", "_law_three", "_law_cell"] "_law_parts" (defScope (top 22)) (He.ga K "_law_parts") cdv A outer s H E) 0 (x := "_law_script") rfl (.inl rfl) (by decide) (by decide) pos
  have v1 := fun pos => kVar (z := zOf P w K mg base (XC K) (OC K) ["_law_script", "_law_form", "_law_own", "_law_there", "_law_given", "_law_one", "_law_two", "_law_three", "_law_cell"] "_law_parts" (defScope (top 22)) (He.ga K "_law_parts") cdv A outer s H E) 1 (x := "_law_form") rfl (.inl rfl) (by decide) (by decide) pos
  have v2 := fun pos => kVar (z := zOf P w K mg base (XC K) (OC K) ["_law_script", "_law_form", "_law_own", "_law_there", "_law_given", "_law_one", "_law_two", "_law_three", "_law_cell"] "_law_parts" (defScope (top 22)) (He.ga K "_law_parts") cdv A outer s H E) 2 (x := "_law_own") rfl (.inl rfl) (by decide) (by decide) pos
  have v3 := fun pos => kVar (z := zOf P w K mg base (XC K) (OC K) ["_law_script", "_law_form", "_law_own", "_law_there", "_law_given", "_law_one", "_law_two", "_law_three", "_law_cell"] "_law_parts" (defScope (top 22)) (He.ga K "_law_parts") cdv A outer s H E) 3 (x := "_law_there") rfl (.inl rfl) (by decide) (by decide) pos
  have v4 := fun pos => kVar (z := zOf P w K mg base (XC K) (OC K) ["_law_script", "_law_form", "_law_own", "_law_there", "_law_given", "_law_one", "_law_two", "_law_three", "_law_cell"] "_law_parts" (defScope (top 22)) (He.ga K "_law_parts") cdv A outer s H E) 4 (x := "_law_given") rfl (.inl rfl) (by decide) (by decide) pos
  have v5 := fun pos => kVar (z := zOf P w K mg base (XC K) (OC K) ["_law_script", "_law_form", "_law_own", "_law_there", "_law_given", "_law_one", "_law_two", "_law_three", "_law_cell"] "_law_parts" (defScope (top 22)) (He.ga K "_law_parts") cdv A outer s H E) 5 (x := "_law_one") rfl (.inl rfl) (by decide) (by decide) pos
  have v6 := fun pos => kVar (z := zOf P w K mg base (XC K) (OC K) ["_law_script", "_law_form", "_law_own", "_law_there", "_law_given", "_law_one", "_law_two", "_law_three", "_law_cell"] "_law_parts" (defScope (top 22)) (He.ga K "_law_parts") cdv A outer s H E) 6 (x := "_law_two") rfl (.inl rfl) (by decide) (by decide) pos
  have v7 := fun pos => kVar (z := zOf P w K mg base (XC K) (OC K) ["_law_script", "_law_form", "_law_own", "_law_there", "_law_given", "_law_one", "_law_two", "_law_three", "_law_cell"] "_law_parts" (defScope (top 22)) (He.ga K "_law_parts") cdv A outer s H E) 7 (x := "_law_three") rfl (.inl rfl) (by decide) (by decide) pos
  have h_l_cell_at := H_l_cell_at (P := P) (w := w) (base := base) T
  have h_l_name := H_l_name (P := P) (w := w) (base := base) T
  exact (ssCons (sSetOk c 1 (kCall wP c h_l_cell_at (by decide) rfl (aCons (v0 _) (aCons kInt aNil))) rfl (.inl rfl) (.inr rfl)) (ssCons (sSetOk c 2 (kCall wP c h_l_name (by decide) rfl (aCons (kDiv (v1 _) kInt) (aCons (kMod (kCall wP c h_l_cell_at (by decide) rfl (aCons (v0 _) (aCons kInt aNil))) kInt) aNil))) rfl (.inl rfl) (.inr rfl)) (ssCons (sSetOk c 3 (kCall wP c h_l_name (by decide) rfl (aCons (kDiv (v1 _) kInt) (aCons (kMod (kDiv (kCall wP c h_l_cell_at (by decide) rfl (aCons (v0 _) (aCons kInt aNil))) kInt) kInt) aNil))) rfl (.inl rfl) (.inr rfl)) (ssCons (sSetOk c 4 (kCall wP c h_l_name (by decide) rfl (aCons (kDiv (v1 _) kInt) (aCons (kMod (kDiv (kCall wP c h_l_cell_at (by decide) rfl (aCons (v0 _) (aCons kInt aNil))) kInt) kInt) aNil))) rfl (.inl rfl) (.inr rfl)) (ssCons (sSetOk c 5 (kLst (aCons (kTup (aCons (kStr [98, 114, 105, 110, 103]) (aCons (kCall wP c h_l_name (by decide) rfl (aCons (v1 _) (aCons kInt aNil))) (aCons (kTup (aCons (kTup (aCons (v4 _) (aCons (v2 _) aNil))) aNil)) aNil)))) (aCons (kTup (aCons (kStr [115, 97, 121]) (aCons (kTup (aCons (kTup (aCons kInt (aCons (v2 _) aNil))) (aCons (kTup (aCons kInt (aCons kInt aNil))) aNil))) (aCons kNon aNil)))) aNil))) rfl (.inl rfl) (.inr rfl)) (ssCons (sSetOk c 5 (kAdd (v5 _) (kLst (aCons (kTup (aCons (kStr [110, 101, 101, 100]) (aCons (kTup (aCons (kTup (aCons kInt (aCons (v2 _) aNil))) (aCons (kTup (aCons kInt (aCons kInt aNil))) aNil))) aNil))) (aCons (kTup (aCons (kStr [97, 115, 107]) (aCons (kCall wP c h_l_name (by decide) rfl (aCons (v1 _) (aCons kInt aNil))) (aCons (v2 _) aNil)))) (aCons (kTup (aCons (kStr [115, 97, 121]) (aCons (kTup (aCons (kTup (aCons kInt (aCons (v2 _) aNil))) aNil)) (aCons kNon aNil)))) aNil))))) rfl (.inl rfl) (.inr rfl)) (ssCons (sSetOk c 6 (kLst (aCons (kTup (aCons (kStr [116, 97, 107, 101]) (aCons (v3 _) aNil))) (aCons (kTup (aCons (kStr [115, 97, 121]) (aCons (kTup (aCons (kTup (aCons kInt (aCons kInt aNil))) aNil)) (aCons kNon aNil)))) (aCons (kTup (aCons (kStr [103, 105, 118, 101]) (aCons (v3 _) (aCons (v4 _) aNil)))) aNil)))) rfl (.inl rfl) (.inr rfl)) (ssCons (sIfOk (B.tEq c (kMod (kCall wP c h_l_cell_at (by decide) rfl (aCons (v0 _) (aCons kInt aNil))) kInt) kInt) (ssOne (sSetOk c 6 (kLst (aCons (kIx c (v6 _) kInt) (aCons (kIx c (v6 _) kInt) (aCons (kIx c (v6 _) kInt) aNil)))) rfl (.inl rfl) (.inr rfl))) ssNil) (ssCons (sComp (own := [("_law_cell", 8)]) 7 c (iSeqOk (kSl (v0 _) (oSome kInt) (oSome kInt))) { blk := blkOk_by (N := ["_law_script", "_law_form", "_law_own", "_law_there", "_law_given", "_law_one", "_law_two", "_law_three", "_law_cell"]) (sc := defScope (top 22)) (by decide +kernel), g := ⟨_, gw_name (by decide), fun _ _ _ _ _ => pg_name c.nd rfl (.inl rfl) (.inr rfl)⟩, t := ⟨_, st_yes, fun _ _ _ _ _ => pts_nil⟩, e := fun _ _ _ _ _ => (kTup (aCons (kStr [115, 97, 121]) (aCons (kTup (aCons (kTup (aCons kInt (aCons (kMod (kVar 8 rfl (.inl rfl) (by decide) (by decide) _) (kPow kInt kInt)) aNil))) aNil)) (aCons kNon aNil)))) } rfl rfl (sw_true rfl rfl rfl (by decide +kernel))) (ssOne (sRetOk (kLst (aCons (kTup (aCons (kCall wP c h_l_name (by decide) rfl (aCons (v1 _) (aCons kInt aNil))) (aCons (kTuple rfl T.fr_tuple (v5 _)) aNil))) (aCons (kTup (aCons (kCall wP c h_l_name (by decide) rfl (aCons (v1 _) (aCons kInt aNil))) (aCons (kTuple rfl T.fr_tuple (v6 _)) aNil))) (aCons (kTup (aCons (kCall wP c h_l_name (by decide) rfl (aCons (v1 _) (aCons kInt aNil))) (aCons (kTuple rfl T.fr_tuple (v7 _)) aNil))) aNil)))))))))))))))
theorem sc_m_PartsWalk___init__ : FnScope ["self", "parts"] ["self", "parts"] (defScope (mth 16 0)) := ⟨rfl, rfl, rfl, by decide +kernel, rfl, by decide +kernel, by decide +kernel⟩
theorem H_m_PartsWalk___init__K (T : Tx K mg) : FnM P w K mg base (XC K) (OC K) 1 (He.fAd K ("PartsWalk", some "__init__")) ["self", "parts"] m_PartsWalk___init__K := by
  obtain ⟨fd, F⟩ := T.d_PartsWalk____init__
  refine fnMK (k := 0) (N := ["self", "parts"]) F (fun _ _ _ _ _ _ us hl => match us, hl with | [_, _], _ => rfl) sc_m_PartsWalk___init__ (by decide) fun cdv A outer s H E c => ?_
  have v0 := fun pos => kVar (z := zOf P w K mg base (XC K) (OC K) ["self", "parts"] "PartsWalk.__init__" (defScope (mth 16 0)) (He.fAd K ("PartsWalk", some "__init__")) cdv A outer s H E) 0 (x := "self") rfl (.inl rfl) (by decide) (by decide) pos
  have v1 := fun pos => kVar (z := zOf P w K mg base (XC K) (OC K) ["self", "parts"] "PartsWalk.__init__" (defScope (mth 16 0)) (He.fAd K ("PartsWalk", some "__init__")) cdv A outer s H E) 1 (x := "parts") rfl (.inl rfl) (by decide) (by decide) pos
  exact (ssOne (sFldOk [112, 97, 114, 116, 115] rfl T.cl_PartsWalk T.na_PartsWalk_parts (v0 _) (v1 _)))
theorem sc_l_number : FnScope ["_law_cell"] ["_law_cell"] (defScope (top 21)) := ⟨rfl, rfl, rfl, by decide +kernel, rfl, by decide +kernel, by decide +kernel⟩
theorem H_l_number (T : Tx K mg) : FnB P w K mg base (XC K) (OC K) 1 "_law_number" ["_law_cell"] l_number := by
  obtain ⟨fd, F⟩ := T.d__law_number
  refine fnF (k := 0) (N := ["_law_cell"]) T.g__law_number F (fun _ _ _ _ _ _ us hl => match us, hl with | [_], _ => rfl) sc_l_number (by decide) fun cdv A outer s H E c => ?_
  have v0 := fun pos => kVar (z := zOf P w K mg base (XC K) (OC K) ["_law_cell"] "_law_number" (defScope (top 21)) (He.ga K "_law_number") cdv A outer s H E) 0 (x := "_law_cell") rfl (.inl rfl) (by decide) (by decide) pos
  exact (ssCons (sIfOk (B.tEq c (kMod (v0 _) kInt) kInt) (ssOne (sRetOk (kSub (kMod (kDiv (v0 _) kInt) kInt) kInt))) ssNil) (ssOne (sRetOk (kAdd (kSub (kMod (kDiv (v0 _) kInt) (kSub (kMul kInt (kPow kInt kInt)) kInt)) (kPow kInt kInt)) kInt))))
theorem sc_m_PartsWalk_rows_of : FnScope ["self", "part", "name", "rows", "number"] ["self", "part"] (defScope (mth 16 1)) := ⟨rfl, rfl, rfl, by decide +kernel, rfl, by decide +kernel, by decide +kernel⟩
theorem H_m_PartsWalk_rows_of (T : Tx K mg) : FnM P w K mg base (XC K) (OC K) 1 (He.fAd K ("PartsWalk", some "rows_of")) ["self", "part"] m_PartsWalk_rows_of := by
  obtain ⟨fd, F⟩ := T.d_PartsWalk__rows_of
  refine fnMF (k := 0) (N := ["self", "part", "name", "rows", "number"]) F (fun _ _ _ _ _ _ us hl => match us, hl with | [_, _], _ => rfl) sc_m_PartsWalk_rows_of (by decide) fun cdv A outer s H E c => ?_
  have v0 := fun pos => kVar (z := zOf P w K mg base (XC K) (OC K) ["self", "part", "name", "rows", "number"] "PartsWalk.rows_of" (defScope (mth 16 1)) (He.fAd K ("PartsWalk", some "rows_of")) cdv A outer s H E) 0 (x := "self") rfl (.inl rfl) (by decide) (by decide) pos
  have v1 := fun pos => kVar (z := zOf P w K mg base (XC K) (OC K) ["self", "part", "name", "rows", "number"] "PartsWalk.rows_of" (defScope (mth 16 1)) (He.fAd K ("PartsWalk", some "rows_of")) cdv A outer s H E) 1 (x := "part") rfl (.inr (.inl rfl)) (by decide) (by decide) pos
  have v2 := fun pos => kVar (z := zOf P w K mg base (XC K) (OC K) ["self", "part", "name", "rows", "number"] "PartsWalk.rows_of" (defScope (mth 16 1)) (He.fAd K ("PartsWalk", some "rows_of")) cdv A outer s H E) 2 (x := "name") rfl (.inl rfl) (by decide) (by decide) pos
  have w2 := fun pos => gNameOk c 2 (x := "name") rfl (.inl rfl) (.inr rfl) pos
  have v3 := fun pos => kVar (z := zOf P w K mg base (XC K) (OC K) ["self", "part", "name", "rows", "number"] "PartsWalk.rows_of" (defScope (mth 16 1)) (He.fAd K ("PartsWalk", some "rows_of")) cdv A outer s H E) 3 (x := "rows") rfl (.inr (.inl rfl)) (by decide) (by decide) pos
  have w3 := fun pos => gNameOk c 3 (x := "rows") rfl (.inr rfl) (.inl rfl) pos
  exact (ssCons (sForOk c (iSeqOk (kFld [112, 97, 114, 116, 115] rfl T.cl_PartsWalk T.na_PartsWalk_parts (v0 _))) (gTupOk c (gsCons (w2 _) (gsCons (w3 _) gsNil))) (ssKill [2, 3] (ssOne (sIfOk (B.tEq c (v2 _) (v1 _)) (ssOne (sRetOk (kTuple rfl T.fr_tuple (kComp (own := [("number", 4)]) c (iR1Ok rfl T.fr_range (kLen rfl T.fr_len (v3 _))) { blk := blkOk_by (N := ["self", "part", "name", "rows", "number"]) (sc := defScope (mth 16 1)) (by decide +kernel), g := ⟨_, gw_name (by decide), fun _ _ _ _ _ => pg_name c.nd rfl (.inl rfl) (.inr rfl)⟩, t := ⟨_, st_yes, fun _ _ _ _ _ => pts_nil⟩, e := fun _ _ _ _ _ => (kTup (aCons (kVar 1 rfl (.inr (.inl rfl)) (by decide) (by decide) _) (aCons (kVar 4 rfl (.inl rfl) (by decide) (by decide) _) (aCons (kIx (c.blk _ _ _ _ _) (kVar 3 rfl (.inr (.inl rfl)) (by decide) (by decide) _) (kVar 4 rfl (.inl rfl) (by decide) (by decide) _)) aNil)))) })))) ssNil)))) (ssOne (sRetOk (kTup aNil))))
theorem sc_p_rows_of : FnScope ["parts", "part", "name", "rows"] ["parts", "part"] (defScope (top 4)) := ⟨rfl, rfl, rfl, by decide +kernel, rfl, by decide +kernel, by decide +kernel⟩
theorem H_p_rows_of (T : Tx K mg) : FnB P w K mg base (XC K) (OC K) 1 "rows_of" ["parts", "part"] p_rows_of := by
  obtain ⟨fd, F⟩ := T.d_rows_of
  refine fnF (k := 0) (N := ["parts", "part", "name", "rows"]) T.g_rows_of F (fun _ _ _ _ _ _ us hl => match us, hl with | [_, _], _ => rfl) sc_p_rows_of (by decide) fun cdv A outer s H E c => ?_
  have v0 := fun pos => kVar (z := zOf P w K mg base (XC K) (OC K) ["parts", "part", "name", "rows"] "rows_of" (defScope (top 4)) (He.ga K "rows_of") cdv A outer s H E) 0 (x := "parts") rfl (.inl rfl) (by decide) (by decide) pos
  have v1 := fun pos => kVar (z := zOf P w K mg base (XC K) (OC K) ["parts", "part", "name", "rows"] "rows_of" (defScope (top 4)) (He.ga K "rows_of") cdv A outer s H E) 1 (x := "part") rfl (.inl rfl) (by decide) (by decide) pos
  have v2 := fun pos => kVar (z := zOf P w K mg base (XC K) (OC K) ["parts", "part", "name", "rows"] "rows_of" (defScope (top 4)) (He.ga K "rows_of") cdv A outer s H E) 2 (x := "name") rfl (.inl rfl) (by decide) (by decide) pos
  have w2 := fun pos => gNameOk c 2 (x := "name") rfl (.inl rfl) (.inr rfl) pos
  have v3 := fun pos => kVar (z := zOf P w K mg base (XC K) (OC K) ["parts", "part", "name", "rows"] "rows_of" (defScope (top 4)) (He.ga K "rows_of") cdv A outer s H E) 3 (x := "rows") rfl (.inl rfl) (by decide) (by decide) pos
  have w3 := fun pos => gNameOk c 3 (x := "rows") rfl (.inl rfl) (.inr rfl) pos
  exact (ssCons (sForOk c (iSeqOk (v0 _)) (gTupOk c (gsCons (w2 _) (gsCons (w3 _) gsNil))) (ssKill [2, 3] (ssOne (sIfOk (B.tEq c (v2 _) (v1 _)) (ssOne (sRetOk (v3 _))) ssNil)))) (ssOne (sRetOk (kTup aNil))))
theorem sc_p_made_by : FnScope ["row"] ["row"] (defScope (top 5)) := ⟨rfl, rfl, rfl, by decide +kernel, rfl, by decide +kernel, by decide +kernel⟩
theorem H_p_made_by (T : Tx K mg) : FnB P w K mg base (XC K) (OC K) 1 "made_by" ["row"] p_made_by := by
  obtain ⟨fd, F⟩ := T.d_made_by
  refine fnF (k := 0) (N := ["row"]) T.g_made_by F (fun _ _ _ _ _ _ us hl => match us, hl with | [_], _ => rfl) sc_p_made_by (by decide) fun cdv A outer s H E c => ?_
  have v0 := fun pos => kVar (z := zOf P w K mg base (XC K) (OC K) ["row"] "made_by" (defScope (top 5)) (He.ga K "made_by") cdv A outer s H E) 0 (x := "row") rfl (.inl rfl) (by decide) (by decide) pos
  exact (ssCons (sIfOk (tW (wOr (B.tEq c (kIx c (v0 _) kInt) (kStr [115, 101, 116])) (wOr1 (B.tEq c (kIx c (v0 _) kInt) (kStr [116, 97, 107, 101]))))) (ssOne (sRetOk (kIx c (v0 _) kInt))) ssNil) (ssOne (sRetOk kNon)))
theorem sc_p_made_in : FnScope ["parts", "part", "own", "number", "row"] ["parts", "part", "own"] (defScope (top 6)) := ⟨rfl, rfl, rfl, by decide +kernel, rfl, by decide +kernel, by decide +kernel⟩
theorem H_p_made_in (T : Tx K mg) : FnB P w K mg base (XC K) (OC K) 2 "made_in" ["parts", "part", "own"] p_made_in := by
  obtain ⟨fd, F⟩ := T.d_made_in
  refine fnF (k := 1) (N := ["parts", "part", "own", "number", "row"]) T.g_made_in F (fun _ _ _ _ _ _ us hl => match us, hl with | [_, _, _], _ => rfl) sc_p_made_in (by decide) fun cdv A outer s H E c => ?_
  have v0 := fun pos => kVar (z := zOf P w K mg base (XC K) (OC K) ["parts", "part", "own", "number", "row"] "made_in" (defScope (top 6)) (He.ga K "made_in") cdv A outer s H E) 0 (x := "parts") rfl (.inl rfl) (by decide) (by decide) pos
  have v1 := fun pos => kVar (z := zOf P w K mg base (XC K) (OC K) ["parts", "part", "own", "number", "row"] "made_in" (defScope (top 6)) (He.ga K "made_in") cdv A outer s H E) 1 (x := "part") rfl (.inl rfl) (by decide) (by decide) pos
  have v2 := fun pos => kVar (z := zOf P w K mg base (XC K) (OC K) ["parts", "part", "own", "number", "row"] "made_in" (defScope (top 6)) (He.ga K "made_in") cdv A outer s H E) 2 (x := "own") rfl (.inl rfl) (by decide) (by decide) pos
  have v3 := fun pos => kVar (z := zOf P w K mg base (XC K) (OC K) ["parts", "part", "own", "number", "row"] "made_in" (defScope (top 6)) (He.ga K "made_in") cdv A outer s H E) 3 (x := "number") rfl (.inl rfl) (by decide) (by decide) pos
  have w3 := fun pos => gNameOk c 3 (x := "number") rfl (.inl rfl) (.inr rfl) pos
  have v4 := fun pos => kVar (z := zOf P w K mg base (XC K) (OC K) ["parts", "part", "own", "number", "row"] "made_in" (defScope (top 6)) (He.ga K "made_in") cdv A outer s H E) 4 (x := "row") rfl (.inl rfl) (by decide) (by decide) pos
  have w4 := fun pos => gNameOk c 4 (x := "row") rfl (.inl rfl) (.inr rfl) pos
  have h_p_made_by := H_p_made_by (P := P) (w := w) (base := base) T
  have h_p_rows_of := H_p_rows_of (P := P) (w := w) (base := base) T
  exact (ssCons (sForWOk c (iEnOk c rfl T.fr_enumerate (kCall wP c h_p_rows_of (by decide) rfl (aCons (v0 _) (aCons (v1 _) aNil)))) (gTupOk c (gsCons (w3 _) (gsCons (w4 _) gsNil))) (ssKill [3, 4] (ssOne (sIfOk (B.tEq c (kCall wP c h_p_made_by (by decide) rfl (aCons (v4 _) aNil)) (v2 _)) (ssOne (sRetOk (v3 _))) ssNil)))) (ssOne (sRetOk kNon)))
theorem sc_p_brought_from : FnScope ["parts", "part", "own", "row", "given", "name"] ["parts", "part", "own"] (defScope (top 7)) := ⟨rfl, rfl, rfl, by decide +kernel, rfl, by decide +kernel, by decide +kernel⟩
theorem H_p_brought_from (T : Tx K mg) : FnB P w K mg base (XC K) (OC K) 2 "brought_from" ["parts", "part", "own"] p_brought_from := by
  obtain ⟨fd, F⟩ := T.d_brought_from
  refine fnF (k := 1) (N := ["parts", "part", "own", "row", "given", "name"]) T.g_brought_from F (fun _ _ _ _ _ _ us hl => match us, hl with | [_, _, _], _ => rfl) sc_p_brought_from (by decide) fun cdv A outer s H E c => ?_
  have v0 := fun pos => kVar (z := zOf P w K mg base (XC K) (OC K) ["parts", "part", "own", "row", "given", "name"] "brought_from" (defScope (top 7)) (He.ga K "brought_from") cdv A outer s H E) 0 (x := "parts") rfl (.inl rfl) (by decide) (by decide) pos
  have v1 := fun pos => kVar (z := zOf P w K mg base (XC K) (OC K) ["parts", "part", "own", "row", "given", "name"] "brought_from" (defScope (top 7)) (He.ga K "brought_from") cdv A outer s H E) 1 (x := "part") rfl (.inl rfl) (by decide) (by decide) pos
  have v2 := fun pos => kVar (z := zOf P w K mg base (XC K) (OC K) ["parts", "part", "own", "row", "given", "name"] "brought_from" (defScope (top 7)) (He.ga K "brought_from") cdv A outer s H E) 2 (x := "own") rfl (.inl rfl) (by decide) (by decide) pos
  have v3 := fun pos => kVar (z := zOf P w K mg base (XC K) (OC K) ["parts", "part", "own", "row", "given", "name"] "brought_from" (defScope (top 7)) (He.ga K "brought_from") cdv A outer s H E) 3 (x := "row") rfl (.inl rfl) (by decide) (by decide) pos
  have w3 := fun pos => gNameOk c 3 (x := "row") rfl (.inl rfl) (.inr rfl) pos
  have v4 := fun pos => kVar (z := zOf P w K mg base (XC K) (OC K) ["parts", "part", "own", "row", "given", "name"] "brought_from" (defScope (top 7)) (He.ga K "brought_from") cdv A outer s H E) 4 (x := "given") rfl (.inl rfl) (by decide) (by decide) pos
  have w4 := fun pos => gNameOk c 4 (x := "given") rfl (.inl rfl) (.inr rfl) pos
  have v5 := fun pos => kVar (z := zOf P w K mg base (XC K) (OC K) ["parts", "part", "own", "row", "given", "name"] "brought_from" (defScope (top 7)) (He.ga K "brought_from") cdv A outer s H E) 5 (x := "name") rfl (.inl rfl) (by decide) (by decide) pos
  have w5 := fun pos => gNameOk c 5 (x := "name") rfl (.inl rfl) (.inr rfl) pos
  have h_p_rows_of := H_p_rows_of (P := P) (w := w) (base := base) T
  exact (ssCons (sForOk c (iSeqOk (kCall wP c h_p_rows_of (by decide) rfl (aCons (v0 _) (aCons (v1 _) aNil)))) (w3 _) (ssKill [3, 4, 5] (ssOne (sIfOk (B.tEq c (kIx c (v3 _) kInt) (kStr [98, 114, 105, 110, 103])) (ssOne (sForOk c (iSeqOk (kIx c (v3 _) kInt)) (gTupOk c (gsCons (w4 _) (gsCons (w5 _) gsNil))) (ssKill [4, 5] (ssOne (sIfOk (B.tEq c (v5 _) (v2 _)) (ssOne (sRetOk (kTup (aCons (kIx c (v3 _) kInt) (aCons (v4 _) aNil))))) ssNil))))) ssNil)))) (ssOne (sRetOk kNon)))
theorem sc_p_given_as : FnScope ["parts", "part", "given", "row"] ["parts", "part", "given"] (defScope (top 8)) := ⟨rfl, rfl, rfl, by decide +kernel, rfl, by decide +kernel, by decide +kernel⟩
theorem H_p_given_as (T : Tx K mg) : FnB P w K mg base (XC K) (OC K) 2 "given_as" ["parts", "part", "given"] p_given_as := by
  obtain ⟨fd, F⟩ := T.d_given_as
  refine fnF (k := 1) (N := ["parts", "part", "given", "row"]) T.g_given_as F (fun _ _ _ _ _ _ us hl => match us, hl with | [_, _, _], _ => rfl) sc_p_given_as (by decide) fun cdv A outer s H E c => ?_
  have v0 := fun pos => kVar (z := zOf P w K mg base (XC K) (OC K) ["parts", "part", "given", "row"] "given_as" (defScope (top 8)) (He.ga K "given_as") cdv A outer s H E) 0 (x := "parts") rfl (.inl rfl) (by decide) (by decide) pos
  have v1 := fun pos => kVar (z := zOf P w K mg base (XC K) (OC K) ["parts", "part", "given", "row"] "given_as" (defScope (top 8)) (He.ga K "given_as") cdv A outer s H E) 1 (x := "part") rfl (.inl rfl) (by decide) (by decide) pos
  have v2 := fun pos => kVar (z := zOf P w K mg base (XC K) (OC K) ["parts", "part", "given", "row"] "given_as" (defScope (top 8)) (He.ga K "given_as") cdv A outer s H E) 2 (x := "given") rfl (.inl rfl) (by decide) (by decide) pos
  have v3 := fun pos => kVar (z := zOf P w K mg base (XC K) (OC K) ["parts", "part", "given", "row"] "given_as" (defScope (top 8)) (He.ga K "given_as") cdv A outer s H E) 3 (x := "row") rfl (.inl rfl) (by decide) (by decide) pos
  have w3 := fun pos => gNameOk c 3 (x := "row") rfl (.inl rfl) (.inr rfl) pos
  have h_p_rows_of := H_p_rows_of (P := P) (w := w) (base := base) T
  exact (ssCons (sForOk c (iSeqOk (kCall wP c h_p_rows_of (by decide) rfl (aCons (v0 _) (aCons (v1 _) aNil)))) (w3 _) (ssKill [3] (ssOne (sIfOk (tW (wAnd (B.tEq c (kIx c (v3 _) kInt) (kStr [103, 105, 118, 101])) (wAnd1 (B.tEq c (kIx c (v3 _) kInt) (v2 _))))) (ssOne (sRetOk (kIx c (v3 _) kInt))) ssNil)))) (ssOne (sRetOk kNon)))
theorem sc_p_onward : FnScope ["parts", "part", "own", "other", "given"] ["parts", "part", "own"] (defScope (top 9)) := ⟨rfl, rfl, rfl, by decide +kernel, rfl, by decide +kernel, by decide +kernel⟩
theorem H_p_onward (T : Tx K mg) : FnB P w K mg base (XC K) (OC K) 3 "onward" ["parts", "part", "own"] p_onward := by
  obtain ⟨fd, F⟩ := T.d_onward
  refine fnF (k := 2) (N := ["parts", "part", "own", "other", "given"]) T.g_onward F (fun _ _ _ _ _ _ us hl => match us, hl with | [_, _, _], _ => rfl) sc_p_onward (by decide) fun cdv A outer s H E c => ?_
  have v0 := fun pos => kVar (z := zOf P w K mg base (XC K) (OC K) ["parts", "part", "own", "other", "given"] "onward" (defScope (top 9)) (He.ga K "onward") cdv A outer s H E) 0 (x := "parts") rfl (.inl rfl) (by decide) (by decide) pos
  have v1 := fun pos => kVar (z := zOf P w K mg base (XC K) (OC K) ["parts", "part", "own", "other", "given"] "onward" (defScope (top 9)) (He.ga K "onward") cdv A outer s H E) 1 (x := "part") rfl (.inl rfl) (by decide) (by decide) pos
  have v2 := fun pos => kVar (z := zOf P w K mg base (XC K) (OC K) ["parts", "part", "own", "other", "given"] "onward" (defScope (top 9)) (He.ga K "onward") cdv A outer s H E) 2 (x := "own") rfl (.inl rfl) (by decide) (by decide) pos
  have v3 := fun pos => kVar (z := zOf P w K mg base (XC K) (OC K) ["parts", "part", "own", "other", "given"] "onward" (defScope (top 9)) (He.ga K "onward") cdv A outer s H E) 3 (x := "other") rfl (.inl rfl) (by decide) (by decide) pos
  have w3 := fun pos => gNameOk c 3 (x := "other") rfl (.inl rfl) (.inr rfl) pos
  have v4 := fun pos => kVar (z := zOf P w K mg base (XC K) (OC K) ["parts", "part", "own", "other", "given"] "onward" (defScope (top 9)) (He.ga K "onward") cdv A outer s H E) 4 (x := "given") rfl (.inl rfl) (by decide) (by decide) pos
  have w4 := fun pos => gNameOk c 4 (x := "given") rfl (.inl rfl) (.inr rfl) pos
  have h_p_brought_from := H_p_brought_from (P := P) (w := w) (base := base) T
  have h_p_given_as := H_p_given_as (P := P) (w := w) (base := base) T
  have h_p_made_in := H_p_made_in (P := P) (w := w) (base := base) T
  exact (ssCons (sIfOk (B.tNotN (kCall wP c h_p_made_in (by decide) rfl (aCons (v0 _) (aCons (v1 _) (aCons (v2 _) aNil))))) (ssOne (sRetOk kNon)) ssNil) (ssCons (sAsgOk (kCall wP c h_p_brought_from (by decide) rfl (aCons (v0 _) (aCons (v1 _) (aCons (v2 _) aNil)))) (gTupOk c (gsCons (w3 _) (gsCons (w4 _) gsNil)))) (ssOne (sRetOk (kTup (aCons (v3 _) (aCons (kCall wP c h_p_given_as (by decide) rfl (aCons (v0 _) (aCons (v3 _) (aCons (v4 _) aNil)))) aNil)))))))
theorem sc_p_maker : FnScope ["parts", "part", "name"] ["parts", "part", "name"] (defScope (top 10)) := ⟨rfl, rfl, rfl, by decide +kernel, rfl, by decide +kernel, by decide +kernel⟩
theorem H_p_maker (T : Tx K mg) : FnB P w K mg base (XC K) (OC K) 4 "maker" ["parts", "part", "name"] p_maker := by
  obtain ⟨fd, F⟩ := T.d_maker
  refine fnF (k := 3) (N := ["parts", "part", "name"]) T.g_maker F (fun _ _ _ _ _ _ us hl => match us, hl with | [_, _, _], _ => rfl) sc_p_maker (by decide) fun cdv A outer s H E c => ?_
  have v0 := fun pos => kVar (z := zOf P w K mg base (XC K) (OC K) ["parts", "part", "name"] "maker" (defScope (top 10)) (He.ga K "maker") cdv A outer s H E) 0 (x := "parts") rfl (.inl rfl) (by decide) (by decide) pos
  have v1 := fun pos => kVar (z := zOf P w K mg base (XC K) (OC K) ["parts", "part", "name"] "maker" (defScope (top 10)) (He.ga K "maker") cdv A outer s H E) 1 (x := "part") rfl (.inl rfl) (by decide) (by decide) pos
  have w1 := fun pos => gNameOk c 1 (x := "part") rfl (.inl rfl) (.inr rfl) pos
  have v2 := fun pos => kVar (z := zOf P w K mg base (XC K) (OC K) ["parts", "part", "name"] "maker" (defScope (top 10)) (He.ga K "maker") cdv A outer s H E) 2 (x := "name") rfl (.inl rfl) (by decide) (by decide) pos
  have w2 := fun pos => gNameOk c 2 (x := "name") rfl (.inl rfl) (.inr rfl) pos
  have h_p_made_in := H_p_made_in (P := P) (w := w) (base := base) T
  have h_p_onward := H_p_onward (P := P) (w := w) (base := base) T
  exact (ssCons (sWhileOk c (B.tIsN (kCall wP c h_p_made_in (by decide) rfl (aCons (v0 _) (aCons (v1 _) (aCons (v2 _) aNil))))) (ssOne (sAsgOk (kCall wP c h_p_onward (by decide) rfl (aCons (v0 _) (aCons (v1 _) (aCons (v2 _) aNil)))) (gTupOk c (gsCons (w1 _) (gsCons (w2 _) gsNil)))))) (ssOne (sRetOk (kTup (aCons (v1 _) (aCons (kCall wP c h_p_made_in (by decide) rfl (aCons (v0 _) (aCons (v1 _) (aCons (v2 _) aNil)))) aNil))))))
theorem sc_m_PartsWalk_key_of : FnScope ["self", "part", "name"] ["self", "part", "name"] (defScope (mth 16 2)) := ⟨rfl, rfl, rfl, by decide +kernel, rfl, by decide +kernel, by decide +kernel⟩
theorem H_m_PartsWalk_key_of (T : Tx K mg) : FnM P w K mg base (XC K) (OC K) 5 (He.fAd K ("PartsWalk", some "key_of")) ["self", "part", "name"] m_PartsWalk_key_of := by
  obtain ⟨fd, F⟩ := T.d_PartsWalk__key_of
  refine fnMF (k := 4) (N := ["self", "part", "name"]) F (fun _ _ _ _ _ _ us hl => match us, hl with | [_, _, _], _ => rfl) sc_m_PartsWalk_key_of (by decide) fun cdv A outer s H E c => ?_
  have v0 := fun pos => kVar (z := zOf P w K mg base (XC K) (OC K) ["self", "part", "name"] "PartsWalk.key_of" (defScope (mth 16 2)) (He.fAd K ("PartsWalk", some "key_of")) cdv A outer s H E) 0 (x := "self") rfl (.inl rfl) (by decide) (by decide) pos
  have v1 := fun pos => kVar (z := zOf P w K mg base (XC K) (OC K) ["self", "part", "name"] "PartsWalk.key_of" (defScope (mth 16 2)) (He.fAd K ("PartsWalk", some "key_of")) cdv A outer s H E) 1 (x := "part") rfl (.inl rfl) (by decide) (by decide) pos
  have v2 := fun pos => kVar (z := zOf P w K mg base (XC K) (OC K) ["self", "part", "name"] "PartsWalk.key_of" (defScope (mth 16 2)) (He.fAd K ("PartsWalk", some "key_of")) cdv A outer s H E) 2 (x := "name") rfl (.inl rfl) (by decide) (by decide) pos
  have h_p_maker := H_p_maker (P := P) (w := w) (base := base) T
  exact (ssOne (sRetOk (kCall wP c h_p_maker (by decide) rfl (aCons (kFld [112, 97, 114, 116, 115] rfl T.cl_PartsWalk T.na_PartsWalk_parts (v0 _)) (aCons (v1 _) (aCons (v2 _) aNil))))))
theorem sc_l_whole : FnScope ["_law_found"] ["_law_found"] (defScope (top 19)) := ⟨rfl, rfl, rfl, by decide +kernel, rfl, by decide +kernel, by decide +kernel⟩
theorem H_l_whole (T : Tx K mg) : FnB P w K mg base (XC K) (OC K) 1 "_law_whole" ["_law_found"] l_whole := by
  obtain ⟨fd, F⟩ := T.d__law_whole
  refine fnF (k := 0) (N := ["_law_found"]) T.g__law_whole F (fun _ _ _ _ _ _ us hl => match us, hl with | [_], _ => rfl) sc_l_whole (by decide) fun cdv A outer s H E c => ?_
  have v0 := fun pos => kVar (z := zOf P w K mg base (XC K) (OC K) ["_law_found"] "_law_whole" (defScope (top 19)) (He.ga K "_law_whole") cdv A outer s H E) 0 (x := "_law_found") rfl (.inl rfl) (by decide) (by decide) pos
  exact (ssOne (sRetOk (kAnd (kIsI .int rfl rfl T.fr_isinstance rfl T.fr_int (v0 _)) (kOne (kNot (kIsI .bool rfl rfl T.fr_isinstance rfl T.fr_bool (v0 _)))))))
theorem sc_m_PartsWalk_loads_of : FnScope ["self", "part"] ["self", "part"] (defScope (mth 15 2)) := ⟨rfl, rfl, rfl, by decide +kernel, rfl, by decide +kernel, by decide +kernel⟩
theorem H_m_PartsWalk_loads_of (T : Tx K mg) : FnM P w K mg base (XC K) (OC K) 1 (He.fAd K ("PartsWalk", some "loads_of")) ["self", "part"] m_PartsWalk_loads_of := by
  obtain ⟨fd, F⟩ := T.d_PartsWalk__loads_of
  refine fnMF (k := 0) (N := ["self", "part"]) F (fun _ _ _ _ _ _ us hl => match us, hl with | [_, _], _ => rfl) sc_m_PartsWalk_loads_of (by decide) fun cdv A outer s H E c => ?_
  exact (ssOne (sRetOk (kTup aNil)))
theorem sc_m_PartsWalk_ahead_of : FnScope ["self", "root"] ["self", "root"] (defScope (mth 15 3)) := ⟨rfl, rfl, rfl, by decide +kernel, rfl, by decide +kernel, by decide +kernel⟩
theorem H_m_PartsWalk_ahead_of (T : Tx K mg) : FnM P w K mg base (XC K) (OC K) 1 (He.fAd K ("PartsWalk", some "ahead_of")) ["self", "root"] m_PartsWalk_ahead_of := by
  obtain ⟨fd, F⟩ := T.d_PartsWalk__ahead_of
  refine fnMF (k := 0) (N := ["self", "root"]) F (fun _ _ _ _ _ _ us hl => match us, hl with | [_, _], _ => rfl) sc_m_PartsWalk_ahead_of (by decide) fun cdv A outer s H E c => ?_
  exact (ssOne (sRetOk (kTup aNil)))
theorem sc_l_told : FnScope ["_law_walk", "_law_parts_here", "_law_name_here", "_law_rows", "_law_found", "_law_due_here", "_law_spot", "_law_at", "_law_brought", "_law_part", "_law_k"] ["_law_walk", "_law_parts_here"] (defScope (top 25)) := ⟨rfl, rfl, rfl, by decide +kernel, rfl, by decide +kernel, by decide +kernel⟩
theorem H_l_told (T : Tx K mg) : FnB P w K mg base (XC K) (OC K) 6 "_law_told" ["_law_walk", "_law_parts_here"] l_told := by
  obtain ⟨fd, F⟩ := T.d__law_told
  refine fnF (k := 5) (N := ["_law_walk", "_law_parts_here", "_law_name_here", "_law_rows", "_law_found", "_law_due_here", "_law_spot", "_law_at", "_law_brought", "_law_part", "_law_k"]) T.g__law_told F (fun _ _ _ _ _ _ us hl => match us, hl with | [_, _], _ => rfl) sc_l_told (by decide) fun cdv A outer s H E c => ?_
  have v0 := fun pos => kVar (z := zOf P w K mg base (XC K) (OC K) ["_law_walk", "_law_parts_here", "_law_name_here", "_law_rows", "_law_found", "_law_due_here", "_law_spot", "_law_at", "_law_brought", "_law_part", "_law_k"] "_law_told" (defScope (top 25)) (He.ga K "_law_told") cdv A outer s H E) 0 (x := "_law_walk") rfl (.inl rfl) (by decide) (by decide) pos
  have v1 := fun pos => kVar (z := zOf P w K mg base (XC K) (OC K) ["_law_walk", "_law_parts_here", "_law_name_here", "_law_rows", "_law_found", "_law_due_here", "_law_spot", "_law_at", "_law_brought", "_law_part", "_law_k"] "_law_told" (defScope (top 25)) (He.ga K "_law_told") cdv A outer s H E) 1 (x := "_law_parts_here") rfl (.inr (.inl rfl)) (by decide) (by decide) pos
  have v2 := fun pos => kVar (z := zOf P w K mg base (XC K) (OC K) ["_law_walk", "_law_parts_here", "_law_name_here", "_law_rows", "_law_found", "_law_due_here", "_law_spot", "_law_at", "_law_brought", "_law_part", "_law_k"] "_law_told" (defScope (top 25)) (He.ga K "_law_told") cdv A outer s H E) 2 (x := "_law_name_here") rfl (.inr (.inl rfl)) (by decide) (by decide) pos
  have w2 := fun pos => gNameOk c 2 (x := "_law_name_here") rfl (.inr rfl) (.inl rfl) pos
  have v3 := fun pos => kVar (z := zOf P w K mg base (XC K) (OC K) ["_law_walk", "_law_parts_here", "_law_name_here", "_law_rows", "_law_found", "_law_due_here", "_law_spot", "_law_at", "_law_brought", "_law_part", "_law_k"] "_law_told" (defScope (top 25)) (He.ga K "_law_told") cdv A outer s H E) 3 (x := "_law_rows") rfl (.inr (.inl rfl)) (by decide) (by decide) pos
  have w3 := fun pos => gNameOk c 3 (x := "_law_rows") rfl (.inr rfl) (.inl rfl) pos
  have v4 := fun pos => kVar (z := zOf P w K mg base (XC K) (OC K) ["_law_walk", "_law_parts_here", "_law_name_here", "_law_rows", "_law_found", "_law_due_here", "_law_spot", "_law_at", "_law_brought", "_law_part", "_law_k"] "_law_told" (defScope (top 25)) (He.ga K "_law_told") cdv A outer s H E) 4 (x := "_law_found") rfl (.inl rfl) (by decide) (by decide) pos
  have v5 := fun pos => kVar (z := zOf P w K mg base (XC K) (OC K) ["_law_walk", "_law_parts_here", "_law_name_here", "_law_rows", "_law_found", "_law_due_here", "_law_spot", "_law_at", "_law_brought", "_law_part", "_law_k"] "_law_told" (defScope (top 25)) (He.ga K "_law_told") cdv A outer s H E) 5 (x := "_law_due_here") rfl (.inl rfl) (by decide) (by decide) pos
  have v6 := fun pos => kVar (z := zOf P w K mg base (XC K) (OC K) ["_law_walk", "_law_parts_here", "_law_name_here", "_law_rows", "_law_found", "_law_due_here", "_law_spot", "_law_at", "_law_brought", "_law_part", "_law_k"] "_law_told" (defScope (top 25)) (He.ga K "_law_told") cdv A outer s H E) 6 (x := "_law_spot") rfl (.inl rfl) (by decide) (by decide) pos
  have w6 := fun pos => gNameOk c 6 (x := "_law_spot") rfl (.inl rfl) (.inr rfl) pos
  have v7 := fun pos => kVar (z := zOf P w K mg base (XC K) (OC K) ["_law_walk", "_law_parts_here", "_law_name_here", "_law_rows", "_law_found", "_law_due_here", "_law_spot", "_law_at", "_law_brought", "_law_part", "_law_k"] "_law_told" (defScope (top 25)) (He.ga K "_law_told") cdv A outer s H E) 7 (x := "_law_at") rfl (.inl rfl) (by decide) (by decide) pos
  have v8 := fun pos => kVar (z := zOf P w K mg base (XC K) (OC K) ["_law_walk", "_law_parts_here", "_law_name_here", "_law_rows", "_law_found", "_law_due_here", "_law_spot", "_law_at", "_law_brought", "_law_part", "_law_k"] "_law_told" (defScope (top 25)) (He.ga K "_law_told") cdv A outer s H E) 8 (x := "_law_brought") rfl (.inl rfl) (by decide) (by decide) pos
  have v9 := fun pos => kVar (z := zOf P w K mg base (XC K) (OC K) ["_law_walk", "_law_parts_here", "_law_name_here", "_law_rows", "_law_found", "_law_due_here", "_law_spot", "_law_at", "_law_brought", "_law_part", "_law_k"] "_law_told" (defScope (top 25)) (He.ga K "_law_told") cdv A outer s H E) 9 (x := "_law_part") rfl (.inl rfl) (by decide) (by decide) pos
  have w9 := fun pos => gNameOk c 9 (x := "_law_part") rfl (.inl rfl) (.inr rfl) pos
  have h_m_PartsWalk_ahead_of := H_m_PartsWalk_ahead_of (P := P) (w := w) (base := base) T
  have h_m_PartsWalk_key_of := H_m_PartsWalk_key_of (P := P) (w := w) (base := base) T
  have h_m_PartsWalk_loads_of := H_m_PartsWalk_loads_of (P := P) (w := w) (base := base) T
  have h_m_PartsWalk_rows_of := H_m_PartsWalk_rows_of (P := P) (w := w) (base := base) T
  have h_l_whole := H_l_whole (P := P) (w := w) (base := base) T
  exact (ssCons (sForOk c (iSeqOk (v1 _)) (gTupOk c (gsCons (w2 _) (gsCons (w3 _) gsNil))) (ssKill [2, 3, 4, 5, 6] (ssCons (sSetOk c 4 (kMeth c [114, 111, 119, 115, 95, 111, 102] rfl T.cl_PartsWalk T.me_PartsWalk_rows_of h_m_PartsWalk_rows_of (by decide) (v0 _) (aCons (v2 _) aNil)) rfl (.inl rfl) (.inr rfl)) (ssCons (sComp (own := [("_law_k", 10)]) 5 c (iR1Ok rfl T.fr_range (kLen rfl T.fr_len (v3 _))) { blk := blkOk_by (N := ["_law_walk", "_law_parts_here", "_law_name_here", "_law_rows", "_law_found", "_law_due_here", "_law_spot", "_law_at", "_law_brought", "_law_part", "_law_k"]) (sc := defScope (top 25)) (by decide +kernel), g := ⟨_, gw_name (by decide), fun _ _ _ _ _ => pg_name c.nd rfl (.inl rfl) (.inr rfl)⟩, t := ⟨_, st_yes, fun _ _ _ _ _ => pts_nil⟩, e := fun _ _ _ _ _ => (kTup (aCons (kVar 2 rfl (.inr (.inl rfl)) (by decide) (by decide) _) (aCons (kVar 10 rfl (.inl rfl) (by decide) (by decide) _) (aCons (kIx (c.blk _ _ _ _ _) (kVar 3 rfl (.inr (.inl rfl)) (by decide) (by decide) _) (kVar 10 rfl (.inl rfl) (by decide) (by decide) _)) aNil)))) } rfl rfl (sw_true rfl rfl rfl (by decide +kernel))) (ssCons (sIfOk (tW (wOr (tNotT (tVal (kIsI .tuple rfl rfl T.fr_isinstance rfl T.fr_tuple (v4 _)))) (wOr1 (B.tNe c (kList rfl T.fr_list (v4 _)) (v5 _))))) (ssOne (sRetOk kBl)) ssNil) (ssCons (sForOk c (iSeqOk (v4 _)) (w6 _) (ssKill [6] (ssOne (sIfOk (tNotT (tVal (kCall wP c h_l_whole (by decide) rfl (aCons (kIx c (v6 _) kInt) aNil)))) (ssOne (sRetOk kBl)) ssNil)))) (ssOne (sIfOk (tW (wOr (B.tNe c (kMeth c [108, 111, 97, 100, 115, 95, 111, 102] rfl T.cl_PartsWalk T.me_PartsWalk_loads_of h_m_PartsWalk_loads_of (by decide) (v0 _) (aCons (v2 _) aNil)) (kTup aNil)) (wOr1 (B.tNe c (kMeth c [97, 104, 101, 97, 100, 95, 111, 102] rfl T.cl_PartsWalk T.me_PartsWalk_ahead_of h_m_PartsWalk_ahead_of (by decide) (v0 _) (aCons (v2 _) aNil)) (kTup aNil))))) (ssOne (sRetOk kBl)) ssNil)))))))) (ssCons (sSetOk c 7 (kIx c (kComp (own := [("_law_k", 10)]) c (iR1Ok rfl T.fr_range kInt) { blk := blkOk_by (N := ["_law_walk", "_law_parts_here", "_law_name_here", "_law_rows", "_law_found", "_law_due_here", "_law_spot", "_law_at", "_law_brought", "_law_part", "_law_k"]) (sc := defScope (top 25)) (by decide +kernel), g := ⟨_, gw_name (by decide), fun _ _ _ _ _ => pg_name c.nd rfl (.inl rfl) (.inr rfl)⟩, t := tOne fun _ _ _ _ _ => (B.tEq (c.blk _ _ _ _ _) (kIx (c.blk _ _ _ _ _) (kIx (c.blk _ _ _ _ _) (kIx (c.blk _ _ _ _ _) (kIx (c.blk _ _ _ _ _) (kVar 1 rfl (.inr (.inl rfl)) (by decide) (by decide) _) kInt) kInt) (kVar 10 rfl (.inl rfl) (by decide) (by decide) _)) kInt) (kStr [116, 97, 107, 101])), e := fun _ _ _ _ _ => (kVar 10 rfl (.inl rfl) (by decide) (by decide) _) }) kInt) rfl (.inl rfl) (.inr rfl)) (ssCons (sSetOk c 8 (kIx c (kIx c (kIx c (kIx c (kIx c (kIx c (v1 _) kInt) kInt) kInt) kInt) kInt) kInt) rfl (.inl rfl) (.inr rfl)) (ssCons (sForOk c (iSeqOk (kLst (aCons (kTup (aCons (kIx c (kIx c (v1 _) kInt) kInt) (aCons (v8 _) aNil))) (aCons (kTup (aCons (kIx c (kIx c (v1 _) kInt) kInt) (aCons (kIx c (kIx c (kIx c (kIx c (v1 _) kInt) kInt) (v7 _)) kInt) aNil))) aNil)))) (gTupOk c (gsCons (w9 _) (gsCons (w2 _) gsNil))) (ssKill [9, 2, 4] (ssCons (sSetOk c 4 (kMeth c [107, 101, 121, 95, 111, 102] rfl T.cl_PartsWalk T.me_PartsWalk_key_of h_m_PartsWalk_key_of (by decide) (v0 _) (aCons (v9 _) (aCons (v2 _) aNil))) rfl (.inl rfl) (.inr rfl)) (ssOne (sIfOk (tW (wOr (tNotT (tVal (kIsI .tuple rfl rfl T.fr_isinstance rfl T.fr_tuple (v4 _)))) (wOr (B.tNe c (v4 _) (kTup (aCons (kIx c (kIx c (v1 _) kInt) kInt) (aCons (v7 _) aNil)))) (wOr1 (tNotT (tVal (kCall wP c h_l_whole (by decide) rfl (aCons (kIx c (v4 _) kInt) aNil)))))))) (ssOne (sRetOk kBl)) ssNil))))) (ssOne (sRetOk (kIsO (.own _) T.cl_PartsWalk T.ow_PartsWalk T.ki_PartsWalk_Walk rfl T.fr_isinstance (v0 _) (pe_glob (x := "Walk") rfl T.g_Walk rfl))))))))
theorem sc_m_Walk_rows_of : FnScope ["self", "part"] ["self", "part"] (defScope (mth 15 0)) := ⟨rfl, rfl, rfl, by decide +kernel, rfl, by decide +kernel, by decide +kernel⟩
theorem H_m_Walk_rows_of (T : Tx K mg) : FnM P w K mg base (XC K) (OC K) 1 (He.fAd K ("Walk", some "rows_of")) ["self", "part"] m_Walk_rows_of := by
  obtain ⟨fd, F⟩ := T.d_Walk__rows_of
  refine fnMF (k := 0) (N := ["self", "part"]) F (fun _ _ _ _ _ _ us hl => match us, hl with | [_, _], _ => rfl) sc_m_Walk_rows_of (by decide) fun cdv A outer s H E c => ?_
  exact (ssOne (sRetOk (kTup aNil)))
theorem sc_m_Walk_key_of : FnScope ["self", "part", "name"] ["self", "part", "name"] (defScope (mth 15 1)) := ⟨rfl, rfl, rfl, by decide +kernel, rfl, by decide +kernel, by decide +kernel⟩
theorem H_m_Walk_key_of (T : Tx K mg) : FnM P w K mg base (XC K) (OC K) 1 (He.fAd K ("Walk", some "key_of")) ["self", "part", "name"] m_Walk_key_of := by
  obtain ⟨fd, F⟩ := T.d_Walk__key_of
  refine fnMF (k := 0) (N := ["self", "part", "name"]) F (fun _ _ _ _ _ _ us hl => match us, hl with | [_, _, _], _ => rfl) sc_m_Walk_key_of (by decide) fun cdv A outer s H E c => ?_
  have v2 := fun pos => kVar (z := zOf P w K mg base (XC K) (OC K) ["self", "part", "name"] "Walk.key_of" (defScope (mth 15 1)) (He.fAd K ("Walk", some "key_of")) cdv A outer s H E) 2 (x := "name") rfl (.inl rfl) (by decide) (by decide) pos
  exact (ssOne (sRetOk (v2 _)))
theorem sc_m_Walk_loads_of : FnScope ["self", "part"] ["self", "part"] (defScope (mth 15 2)) := ⟨rfl, rfl, rfl, by decide +kernel, rfl, by decide +kernel, by decide +kernel⟩
theorem H_m_Walk_loads_of (T : Tx K mg) : FnM P w K mg base (XC K) (OC K) 1 (He.fAd K ("Walk", some "loads_of")) ["self", "part"] m_Walk_loads_of := by
  obtain ⟨fd, F⟩ := T.d_Walk__loads_of
  refine fnMF (k := 0) (N := ["self", "part"]) F (fun _ _ _ _ _ _ us hl => match us, hl with | [_, _], _ => rfl) sc_m_Walk_loads_of (by decide) fun cdv A outer s H E c => ?_
  exact (ssOne (sRetOk (kTup aNil)))
theorem sc_m_Walk_ahead_of : FnScope ["self", "root"] ["self", "root"] (defScope (mth 15 3)) := ⟨rfl, rfl, rfl, by decide +kernel, rfl, by decide +kernel, by decide +kernel⟩
theorem H_m_Walk_ahead_of (T : Tx K mg) : FnM P w K mg base (XC K) (OC K) 1 (He.fAd K ("Walk", some "ahead_of")) ["self", "root"] m_Walk_ahead_of := by
  obtain ⟨fd, F⟩ := T.d_Walk__ahead_of
  refine fnMF (k := 0) (N := ["self", "root"]) F (fun _ _ _ _ _ _ us hl => match us, hl with | [_, _], _ => rfl) sc_m_Walk_ahead_of (by decide) fun cdv A outer s H E c => ?_
  exact (ssOne (sRetOk (kTup aNil)))
theorem sc_m_Trail___init__ : FnScope ["self", "numbers"] ["self", "numbers"] (defScope (mth 12 0)) := ⟨rfl, rfl, rfl, by decide +kernel, rfl, by decide +kernel, by decide +kernel⟩
theorem H_m_Trail___init__K (T : Tx K mg) : FnM P w K mg base (XC K) (OC K) 1 (He.fAd K ("Trail", some "__init__")) ["self", "numbers"] m_Trail___init__K := by
  obtain ⟨fd, F⟩ := T.d_Trail____init__
  refine fnMK (k := 0) (N := ["self", "numbers"]) F (fun _ _ _ _ _ _ us hl => match us, hl with | [_, _], _ => rfl) sc_m_Trail___init__ (by decide) fun cdv A outer s H E c => ?_
  have v0 := fun pos => kVar (z := zOf P w K mg base (XC K) (OC K) ["self", "numbers"] "Trail.__init__" (defScope (mth 12 0)) (He.fAd K ("Trail", some "__init__")) cdv A outer s H E) 0 (x := "self") rfl (.inl rfl) (by decide) (by decide) pos
  have v1 := fun pos => kVar (z := zOf P w K mg base (XC K) (OC K) ["self", "numbers"] "Trail.__init__" (defScope (mth 12 0)) (He.fAd K ("Trail", some "__init__")) cdv A outer s H E) 1 (x := "numbers") rfl (.inl rfl) (by decide) (by decide) pos
  exact (ssCons (sFldOk [110, 117, 109, 98, 101, 114, 115] rfl T.cl_Trail T.na_Trail_numbers (v0 _) (v1 _)) (ssCons (sFldOk [116, 97, 107, 101, 110] rfl T.cl_Trail T.na_Trail_taken (v0 _) kInt) (ssCons (sFldOk [107, 110, 111, 119, 110] rfl T.cl_Trail T.na_Trail_known (v0 _) kDctT) (ssCons (sFldOk [98, 101, 103, 117, 110] rfl T.cl_Trail T.na_Trail_begun (v0 _) kDctK) (ssCons (sFldOk [108, 111, 97, 100, 101, 100] rfl T.cl_Trail T.na_Trail_loaded (v0 _) kDctK) (ssCons (sFldOk [116, 114, 97, 99, 101] rfl T.cl_Trail T.na_Trail_trace (v0 _) (kLstC aNil)) (ssOne (sFldOk [102, 97, 117, 108, 116] rfl T.cl_Trail T.na_Trail_fault (v0 _) kNon))))))))
theorem sc_m_Trail_load : FnScope ["self", "packs", "pack"] ["self", "packs"] (defScope (mth 12 2)) := ⟨rfl, rfl, rfl, by decide +kernel, rfl, by decide +kernel, by decide +kernel⟩
theorem H_m_Trail_load (T : Tx K mg) : FnM P w K mg base (XC K) (OC K) 1 (He.fAd K ("Trail", some "load")) ["self", "packs"] m_Trail_load := by
  obtain ⟨fd, F⟩ := T.d_Trail__load
  refine fnMF (k := 0) (N := ["self", "packs", "pack"]) F (fun _ _ _ _ _ _ us hl => match us, hl with | [_, _], _ => rfl) sc_m_Trail_load (by decide) fun cdv A outer s H E c => ?_
  have v0 := fun pos => kVar (z := zOf P w K mg base (XC K) (OC K) ["self", "packs", "pack"] "Trail.load" (defScope (mth 12 2)) (He.fAd K ("Trail", some "load")) cdv A outer s H E) 0 (x := "self") rfl (.inl rfl) (by decide) (by decide) pos
  have v1 := fun pos => kVar (z := zOf P w K mg base (XC K) (OC K) ["self", "packs", "pack"] "Trail.load" (defScope (mth 12 2)) (He.fAd K ("Trail", some "load")) cdv A outer s H E) 1 (x := "packs") rfl (.inl rfl) (by decide) (by decide) pos
  have v2 := fun pos => kVar (z := zOf P w K mg base (XC K) (OC K) ["self", "packs", "pack"] "Trail.load" (defScope (mth 12 2)) (He.fAd K ("Trail", some "load")) cdv A outer s H E) 2 (x := "pack") rfl (.inl rfl) (by decide) (by decide) pos
  have w2 := fun pos => gNameOk c 2 (x := "pack") rfl (.inl rfl) (.inr rfl) pos
  exact (ssOne (sForOk c (iSeqOk (v1 _)) (w2 _) (ssKill [2] (ssOne (sIfOk (B.tNin c (v2 _) (kFld [108, 111, 97, 100, 101, 100] rfl T.cl_Trail T.na_Trail_loaded (v0 _))) (ssCons (sAsgOk kBl (gSubOk c (kFld [108, 111, 97, 100, 101, 100] rfl T.cl_Trail T.na_Trail_loaded (v0 _)) (v2 _))) (ssOne (sXOk (kAppend (kFld [116, 114, 97, 99, 101] rfl T.cl_Trail T.na_Trail_trace (v0 _)) (kTup (aCons (kStr [108, 111, 97, 100]) (aCons (v2 _) aNil))))))) ssNil)))))
theorem sc_p_when_of : FnScope ["row"] ["row"] (defScope (top 14)) := ⟨rfl, rfl, rfl, by decide +kernel, rfl, by decide +kernel, by decide +kernel⟩
theorem H_p_when_of (T : Tx K mg) : FnB P w K mg base (XC K) (OC K) 1 "when_of" ["row"] p_when_of := by
  obtain ⟨fd, F⟩ := T.d_when_of
  refine fnF (k := 0) (N := ["row"]) T.g_when_of F (fun _ _ _ _ _ _ us hl => match us, hl with | [_], _ => rfl) sc_p_when_of (by decide) fun cdv A outer s H E c => ?_
  have v0 := fun pos => kVar (z := zOf P w K mg base (XC K) (OC K) ["row"] "when_of" (defScope (top 14)) (He.ga K "when_of") cdv A outer s H E) 0 (x := "row") rfl (.inl rfl) (by decide) (by decide) pos
  exact (ssCons (sIfOk (tW (wOr (B.tEq c (kIx c (v0 _) kInt) (kStr [115, 97, 121])) (wOr1 (B.tEq c (kIx c (v0 _) kInt) (kStr [97, 115, 107]))))) (ssOne (sRetOk (kIx c (v0 _) kInt))) ssNil) (ssOne (sRetOk kNon)))
theorem sc_p_sum_names : FnScope ["terms", "at", "found", "sign", "thing"] ["terms", "at"] (defScope (top 1)) := ⟨rfl, rfl, rfl, by decide +kernel, rfl, by decide +kernel, by decide +kernel⟩
theorem H_p_sum_names (T : Tx K mg) : FnB P w K mg base (XC K) (OC K) 1 "sum_names" ["terms", "at"] p_sum_names := by
  obtain ⟨fd, F⟩ := T.d_sum_names
  refine fnF (k := 0) (N := ["terms", "at", "found", "sign", "thing"]) T.g_sum_names F (fun _ _ _ _ _ _ us hl => match us, hl with | [_, _], _ => rfl) sc_p_sum_names (by decide) fun cdv A outer s H E c => ?_
  have v0 := fun pos => kVar (z := zOf P w K mg base (XC K) (OC K) ["terms", "at", "found", "sign", "thing"] "sum_names" (defScope (top 1)) (He.ga K "sum_names") cdv A outer s H E) 0 (x := "terms") rfl (.inl rfl) (by decide) (by decide) pos
  have v1 := fun pos => kVar (z := zOf P w K mg base (XC K) (OC K) ["terms", "at", "found", "sign", "thing"] "sum_names" (defScope (top 1)) (He.ga K "sum_names") cdv A outer s H E) 1 (x := "at") rfl (.inl rfl) (by decide) (by decide) pos
  have v2 := fun pos => kVar (z := zOf P w K mg base (XC K) (OC K) ["terms", "at", "found", "sign", "thing"] "sum_names" (defScope (top 1)) (He.ga K "sum_names") cdv A outer s H E) 2 (x := "found") rfl (.inl rfl) (by decide) (by decide) pos
  have w3 := fun pos => gNameOk c 3 (x := "sign") rfl (.inl rfl) (.inr rfl) pos
  have v4 := fun pos => kVar (z := zOf P w K mg base (XC K) (OC K) ["terms", "at", "found", "sign", "thing"] "sum_names" (defScope (top 1)) (He.ga K "sum_names") cdv A outer s H E) 4 (x := "thing") rfl (.inl rfl) (by decide) (by decide) pos
  have w4 := fun pos => gNameOk c 4 (x := "thing") rfl (.inl rfl) (.inr rfl) pos
  exact (ssCons (sSetOk c 2 (kLstC aNil) rfl (.inl rfl) (.inr rfl)) (ssCons (sForOk c (iSeqOk (v0 _)) (gTupOk c (gsCons (w3 _) (gsCons (w4 _) gsNil))) (ssKill [3, 4] (ssCons (sIfOk (tVal (kIsI .str rfl rfl T.fr_isinstance rfl T.fr_str (v4 _))) (ssOne (sXOk (kAppend (v2 _) (kTup (aCons (v1 _) (aCons (v4 _) aNil)))))) ssNil) (ssOne (sSetOk c 1 (kAdd (v1 _) kInt) rfl (.inl rfl) (.inr rfl)))))) (ssOne (sRetOk (v2 _)))))
theorem sc_p_read_names : FnScope ["row", "found"] ["row"] (defScope (top 2)) := ⟨rfl, rfl, rfl, by decide +kernel, rfl, by decide +kernel, by decide +kernel⟩
theorem H_p_read_names (T : Tx K mg) : FnB P w K mg base (XC K) (OC K) 2 "read_names" ["row"] p_read_names := by
  obtain ⟨fd, F⟩ := T.d_read_names
  refine fnF (k := 1) (N := ["row", "found"]) T.g_read_names F (fun _ _ _ _ _ _ us hl => match us, hl with | [_], _ => rfl) sc_p_read_names (by decide) fun cdv A outer s H E c => ?_
  have v0 := fun pos => kVar (z := zOf P w K mg base (XC K) (OC K) ["row", "found"] "read_names" (defScope (top 2)) (He.ga K "read_names") cdv A outer s H E) 0 (x := "row") rfl (.inl rfl) (by decide) (by decide) pos
  have v1 := fun pos => kVar (z := zOf P w K mg base (XC K) (OC K) ["row", "found"] "read_names" (defScope (top 2)) (He.ga K "read_names") cdv A outer s H E) 1 (x := "found") rfl (.inl rfl) (by decide) (by decide) pos
  have h_p_sum_names := H_p_sum_names (P := P) (w := w) (base := base) T
  exact (ssCons (sIfOk (B.tEq c (kIx c (v0 _) kInt) (kStr [115, 101, 116])) (ssOne (sRetOk (kTuple rfl T.fr_tuple (kCall wP c h_p_sum_names (by decide) rfl (aCons (kIx c (v0 _) kInt) (aCons kInt aNil)))))) ssNil) (ssCons (sIfOk (B.tEq c (kIx c (v0 _) kInt) (kStr [110, 101, 101, 100])) (ssOne (sRetOk (kTuple rfl T.fr_tuple (kCall wP c h_p_sum_names (by decide) rfl (aCons (kIx c (v0 _) kInt) (aCons kInt aNil)))))) ssNil) (ssCons (sIfOk (B.tEq c (kIx c (v0 _) kInt) (kStr [115, 97, 121])) (ssCons (sSetOk c 1 (kCall wP c h_p_sum_names (by decide) rfl (aCons (kIx c (v0 _) kInt) (aCons kInt aNil))) rfl (.inl rfl) (.inr rfl)) (ssCons (sIfOk (B.tNotN (kIx c (v0 _) kInt)) (ssOne (sSetOk c 1 (kAdd (kLst (aCons (kTup (aCons (kAdd (kMul kInt (kLen rfl T.fr_len (kIx c (v0 _) kInt))) kInt) (aCons (kIx c (v0 _) kInt) aNil))) aNil)) (v1 _)) rfl (.inl rfl) (.inr rfl))) ssNil) (ssOne (sRetOk (kTuple rfl T.fr_tuple (v1 _)))))) ssNil) (ssCons (sIfOk (tW (wAnd (B.tEq c (kIx c (v0 _) kInt) (kStr [97, 115, 107])) (wAnd1 (B.tNotN (kIx c (v0 _) kInt))))) (ssOne (sRetOk (kTup (aCons (kTup (aCons kInt (aCons (kIx c (v0 _) kInt) aNil))) aNil)))) ssNil) (ssOne (sRetOk (kTup aNil)))))))
theorem sc_m_Walk_found_by : FnScope ["self", "trail", "part", "spot", "row", "there", "when", "word", "name", "key"] ["self", "trail", "part", "spot", "row"] (defScope (mth 15 6)) := ⟨rfl, rfl, rfl, by decide +kernel, rfl, by decide +kernel, by decide +kernel⟩
theorem H_m_Walk_found_by (T : Tx K mg) : FnM P w K mg base (XC K) (OC K) 3 (He.fAd K ("Walk", some "found_by")) ["self", "trail", "part", "spot", "row"] m_Walk_found_by := by
  obtain ⟨fd, F⟩ := T.d_Walk__found_by
  refine fnMF (k := 2) (N := ["self", "trail", "part", "spot", "row", "there", "when", "word", "name", "key"]) F (fun _ _ _ _ _ _ us hl => match us, hl with | [_, _, _, _, _], _ => rfl) sc_m_Walk_found_by (by decide) fun cdv A outer s H E c => ?_
  have v0 := fun pos => kVar (z := zOf P w K mg base (XC K) (OC K) ["self", "trail", "part", "spot", "row", "there", "when", "word", "name", "key"] "Walk.found_by" (defScope (mth 15 6)) (He.fAd K ("Walk", some "found_by")) cdv A outer s H E) 0 (x := "self") rfl (.inl rfl) (by decide) (by decide) pos
  have v1 := fun pos => kVar (z := zOf P w K mg base (XC K) (OC K) ["self", "trail", "part", "spot", "row", "there", "when", "word", "name", "key"] "Walk.found_by" (defScope (mth 15 6)) (He.fAd K ("Walk", some "found_by")) cdv A outer s H E) 1 (x := "trail") rfl (.inl rfl) (by decide) (by decide) pos
  have v2 := fun pos => kVar (z := zOf P w K mg base (XC K) (OC K) ["self", "trail", "part", "spot", "row", "there", "when", "word", "name", "key"] "Walk.found_by" (defScope (mth 15 6)) (He.fAd K ("Walk", some "found_by")) cdv A outer s H E) 2 (x := "part") rfl (.inl rfl) (by decide) (by decide) pos
  have v3 := fun pos => kVar (z := zOf P w K mg base (XC K) (OC K) ["self", "trail", "part", "spot", "row", "there", "when", "word", "name", "key"] "Walk.found_by" (defScope (mth 15 6)) (He.fAd K ("Walk", some "found_by")) cdv A outer s H E) 3 (x := "spot") rfl (.inl rfl) (by decide) (by decide) pos
  have v4 := fun pos => kVar (z := zOf P w K mg base (XC K) (OC K) ["self", "trail", "part", "spot", "row", "there", "when", "word", "name", "key"] "Walk.found_by" (defScope (mth 15 6)) (He.fAd K ("Walk", some "found_by")) cdv A outer s H E) 4 (x := "row") rfl (.inl rfl) (by decide) (by decide) pos
  have v5 := fun pos => kVar (z := zOf P w K mg base (XC K) (OC K) ["self", "trail", "part", "spot", "row", "there", "when", "word", "name", "key"] "Walk.found_by" (defScope (mth 15 6)) (He.fAd K ("Walk", some "found_by")) cdv A outer s H E) 5 (x := "there") rfl (.inl rfl) (by decide) (by decide) pos
  have v6 := fun pos => kVar (z := zOf P w K mg base (XC K) (OC K) ["self", "trail", "part", "spot", "row", "there", "when", "word", "name", "key"] "Walk.found_by" (defScope (mth 15 6)) (He.fAd K ("Walk", some "found_by")) cdv A outer s H E) 6 (x := "when") rfl (.inl rfl) (by decide) (by decide) pos
  have v7 := fun pos => kVar (z := zOf P w K mg base (XC K) (OC K) ["self", "trail", "part", "spot", "row", "there", "when", "word", "name", "key"] "Walk.found_by" (defScope (mth 15 6)) (He.fAd K ("Walk", some "found_by")) cdv A outer s H E) 7 (x := "word") rfl (.inl rfl) (by decide) (by decide) pos
  have w7 := fun pos => gNameOk c 7 (x := "word") rfl (.inl rfl) (.inr rfl) pos
  have v8 := fun pos => kVar (z := zOf P w K mg base (XC K) (OC K) ["self", "trail", "part", "spot", "row", "there", "when", "word", "name", "key"] "Walk.found_by" (defScope (mth 15 6)) (He.fAd K ("Walk", some "found_by")) cdv A outer s H E) 8 (x := "name") rfl (.inl rfl) (by decide) (by decide) pos
  have w8 := fun pos => gNameOk c 8 (x := "name") rfl (.inl rfl) (.inr rfl) pos
  have v9 := fun pos => kVar (z := zOf P w K mg base (XC K) (OC K) ["self", "trail", "part", "spot", "row", "there", "when", "word", "name", "key"] "Walk.found_by" (defScope (mth 15 6)) (He.fAd K ("Walk", some "found_by")) cdv A outer s H E) 9 (x := "key") rfl (.inl rfl) (by decide) (by decide) pos
  have h_m_Walk_key_of := H_m_Walk_key_of (P := P) (w := w) (base := base) T
  have h_p_read_names := H_p_read_names (P := P) (w := w) (base := base) T
  have h_p_when_of := H_p_when_of (P := P) (w := w) (base := base) T
  exact (ssCons (sSetOk c 5 kDctK rfl (.inl rfl) (.inr rfl)) (ssCons (sSetOk c 6 (kCall wP c h_p_when_of (by decide) rfl (aCons (v4 _) aNil)) rfl (.inl rfl) (.inr rfl)) (ssCons (sForOk c (iSeqOk (kCall wP c h_p_read_names (by decide) rfl (aCons (v4 _) aNil))) (gTupOk c (gsCons (w7 _) (gsCons (w8 _) gsNil))) (ssKill [7, 8, 9] (ssCons (sSetOk c 9 (kMeth c [107, 101, 121, 95, 111, 102] rfl T.cl_Walk T.me_Walk_key_of h_m_Walk_key_of (by decide) (v0 _) (aCons (v2 _) (aCons (v8 _) aNil))) rfl (.inl rfl) (.inr rfl)) (ssCons (sIfOk (B.tNin c (v9 _) (kFld [107, 110, 111, 119, 110] rfl T.cl_Trail T.na_Trail_known (v1 _))) (ssCons (sFldOk [102, 97, 117, 108, 116] rfl T.cl_Trail T.na_Trail_fault (v1 _) (kTup (aCons (kStr [101, 97, 114, 108, 121]) (aCons (kIx c (v3 _) kInt) (aCons (kIx c (v3 _) kInt) (aCons (v7 _) aNil)))))) (ssOne (sRetOk kNon))) ssNil) (ssCons (sAsgOk (kIx c (kFld [107, 110, 111, 119, 110] rfl T.cl_Trail T.na_Trail_known (v1 _)) (v9 _)) (gSubOk c (v5 _) (v8 _))) (ssOne (sIfOk (tW (wAnd (B.tEq c (v8 _) (v6 _)) (wAnd1 (B.tLe (kIx c (v5 _) (v8 _)) kInt)))) (ssOne (sRetOk kNon)) ssNil))))))) (ssOne (sRetOk (v5 _))))))
theorem sc_p_value_of : FnScope ["terms", "there", "found", "sign", "thing"] ["terms", "there"] (defScope (top 13)) := ⟨rfl, rfl, rfl, by decide +kernel, rfl, by decide +kernel, by decide +kernel⟩
theorem H_p_value_of (T : Tx K mg) : FnB P w K mg base (XC K) (OC K) 1 "value_of" ["terms", "there"] p_value_of := by
  obtain ⟨fd, F⟩ := T.d_value_of
  refine fnF (k := 0) (N := ["terms", "there", "found", "sign", "thing"]) T.g_value_of F (fun _ _ _ _ _ _ us hl => match us, hl with | [_, _], _ => rfl) sc_p_value_of (by decide) fun cdv A outer s H E c => ?_
  have v0 := fun pos => kVar (z := zOf P w K mg base (XC K) (OC K) ["terms", "there", "found", "sign", "thing"] "value_of" (defScope (top 13)) (He.ga K "value_of") cdv A outer s H E) 0 (x := "terms") rfl (.inl rfl) (by decide) (by decide) pos
  have v1 := fun pos => kVar (z := zOf P w K mg base (XC K) (OC K) ["terms", "there", "found", "sign", "thing"] "value_of" (defScope (top 13)) (He.ga K "value_of") cdv A outer s H E) 1 (x := "there") rfl (.inl rfl) (by decide) (by decide) pos
  have v2 := fun pos => kVar (z := zOf P w K mg base (XC K) (OC K) ["terms", "there", "found", "sign", "thing"] "value_of" (defScope (top 13)) (He.ga K "value_of") cdv A outer s H E) 2 (x := "found") rfl (.inl rfl) (by decide) (by decide) pos
  have v3 := fun pos => kVar (z := zOf P w K mg base (XC K) (OC K) ["terms", "there", "found", "sign", "thing"] "value_of" (defScope (top 13)) (He.ga K "value_of") cdv A outer s H E) 3 (x := "sign") rfl (.inl rfl) (by decide) (by decide) pos
  have w3 := fun pos => gNameOk c 3 (x := "sign") rfl (.inl rfl) (.inr rfl) pos
  have v4 := fun pos => kVar (z := zOf P w K mg base (XC K) (OC K) ["terms", "there", "found", "sign", "thing"] "value_of" (defScope (top 13)) (He.ga K "value_of") cdv A outer s H E) 4 (x := "thing") rfl (.inl rfl) (by decide) (by decide) pos
  have w4 := fun pos => gNameOk c 4 (x := "thing") rfl (.inl rfl) (.inr rfl) pos
  exact (ssCons (sSetOk c 2 kInt rfl (.inl rfl) (.inr rfl)) (ssCons (sForOk c (iSeqOk (v0 _)) (gTupOk c (gsCons (w3 _) (gsCons (w4 _) gsNil))) (ssKill [3, 4] (ssOne (sIfOk (tVal (kIsI .str rfl rfl T.fr_isinstance rfl T.fr_str (v4 _))) (ssOne (sAddOk c 2 (kMul (v3 _) (kIx c (v1 _) (v4 _))) rfl (.inl rfl) (.inr rfl))) (ssOne (sAddOk c 2 (kMul (v3 _) (v4 _)) rfl (.inl rfl) (.inr rfl))))))) (ssOne (sRetOk (v2 _)))))
theorem sc_m_Trail_take : FnScope ["self"] ["self"] (defScope (mth 12 1)) := ⟨rfl, rfl, rfl, by decide +kernel, rfl, by decide +kernel, by decide +kernel⟩
theorem H_m_Trail_take (T : Tx K mg) : FnM P w K mg base (XC K) (OC K) 1 (He.fAd K ("Trail", some "take")) ["self"] m_Trail_take := by
  obtain ⟨fd, F⟩ := T.d_Trail__take
  refine fnMF (k := 0) (N := ["self"]) F (fun _ _ _ _ _ _ us hl => match us, hl with | [_], _ => rfl) sc_m_Trail_take (by decide) fun cdv A outer s H E c => ?_
  have v0 := fun pos => kVar (z := zOf P w K mg base (XC K) (OC K) ["self"] "Trail.take" (defScope (mth 12 1)) (He.fAd K ("Trail", some "take")) cdv A outer s H E) 0 (x := "self") rfl (.inl rfl) (by decide) (by decide) pos
  exact (ssCons (sIfOk (B.tGe (kFld [116, 97, 107, 101, 110] rfl T.cl_Trail T.na_Trail_taken (v0 _)) (kLen rfl T.fr_len (kFld [110, 117, 109, 98, 101, 114, 115] rfl T.cl_Trail T.na_Trail_numbers (v0 _)))) (ssOne (sRetOk kInt)) ssNil) (ssCons (sFldAOk [116, 97, 107, 101, 110] rfl T.cl_Trail T.na_Trail_taken (v0 _) kInt) (ssOne (sRetOk (kIx c (kFld [110, 117, 109, 98, 101, 114, 115] rfl T.cl_Trail T.na_Trail_numbers (v0 _)) (kSub (kFld [116, 97, 107, 101, 110] rfl T.cl_Trail T.na_Trail_taken (v0 _)) kInt))))))
theorem sc_m_Walk_done : FnScope ["self", "trail", "part", "spot", "row", "there", "head", "value"] ["self", "trail", "part", "spot", "row", "there"] (defScope (mth 15 7)) := ⟨rfl, rfl, rfl, by decide +kernel, rfl, by decide +kernel, by decide +kernel⟩
theorem H_m_Walk_done (T : Tx K mg) {hn : Fn} {k : Nat} (h_m_Walk_begin : FnM P w K mg base (XC K) (OC K) k (He.fAd K ("Walk", some "begin")) ["self", "trail", "part"] hn) (hk : 4 ≤ k) : FnM P w K mg base (XC K) (OC K) (k + 1) (He.fAd K ("Walk", some "done")) ["self", "trail", "part", "spot", "row", "there"] (m_Walk_done hn) := by
  obtain ⟨fd, F⟩ := T.d_Walk__done
  refine fnMF (k := k) (N := ["self", "trail", "part", "spot", "row", "there", "head", "value"]) F (fun _ _ _ _ _ _ us hl => match us, hl with | [_, _, _, _, _, _], _ => rfl) sc_m_Walk_done (by decide) fun cdv A outer s H E c => ?_
  have v0 := fun pos => kVar (z := zOf P w K mg base (XC K) (OC K) ["self", "trail", "part", "spot", "row", "there", "head", "value"] "Walk.done" (defScope (mth 15 7)) (He.fAd K ("Walk", some "done")) cdv A outer s H E) 0 (x := "self") rfl (.inl rfl) (by decide) (by decide) pos
  have v1 := fun pos => kVar (z := zOf P w K mg base (XC K) (OC K) ["self", "trail", "part", "spot", "row", "there", "head", "value"] "Walk.done" (defScope (mth 15 7)) (He.fAd K ("Walk", some "done")) cdv A outer s H E) 1 (x := "trail") rfl (.inl rfl) (by decide) (by decide) pos
  have v2 := fun pos => kVar (z := zOf P w K mg base (XC K) (OC K) ["self", "trail", "part", "spot", "row", "there", "head", "value"] "Walk.done" (defScope (mth 15 7)) (He.fAd K ("Walk", some "done")) cdv A outer s H E) 2 (x := "part") rfl (.inl rfl) (by decide) (by decide) pos
  have v3 := fun pos => kVar (z := zOf P w K mg base (XC K) (OC K) ["self", "trail", "part", "spot", "row", "there", "head", "value"] "Walk.done" (defScope (mth 15 7)) (He.fAd K ("Walk", some "done")) cdv A outer s H E) 3 (x := "spot") rfl (.inl rfl) (by decide) (by decide) pos
  have v4 := fun pos => kVar (z := zOf P w K mg base (XC K) (OC K) ["self", "trail", "part", "spot", "row", "there", "head", "value"] "Walk.done" (defScope (mth 15 7)) (He.fAd K ("Walk", some "done")) cdv A outer s H E) 4 (x := "row") rfl (.inl rfl) (by decide) (by decide) pos
  have v5 := fun pos => kVar (z := zOf P w K mg base (XC K) (OC K) ["self", "trail", "part", "spot", "row", "there", "head", "value"] "Walk.done" (defScope (mth 15 7)) (He.fAd K ("Walk", some "done")) cdv A outer s H E) 5 (x := "there") rfl (.inl rfl) (by decide) (by decide) pos
  have v6 := fun pos => kVar (z := zOf P w K mg base (XC K) (OC K) ["self", "trail", "part", "spot", "row", "there", "head", "value"] "Walk.done" (defScope (mth 15 7)) (He.fAd K ("Walk", some "done")) cdv A outer s H E) 6 (x := "head") rfl (.inl rfl) (by decide) (by decide) pos
  have v7 := fun pos => kVar (z := zOf P w K mg base (XC K) (OC K) ["self", "trail", "part", "spot", "row", "there", "head", "value"] "Walk.done" (defScope (mth 15 7)) (He.fAd K ("Walk", some "done")) cdv A outer s H E) 7 (x := "value") rfl (.inl rfl) (by decide) (by decide) pos
  have h_m_Trail_load := H_m_Trail_load (P := P) (w := w) (base := base) T
  have h_m_Trail_take := H_m_Trail_take (P := P) (w := w) (base := base) T
  have h_m_Walk_key_of := H_m_Walk_key_of (P := P) (w := w) (base := base) T
  have h_m_Walk_loads_of := H_m_Walk_loads_of (P := P) (w := w) (base := base) T
  have h_p_value_of := H_p_value_of (P := P) (w := w) (base := base) T
  exact (ssCons (sSetOk c 6 (kIx c (v4 _) kInt) rfl (.inl rfl) (.inr rfl)) (ssOne (sIfOk (B.tEq c (v6 _) (kStr [115, 101, 116])) (ssOne (sAsgOk (kCall wP c h_p_value_of (by omega) rfl (aCons (kIx c (v4 _) kInt) (aCons (v5 _) aNil))) (gSubOk c (kFld [107, 110, 111, 119, 110] rfl T.cl_Trail T.na_Trail_known (v1 _)) (kMeth c [107, 101, 121, 95, 111, 102] rfl T.cl_Walk T.me_Walk_key_of h_m_Walk_key_of (by omega) (v0 _) (aCons (v2 _) (aCons (kIx c (v4 _) kInt) aNil)))))) (ssOne (sIfOk (B.tEq c (v6 _) (kStr [116, 97, 107, 101])) (ssCons (sSetOk c 7 (kMeth0 c [116, 97, 107, 101] rfl T.cl_Trail T.me_Trail_take h_m_Trail_take (by omega) (v1 _)) rfl (.inl rfl) (.inr rfl)) (ssCons (sAsgOk (v7 _) (gSubOk c (kFld [107, 110, 111, 119, 110] rfl T.cl_Trail T.na_Trail_known (v1 _)) (kMeth c [107, 101, 121, 95, 111, 102] rfl T.cl_Walk T.me_Walk_key_of h_m_Walk_key_of (by omega) (v0 _) (aCons (v2 _) (aCons (kIx c (v4 _) kInt) aNil))))) (ssOne (sXOk (kAppend (kFld [116, 114, 97, 99, 101] rfl T.cl_Trail T.na_Trail_trace (v1 _)) (kTup (aCons (kStr [116, 97, 107, 101]) (aCons (v7 _) (aCons (kIx c (v3 _) kInt) (aCons (kIx c (v3 _) kInt) aNil)))))))))) (ssOne (sIfOk (B.tEq c (v6 _) (kStr [115, 97, 121])) (ssOne (sXOk (kAppend (kFld [116, 114, 97, 99, 101] rfl T.cl_Trail T.na_Trail_trace (v1 _)) (kTup (aCons (kStr [115, 97, 121]) (aCons (kCall wP c h_p_value_of (by omega) rfl (aCons (kIx c (v4 _) kInt) (aCons (v5 _) aNil))) (aCons (kIx c (v3 _) kInt) (aCons (kIx c (v3 _) kInt) aNil)))))))) (ssOne (sIfOk (B.tEq c (v6 _) (kStr [110, 101, 101, 100])) (ssOne (sIfOk (B.tLe (kCall wP c h_p_value_of (by omega) rfl (aCons (kIx c (v4 _) kInt) (aCons (v5 _) aNil))) kInt) (ssOne (sFldOk [102, 97, 117, 108, 116] rfl T.cl_Trail T.na_Trail_fault (v1 _) (kTup (aCons (kStr [110, 101, 101, 100]) (aCons (kIx c (v3 _) kInt) (aCons (kIx c (v3 _) kInt) (aCons kInt aNil))))))) ssNil)) (ssOne (sIfOk (B.tEq c (v6 _) (kStr [97, 115, 107])) (ssCons (sIfOk (B.tNin c (kIx c (v4 _) kInt) (kFld [98, 101, 103, 117, 110] rfl T.cl_Trail T.na_Trail_begun (v1 _))) (ssOne (sXOk (kMeth c [108, 111, 97, 100] rfl T.cl_Trail T.me_Trail_load h_m_Trail_load (by omega) (v1 _) (aCons (kMeth c [108, 111, 97, 100, 115, 95, 111, 102] rfl T.cl_Walk T.me_Walk_loads_of h_m_Walk_loads_of (by omega) (v0 _) (aCons (kIx c (v4 _) kInt) aNil)) aNil)))) ssNil) (ssOne (sXOk (kMeth c [98, 101, 103, 105, 110] rfl T.cl_Walk T.me_Walk_begin h_m_Walk_begin (by omega) (v0 _) (aCons (v1 _) (aCons (kIx c (v4 _) kInt) aNil)))))) (ssOne (sIfOk (B.tIn c (v6 _) (kTup (aCons (kStr [98, 114, 105, 110, 103]) (aCons (kStr [100, 111]) aNil)))) (ssOne (sXOk (kMeth c [98, 101, 103, 105, 110] rfl T.cl_Walk T.me_Walk_begin h_m_Walk_begin (by omega) (v0 _) (aCons (v1 _) (aCons (kIx c (v4 _) kInt) aNil))))) ssNil)))))))))))))
theorem sc_m_Walk_begin : FnScope ["self", "trail", "part", "place", "number", "row", "there"] ["self", "trail", "part"] (defScope (mth 15 5)) := ⟨rfl, rfl, rfl, by decide +kernel, rfl, by decide +kernel, by decide +kernel⟩
theorem H_m_Walk_begin (T : Tx K mg) : ∀ n, FnM P w K mg base (XC K) (OC K) (4 + 2 * n) (He.fAd K ("Walk", some "begin")) ["self", "trail", "part"] (m_Walk_begin n) := by
  obtain ⟨fd, F⟩ := T.d_Walk__begin
  intro n
  induction n with
  | zero => exact fnMF (k := 3) (b := sNever) (N := ["self", "trail", "part", "place", "number", "row", "there"]) F (fun _ _ _ _ _ _ us hl => match us, hl with | [_, _, _], _ => rfl) sc_m_Walk_begin (by decide) fun cdv A outer s H E c => ssNever
  | succ n ih =>
    refine fnMF (k := 4 + 2 * n + 1) (N := ["self", "trail", "part", "place", "number", "row", "there"]) F (fun _ _ _ _ _ _ us hl => match us, hl with | [_, _, _], _ => rfl) sc_m_Walk_begin (by decide) fun cdv A outer s H E c => ?_
    have h_m_Walk_begin := ih
    have h_m_Walk_done := H_m_Walk_done (P := P) (w := w) (base := base) T ih (by omega)
    have v0 := fun pos => kVar (z := zOf P w K mg base (XC K) (OC K) ["self", "trail", "part", "place", "number", "row", "there"] "Walk.begin" (defScope (mth 15 5)) (He.fAd K ("Walk", some "begin")) cdv A outer s H E) 0 (x := "self") rfl (.inl rfl) (by decide) (by decide) pos
    have v1 := fun pos => kVar (z := zOf P w K mg base (XC K) (OC K) ["self", "trail", "part", "place", "number", "row", "there"] "Walk.begin" (defScope (mth 15 5)) (He.fAd K ("Walk", some "begin")) cdv A outer s H E) 1 (x := "trail") rfl (.inl rfl) (by decide) (by decide) pos
    have v2 := fun pos => kVar (z := zOf P w K mg base (XC K) (OC K) ["self", "trail", "part", "place", "number", "row", "there"] "Walk.begin" (defScope (mth 15 5)) (He.fAd K ("Walk", some "begin")) cdv A outer s H E) 2 (x := "part") rfl (.inl rfl) (by decide) (by decide) pos
    have v3 := fun pos => kVar (z := zOf P w K mg base (XC K) (OC K) ["self", "trail", "part", "place", "number", "row", "there"] "Walk.begin" (defScope (mth 15 5)) (He.fAd K ("Walk", some "begin")) cdv A outer s H E) 3 (x := "place") rfl (.inl rfl) (by decide) (by decide) pos
    have w3 := fun pos => gNameOk c 3 (x := "place") rfl (.inl rfl) (.inr rfl) pos
    have v4 := fun pos => kVar (z := zOf P w K mg base (XC K) (OC K) ["self", "trail", "part", "place", "number", "row", "there"] "Walk.begin" (defScope (mth 15 5)) (He.fAd K ("Walk", some "begin")) cdv A outer s H E) 4 (x := "number") rfl (.inl rfl) (by decide) (by decide) pos
    have w4 := fun pos => gNameOk c 4 (x := "number") rfl (.inl rfl) (.inr rfl) pos
    have v5 := fun pos => kVar (z := zOf P w K mg base (XC K) (OC K) ["self", "trail", "part", "place", "number", "row", "there"] "Walk.begin" (defScope (mth 15 5)) (He.fAd K ("Walk", some "begin")) cdv A outer s H E) 5 (x := "row") rfl (.inl rfl) (by decide) (by decide) pos
    have w5 := fun pos => gNameOk c 5 (x := "row") rfl (.inl rfl) (.inr rfl) pos
    have v6 := fun pos => kVar (z := zOf P w K mg base (XC K) (OC K) ["self", "trail", "part", "place", "number", "row", "there"] "Walk.begin" (defScope (mth 15 5)) (He.fAd K ("Walk", some "begin")) cdv A outer s H E) 6 (x := "there") rfl (.inl rfl) (by decide) (by decide) pos
    have h_m_Walk_found_by := H_m_Walk_found_by (P := P) (w := w) (base := base) T
    have h_m_Walk_rows_of := H_m_Walk_rows_of (P := P) (w := w) (base := base) T
    exact (ssCons (sIfOk (B.tIn c (v2 _) (kFld [98, 101, 103, 117, 110] rfl T.cl_Trail T.na_Trail_begun (v1 _))) (ssOne sRetNOk) ssNil) (ssCons (sAsgOk kBl (gSubOk c (kFld [98, 101, 103, 117, 110] rfl T.cl_Trail T.na_Trail_begun (v1 _)) (v2 _))) (ssOne (sForOk c (iSeqOk (kMeth c [114, 111, 119, 115, 95, 111, 102] rfl T.cl_Walk T.me_Walk_rows_of h_m_Walk_rows_of (by omega) (v0 _) (aCons (v2 _) aNil))) (gTupOk c (gsCons (w3 _) (gsCons (w4 _) (gsCons (w5 _) gsNil)))) (ssKill [3, 4, 5, 6] (ssCons (sSetOk c 6 (kMeth c [102, 111, 117, 110, 100, 95, 98, 121] rfl T.cl_Walk T.me_Walk_found_by h_m_Walk_found_by (by omega) (v0 _) (aCons (v1 _) (aCons (v2 _) (aCons (kTup (aCons (v3 _) (aCons (v4 _) aNil))) (aCons (v5 _) aNil))))) rfl (.inl rfl) (.inr rfl)) (ssCons (sIfOk (B.tNotN (v6 _)) (ssOne (sXOk (kMeth c [100, 111, 110, 101] rfl T.cl_Walk T.me_Walk_done h_m_Walk_done (by omega) (v0 _) (aCons (v1 _) (aCons (v2 _) (aCons (kTup (aCons (v3 _) (aCons (v4 _) aNil))) (aCons (v5 _) (aCons (v6 _) aNil)))))))) ssNil) (ssOne (sIfOk (B.tNotN (kFld [102, 97, 117, 108, 116] rfl T.cl_Trail T.na_Trail_fault (v1 _))) (ssOne sRetNOk) ssNil)))))))))
theorem sc_m_Walk_go : FnScope ["self", "root", "numbers", "trail"] ["self", "root", "numbers"] (defScope (mth 15 4)) := ⟨rfl, rfl, rfl, by decide +kernel, rfl, by decide +kernel, by decide +kernel⟩
theorem H_m_Walk_go (T : Tx K mg) : FnM P w K mg base (XC K) (OC K) 65 (He.fAd K ("Walk", some "go")) ["self", "root", "numbers"] m_Walk_go := by
  obtain ⟨fd, F⟩ := T.d_Walk__go
  refine fnMF (k := 64) (N := ["self", "root", "numbers", "trail"]) F (fun _ _ _ _ _ _ us hl => match us, hl with | [_, _, _], _ => rfl) sc_m_Walk_go (by decide) fun cdv A outer s H E c => ?_
  have v0 := fun pos => kVar (z := zOf P w K mg base (XC K) (OC K) ["self", "root", "numbers", "trail"] "Walk.go" (defScope (mth 15 4)) (He.fAd K ("Walk", some "go")) cdv A outer s H E) 0 (x := "self") rfl (.inl rfl) (by decide) (by decide) pos
  have v1 := fun pos => kVar (z := zOf P w K mg base (XC K) (OC K) ["self", "root", "numbers", "trail"] "Walk.go" (defScope (mth 15 4)) (He.fAd K ("Walk", some "go")) cdv A outer s H E) 1 (x := "root") rfl (.inl rfl) (by decide) (by decide) pos
  have v2 := fun pos => kVar (z := zOf P w K mg base (XC K) (OC K) ["self", "root", "numbers", "trail"] "Walk.go" (defScope (mth 15 4)) (He.fAd K ("Walk", some "go")) cdv A outer s H E) 2 (x := "numbers") rfl (.inl rfl) (by decide) (by decide) pos
  have v3 := fun pos => kVar (z := zOf P w K mg base (XC K) (OC K) ["self", "root", "numbers", "trail"] "Walk.go" (defScope (mth 15 4)) (He.fAd K ("Walk", some "go")) cdv A outer s H E) 3 (x := "trail") rfl (.inl rfl) (by decide) (by decide) pos
  have h_m_Trail___init__K := H_m_Trail___init__K (P := P) (w := w) (base := base) T
  have h_m_Trail_load := H_m_Trail_load (P := P) (w := w) (base := base) T
  have h_m_Walk_ahead_of := H_m_Walk_ahead_of (P := P) (w := w) (base := base) T
  have h_m_Walk_begin := H_m_Walk_begin (P := P) (w := w) (base := base) T 30
  have h_m_Walk_loads_of := H_m_Walk_loads_of (P := P) (w := w) (base := base) T
  exact (ssCons (sSetOk c 3 (kMake c T.mk_Trail h_m_Trail___init__K (by decide) rfl T.g_Trail (aCons (v2 _) aNil)) rfl (.inl rfl) (.inr rfl)) (ssCons (sXOk (kMeth c [108, 111, 97, 100] rfl T.cl_Trail T.me_Trail_load h_m_Trail_load (by decide) (v3 _) (aCons (kMeth c [108, 111, 97, 100, 115, 95, 111, 102] rfl T.cl_Walk T.me_Walk_loads_of h_m_Walk_loads_of (by decide) (v0 _) (aCons (v1 _) aNil)) aNil))) (ssCons (sXOk (kMeth c [108, 111, 97, 100] rfl T.cl_Trail T.me_Trail_load h_m_Trail_load (by decide) (v3 _) (aCons (kMeth c [97, 104, 101, 97, 100, 95, 111, 102] rfl T.cl_Walk T.me_Walk_ahead_of h_m_Walk_ahead_of (by decide) (v0 _) (aCons (v1 _) aNil)) aNil))) (ssCons (sXOk (kMeth c [98, 101, 103, 105, 110] rfl T.cl_Walk T.me_Walk_begin h_m_Walk_begin (by decide) (v0 _) (aCons (v3 _) (aCons (v1 _) aNil)))) (ssOne (sRetOk (kTup (aCons (kTuple rfl T.fr_tuple (kFld [116, 114, 97, 99, 101] rfl T.cl_Trail T.na_Trail_trace (v3 _))) (aCons (kFld [102, 97, 117, 108, 116] rfl T.cl_Trail T.na_Trail_fault (v3 _)) aNil)))))))))
theorem sc_l_bare : FnScope ["_law_parts_here", "_law_numbers", "_law_walk", "_law_name_here", "_law_rows"] ["_law_parts_here", "_law_numbers"] (defScope (top 26)) := ⟨rfl, rfl, rfl, by decide +kernel, rfl, by decide +kernel, by decide +kernel⟩
theorem H_l_bare (T : Tx K mg) : FnB P w K mg base (XC K) (OC K) 66 "_law_bare" ["_law_parts_here", "_law_numbers"] l_bare := by
  obtain ⟨fd, F⟩ := T.d__law_bare
  refine fnF (k := 65) (N := ["_law_parts_here", "_law_numbers", "_law_walk", "_law_name_here", "_law_rows"]) T.g__law_bare F (fun _ _ _ _ _ _ us hl => match us, hl with | [_, _], _ => rfl) sc_l_bare (by decide) fun cdv A outer s H E c => ?_
  have v0 := fun pos => kVar (z := zOf P w K mg base (XC K) (OC K) ["_law_parts_here", "_law_numbers", "_law_walk", "_law_name_here", "_law_rows"] "_law_bare" (defScope (top 26)) (He.ga K "_law_bare") cdv A outer s H E) 0 (x := "_law_parts_here") rfl (.inl rfl) (by decide) (by decide) pos
  have v1 := fun pos => kVar (z := zOf P w K mg base (XC K) (OC K) ["_law_parts_here", "_law_numbers", "_law_walk", "_law_name_here", "_law_rows"] "_law_bare" (defScope (top 26)) (He.ga K "_law_bare") cdv A outer s H E) 1 (x := "_law_numbers") rfl (.inl rfl) (by decide) (by decide) pos
  have v2 := fun pos => kVar (z := zOf P w K mg base (XC K) (OC K) ["_law_parts_here", "_law_numbers", "_law_walk", "_law_name_here", "_law_rows"] "_law_bare" (defScope (top 26)) (He.ga K "_law_bare") cdv A outer s H E) 2 (x := "_law_walk") rfl (.inl rfl) (by decide) (by decide) pos
  have v3 := fun pos => kVar (z := zOf P w K mg base (XC K) (OC K) ["_law_parts_here", "_law_numbers", "_law_walk", "_law_name_here", "_law_rows"] "_law_bare" (defScope (top 26)) (He.ga K "_law_bare") cdv A outer s H E) 3 (x := "_law_name_here") rfl (.inl rfl) (by decide) (by decide) pos
  have w3 := fun pos => gNameOk c 3 (x := "_law_name_here") rfl (.inl rfl) (.inr rfl) pos
  have w4 := fun pos => gNameOk c 4 (x := "_law_rows") rfl (.inl rfl) (.inr rfl) pos
  have h_m_Walk_ahead_of := H_m_Walk_ahead_of (P := P) (w := w) (base := base) T
  have h_m_Walk_go := H_m_Walk_go (P := P) (w := w) (base := base) T
  have h_m_Walk_key_of := H_m_Walk_key_of (P := P) (w := w) (base := base) T
  have h_m_Walk_loads_of := H_m_Walk_loads_of (P := P) (w := w) (base := base) T
  have h_m_Walk_rows_of := H_m_Walk_rows_of (P := P) (w := w) (base := base) T
  exact (ssCons (sSetOk c 2 (kMakeB T.mb_Walk rfl T.g_Walk) rfl (.inl rfl) (.inr rfl)) (ssCons (sForOk c (iSeqOk (v0 _)) (gTupOk c (gsCons (w3 _) (gsCons (w4 _) gsNil))) (ssKill [3, 4] (ssCons (sIfOk (tW (wOr (B.tNe c (kMeth c [114, 111, 119, 115, 95, 111, 102] rfl T.cl_Walk T.me_Walk_rows_of h_m_Walk_rows_of (by decide) (v2 _) (aCons (v3 _) aNil)) (kTup aNil)) (wOr1 (B.tNe c (kMeth c [107, 101, 121, 95, 111, 102] rfl T.cl_Walk T.me_Walk_key_of h_m_Walk_key_of (by decide) (v2 _) (aCons (v3 _) (aCons (kStr [120]) aNil))) (kStr [120]))))) (ssOne (sRetOk kBl)) ssNil) (ssOne (sIfOk (tW (wOr (B.tNe c (kMeth c [108, 111, 97, 100, 115, 95, 111, 102] rfl T.cl_Walk T.me_Walk_loads_of h_m_Walk_loads_of (by decide) (v2 _) (aCons (v3 _) aNil)) (kTup aNil)) (wOr (B.tNe c (kMeth c [97, 104, 101, 97, 100, 95, 111, 102] rfl T.cl_Walk T.me_Walk_ahead_of h_m_Walk_ahead_of (by decide) (v2 _) (aCons (v3 _) aNil)) (kTup aNil)) (wOr1 (B.tNe c (kMeth c [103, 111] rfl T.cl_Walk T.me_Walk_go h_m_Walk_go (by decide) (v2 _) (aCons (v3 _) (aCons (kTuple rfl T.fr_tuple (v1 _)) aNil))) (kTup (aCons (kTup aNil) (aCons kNon aNil)))))))) (ssOne (sRetOk kBl)) ssNil))))) (ssOne (sRetOk kBl))))
theorem sc_m_PartsWalk_found_by : FnScope ["self", "trail", "part", "spot", "row", "there", "when", "word", "name", "key"] ["self", "trail", "part", "spot", "row"] (defScope (mth 15 6)) := ⟨rfl, rfl, rfl, by decide +kernel, rfl, by decide +kernel, by decide +kernel⟩
theorem H_m_PartsWalk_found_by (T : Tx K mg) : FnM P w K mg base (XC K) (OC K) 6 (He.fAd K ("PartsWalk", some "found_by")) ["self", "trail", "part", "spot", "row"] m_PartsWalk_found_by := by
  obtain ⟨fd, F⟩ := T.d_PartsWalk__found_by
  refine fnMF (k := 5) (N := ["self", "trail", "part", "spot", "row", "there", "when", "word", "name", "key"]) F (fun _ _ _ _ _ _ us hl => match us, hl with | [_, _, _, _, _], _ => rfl) sc_m_PartsWalk_found_by (by decide) fun cdv A outer s H E c => ?_
  have v0 := fun pos => kVar (z := zOf P w K mg base (XC K) (OC K) ["self", "trail", "part", "spot", "row", "there", "when", "word", "name", "key"] "Walk.found_by" (defScope (mth 15 6)) (He.fAd K ("PartsWalk", some "found_by")) cdv A outer s H E) 0 (x := "self") rfl (.inl rfl) (by decide) (by decide) pos
  have v1 := fun pos => kVar (z := zOf P w K mg base (XC K) (OC K) ["self", "trail", "part", "spot", "row", "there", "when", "word", "name", "key"] "Walk.found_by" (defScope (mth 15 6)) (He.fAd K ("PartsWalk", some "found_by")) cdv A outer s H E) 1 (x := "trail") rfl (.inl rfl) (by decide) (by decide) pos
  have v2 := fun pos => kVar (z := zOf P w K mg base (XC K) (OC K) ["self", "trail", "part", "spot", "row", "there", "when", "word", "name", "key"] "Walk.found_by" (defScope (mth 15 6)) (He.fAd K ("PartsWalk", some "found_by")) cdv A outer s H E) 2 (x := "part") rfl (.inl rfl) (by decide) (by decide) pos
  have v3 := fun pos => kVar (z := zOf P w K mg base (XC K) (OC K) ["self", "trail", "part", "spot", "row", "there", "when", "word", "name", "key"] "Walk.found_by" (defScope (mth 15 6)) (He.fAd K ("PartsWalk", some "found_by")) cdv A outer s H E) 3 (x := "spot") rfl (.inl rfl) (by decide) (by decide) pos
  have v4 := fun pos => kVar (z := zOf P w K mg base (XC K) (OC K) ["self", "trail", "part", "spot", "row", "there", "when", "word", "name", "key"] "Walk.found_by" (defScope (mth 15 6)) (He.fAd K ("PartsWalk", some "found_by")) cdv A outer s H E) 4 (x := "row") rfl (.inl rfl) (by decide) (by decide) pos
  have v5 := fun pos => kVar (z := zOf P w K mg base (XC K) (OC K) ["self", "trail", "part", "spot", "row", "there", "when", "word", "name", "key"] "Walk.found_by" (defScope (mth 15 6)) (He.fAd K ("PartsWalk", some "found_by")) cdv A outer s H E) 5 (x := "there") rfl (.inl rfl) (by decide) (by decide) pos
  have v6 := fun pos => kVar (z := zOf P w K mg base (XC K) (OC K) ["self", "trail", "part", "spot", "row", "there", "when", "word", "name", "key"] "Walk.found_by" (defScope (mth 15 6)) (He.fAd K ("PartsWalk", some "found_by")) cdv A outer s H E) 6 (x := "when") rfl (.inl rfl) (by decide) (by decide) pos
  have v7 := fun pos => kVar (z := zOf P w K mg base (XC K) (OC K) ["self", "trail", "part", "spot", "row", "there", "when", "word", "name", "key"] "Walk.found_by" (defScope (mth 15 6)) (He.fAd K ("PartsWalk", some "found_by")) cdv A outer s H E) 7 (x := "word") rfl (.inl rfl) (by decide) (by decide) pos
  have w7 := fun pos => gNameOk c 7 (x := "word") rfl (.inl rfl) (.inr rfl) pos
  have v8 := fun pos => kVar (z := zOf P w K mg base (XC K) (OC K) ["self", "trail", "part", "spot", "row", "there", "when", "word", "name", "key"] "Walk.found_by" (defScope (mth 15 6)) (He.fAd K ("PartsWalk", some "found_by")) cdv A outer s H E) 8 (x := "name") rfl (.inl rfl) (by decide) (by decide) pos
  have w8 := fun pos => gNameOk c 8 (x := "name") rfl (.inl rfl) (.inr rfl) pos
  have v9 := fun pos => kVar (z := zOf P w K mg base (XC K) (OC K) ["self", "trail", "part", "spot", "row", "there", "when", "word", "name", "key"] "Walk.found_by" (defScope (mth 15 6)) (He.fAd K ("PartsWalk", some "found_by")) cdv A outer s H E) 9 (x := "key") rfl (.inl rfl) (by decide) (by decide) pos
  have h_m_PartsWalk_key_of := H_m_PartsWalk_key_of (P := P) (w := w) (base := base) T
  have h_p_read_names := H_p_read_names (P := P) (w := w) (base := base) T
  have h_p_when_of := H_p_when_of (P := P) (w := w) (base := base) T
  exact (ssCons (sSetOk c 5 kDctK rfl (.inl rfl) (.inr rfl)) (ssCons (sSetOk c 6 (kCall wP c h_p_when_of (by decide) rfl (aCons (v4 _) aNil)) rfl (.inl rfl) (.inr rfl)) (ssCons (sForOk c (iSeqOk (kCall wP c h_p_read_names (by decide) rfl (aCons (v4 _) aNil))) (gTupOk c (gsCons (w7 _) (gsCons (w8 _) gsNil))) (ssKill [7, 8, 9] (ssCons (sSetOk c 9 (kMeth c [107, 101, 121, 95, 111, 102] rfl T.cl_PartsWalk T.me_PartsWalk_key_of h_m_PartsWalk_key_of (by decide) (v0 _) (aCons (v2 _) (aCons (v8 _) aNil))) rfl (.inl rfl) (.inr rfl)) (ssCons (sIfOk (B.tNin c (v9 _) (kFld [107, 110, 111, 119, 110] rfl T.cl_Trail T.na_Trail_known (v1 _))) (ssCons (sFldOk [102, 97, 117, 108, 116] rfl T.cl_Trail T.na_Trail_fault (v1 _) (kTup (aCons (kStr [101, 97, 114, 108, 121]) (aCons (kIx c (v3 _) kInt) (aCons (kIx c (v3 _) kInt) (aCons (v7 _) aNil)))))) (ssOne (sRetOk kNon))) ssNil) (ssCons (sAsgOk (kIx c (kFld [107, 110, 111, 119, 110] rfl T.cl_Trail T.na_Trail_known (v1 _)) (v9 _)) (gSubOk c (v5 _) (v8 _))) (ssOne (sIfOk (tW (wAnd (B.tEq c (v8 _) (v6 _)) (wAnd1 (B.tLe (kIx c (v5 _) (v8 _)) kInt)))) (ssOne (sRetOk kNon)) ssNil))))))) (ssOne (sRetOk (v5 _))))))
theorem sc_m_PartsWalk_done : FnScope ["self", "trail", "part", "spot", "row", "there", "head", "value"] ["self", "trail", "part", "spot", "row", "there"] (defScope (mth 15 7)) := ⟨rfl, rfl, rfl, by decide +kernel, rfl, by decide +kernel, by decide +kernel⟩
theorem H_m_PartsWalk_done (T : Tx K mg) {hn : Fn} {k : Nat} (h_m_PartsWalk_begin : FnM P w K mg base (XC K) (OC K) k (He.fAd K ("PartsWalk", some "begin")) ["self", "trail", "part"] hn) (hk : 7 ≤ k) : FnM P w K mg base (XC K) (OC K) (k + 1) (He.fAd K ("PartsWalk", some "done")) ["self", "trail", "part", "spot", "row", "there"] (m_PartsWalk_done hn) := by
  obtain ⟨fd, F⟩ := T.d_PartsWalk__done
  refine fnMF (k := k) (N := ["self", "trail", "part", "spot", "row", "there", "head", "value"]) F (fun _ _ _ _ _ _ us hl => match us, hl with | [_, _, _, _, _, _], _ => rfl) sc_m_PartsWalk_done (by decide) fun cdv A outer s H E c => ?_
  have v0 := fun pos => kVar (z := zOf P w K mg base (XC K) (OC K) ["self", "trail", "part", "spot", "row", "there", "head", "value"] "Walk.done" (defScope (mth 15 7)) (He.fAd K ("PartsWalk", some "done")) cdv A outer s H E) 0 (x := "self") rfl (.inl rfl) (by decide) (by decide) pos
  have v1 := fun pos => kVar (z := zOf P w K mg base (XC K) (OC K) ["self", "trail", "part", "spot", "row", "there", "head", "value"] "Walk.done" (defScope (mth 15 7)) (He.fAd K ("PartsWalk", some "done")) cdv A outer s H E) 1 (x := "trail") rfl (.inl rfl) (by decide) (by decide) pos
  have v2 := fun pos => kVar (z := zOf P w K mg base (XC K) (OC K) ["self", "trail", "part", "spot", "row", "there", "head", "value"] "Walk.done" (defScope (mth 15 7)) (He.fAd K ("PartsWalk", some "done")) cdv A outer s H E) 2 (x := "part") rfl (.inl rfl) (by decide) (by decide) pos
  have v3 := fun pos => kVar (z := zOf P w K mg base (XC K) (OC K) ["self", "trail", "part", "spot", "row", "there", "head", "value"] "Walk.done" (defScope (mth 15 7)) (He.fAd K ("PartsWalk", some "done")) cdv A outer s H E) 3 (x := "spot") rfl (.inl rfl) (by decide) (by decide) pos
  have v4 := fun pos => kVar (z := zOf P w K mg base (XC K) (OC K) ["self", "trail", "part", "spot", "row", "there", "head", "value"] "Walk.done" (defScope (mth 15 7)) (He.fAd K ("PartsWalk", some "done")) cdv A outer s H E) 4 (x := "row") rfl (.inl rfl) (by decide) (by decide) pos
  have v5 := fun pos => kVar (z := zOf P w K mg base (XC K) (OC K) ["self", "trail", "part", "spot", "row", "there", "head", "value"] "Walk.done" (defScope (mth 15 7)) (He.fAd K ("PartsWalk", some "done")) cdv A outer s H E) 5 (x := "there") rfl (.inl rfl) (by decide) (by decide) pos
  have v6 := fun pos => kVar (z := zOf P w K mg base (XC K) (OC K) ["self", "trail", "part", "spot", "row", "there", "head", "value"] "Walk.done" (defScope (mth 15 7)) (He.fAd K ("PartsWalk", some "done")) cdv A outer s H E) 6 (x := "head") rfl (.inl rfl) (by decide) (by decide) pos
  have v7 := fun pos => kVar (z := zOf P w K mg base (XC K) (OC K) ["self", "trail", "part", "spot", "row", "there", "head", "value"] "Walk.done" (defScope (mth 15 7)) (He.fAd K ("PartsWalk", some "done")) cdv A outer s H E) 7 (x := "value") rfl (.inl rfl) (by decide) (by decide) pos
  have h_m_PartsWalk_key_of := H_m_PartsWalk_key_of (P := P) (w := w) (base := base) T
  have h_m_PartsWalk_loads_of := H_m_PartsWalk_loads_of (P := P) (w := w) (base := base) T
  have h_m_Trail_load := H_m_Trail_load (P := P) (w := w) (base := base) T
  have h_m_Trail_take := H_m_Trail_take (P := P) (w := w) (base := base) T
  have h_p_value_of := H_p_value_of (P := P) (w := w) (base := base) T
  exact (ssCons (sSetOk c 6 (kIx c (v4 _) kInt) rfl (.inl rfl) (.inr rfl)) (ssOne (sIfOk (B.tEq c (v6 _) (kStr [115, 101, 116])) (ssOne (sAsgOk (kCall wP c h_p_value_of (by omega) rfl (aCons (kIx c (v4 _) kInt) (aCons (v5 _) aNil))) (gSubOk c (kFld [107, 110, 111, 119, 110] rfl T.cl_Trail T.na_Trail_known (v1 _)) (kMeth c [107, 101, 121, 95, 111, 102] rfl T.cl_PartsWalk T.me_PartsWalk_key_of h_m_PartsWalk_key_of (by omega) (v0 _) (aCons (v2 _) (aCons (kIx c (v4 _) kInt) aNil)))))) (ssOne (sIfOk (B.tEq c (v6 _) (kStr [116, 97, 107, 101])) (ssCons (sSetOk c 7 (kMeth0 c [116, 97, 107, 101] rfl T.cl_Trail T.me_Trail_take h_m_Trail_take (by omega) (v1 _)) rfl (.inl rfl) (.inr rfl)) (ssCons (sAsgOk (v7 _) (gSubOk c (kFld [107, 110, 111, 119, 110] rfl T.cl_Trail T.na_Trail_known (v1 _)) (kMeth c [107, 101, 121, 95, 111, 102] rfl T.cl_PartsWalk T.me_PartsWalk_key_of h_m_PartsWalk_key_of (by omega) (v0 _) (aCons (v2 _) (aCons (kIx c (v4 _) kInt) aNil))))) (ssOne (sXOk (kAppend (kFld [116, 114, 97, 99, 101] rfl T.cl_Trail T.na_Trail_trace (v1 _)) (kTup (aCons (kStr [116, 97, 107, 101]) (aCons (v7 _) (aCons (kIx c (v3 _) kInt) (aCons (kIx c (v3 _) kInt) aNil)))))))))) (ssOne (sIfOk (B.tEq c (v6 _) (kStr [115, 97, 121])) (ssOne (sXOk (kAppend (kFld [116, 114, 97, 99, 101] rfl T.cl_Trail T.na_Trail_trace (v1 _)) (kTup (aCons (kStr [115, 97, 121]) (aCons (kCall wP c h_p_value_of (by omega) rfl (aCons (kIx c (v4 _) kInt) (aCons (v5 _) aNil))) (aCons (kIx c (v3 _) kInt) (aCons (kIx c (v3 _) kInt) aNil)))))))) (ssOne (sIfOk (B.tEq c (v6 _) (kStr [110, 101, 101, 100])) (ssOne (sIfOk (B.tLe (kCall wP c h_p_value_of (by omega) rfl (aCons (kIx c (v4 _) kInt) (aCons (v5 _) aNil))) kInt) (ssOne (sFldOk [102, 97, 117, 108, 116] rfl T.cl_Trail T.na_Trail_fault (v1 _) (kTup (aCons (kStr [110, 101, 101, 100]) (aCons (kIx c (v3 _) kInt) (aCons (kIx c (v3 _) kInt) (aCons kInt aNil))))))) ssNil)) (ssOne (sIfOk (B.tEq c (v6 _) (kStr [97, 115, 107])) (ssCons (sIfOk (B.tNin c (kIx c (v4 _) kInt) (kFld [98, 101, 103, 117, 110] rfl T.cl_Trail T.na_Trail_begun (v1 _))) (ssOne (sXOk (kMeth c [108, 111, 97, 100] rfl T.cl_Trail T.me_Trail_load h_m_Trail_load (by omega) (v1 _) (aCons (kMeth c [108, 111, 97, 100, 115, 95, 111, 102] rfl T.cl_PartsWalk T.me_PartsWalk_loads_of h_m_PartsWalk_loads_of (by omega) (v0 _) (aCons (kIx c (v4 _) kInt) aNil)) aNil)))) ssNil) (ssOne (sXOk (kMeth c [98, 101, 103, 105, 110] rfl T.cl_PartsWalk T.me_PartsWalk_begin h_m_PartsWalk_begin (by omega) (v0 _) (aCons (v1 _) (aCons (kIx c (v4 _) kInt) aNil)))))) (ssOne (sIfOk (B.tIn c (v6 _) (kTup (aCons (kStr [98, 114, 105, 110, 103]) (aCons (kStr [100, 111]) aNil)))) (ssOne (sXOk (kMeth c [98, 101, 103, 105, 110] rfl T.cl_PartsWalk T.me_PartsWalk_begin h_m_PartsWalk_begin (by omega) (v0 _) (aCons (v1 _) (aCons (kIx c (v4 _) kInt) aNil))))) ssNil)))))))))))))
theorem sc_m_PartsWalk_begin : FnScope ["self", "trail", "part", "place", "number", "row", "there"] ["self", "trail", "part"] (defScope (mth 15 5)) := ⟨rfl, rfl, rfl, by decide +kernel, rfl, by decide +kernel, by decide +kernel⟩
theorem H_m_PartsWalk_begin (T : Tx K mg) : ∀ n, FnM P w K mg base (XC K) (OC K) (7 + 2 * n) (He.fAd K ("PartsWalk", some "begin")) ["self", "trail", "part"] (m_PartsWalk_begin n) := by
  obtain ⟨fd, F⟩ := T.d_PartsWalk__begin
  intro n
  induction n with
  | zero => exact fnMF (k := 6) (b := sNever) (N := ["self", "trail", "part", "place", "number", "row", "there"]) F (fun _ _ _ _ _ _ us hl => match us, hl with | [_, _, _], _ => rfl) sc_m_PartsWalk_begin (by decide) fun cdv A outer s H E c => ssNever
  | succ n ih =>
    refine fnMF (k := 7 + 2 * n + 1) (N := ["self", "trail", "part", "place", "number", "row", "there"]) F (fun _ _ _ _ _ _ us hl => match us, hl with | [_, _, _], _ => rfl) sc_m_PartsWalk_begin (by decide) fun cdv A outer s H E c => ?_
    have h_m_PartsWalk_begin := ih
    have h_m_PartsWalk_done := H_m_PartsWalk_done (P := P) (w := w) (base := base) T ih (by omega)
    have v0 := fun pos => kVar (z := zOf P w K mg base (XC K) (OC K) ["self", "trail", "part", "place", "number", "row", "there"] "Walk.begin" (defScope (mth 15 5)) (He.fAd K ("PartsWalk", some "begin")) cdv A outer s H E) 0 (x := "self") rfl (.inl rfl) (by decide) (by decide) pos
    have v1 := fun pos => kVar (z := zOf P w K mg base (XC K) (OC K) ["self", "trail", "part", "place", "number", "row", "there"] "Walk.begin" (defScope (mth 15 5)) (He.fAd K ("PartsWalk", some "begin")) cdv A outer s H E) 1 (x := "trail") rfl (.inl rfl) (by decide) (by decide) pos
    have v2 := fun pos => kVar (z := zOf P w K mg base (XC K) (OC K) ["self", "trail", "part", "place", "number", "row", "there"] "Walk.begin" (defScope (mth 15 5)) (He.fAd K ("PartsWalk", some "begin")) cdv A outer s H E) 2 (x := "part") rfl (.inl rfl) (by decide) (by decide) pos
    have v3 := fun pos => kVar (z := zOf P w K mg base (XC K) (OC K) ["self", "trail", "part", "place", "number", "row", "there"] "Walk.begin" (defScope (mth 15 5)) (He.fAd K ("PartsWalk", some "begin")) cdv A outer s H E) 3 (x := "place") rfl (.inl rfl) (by decide) (by decide) pos
    have w3 := fun pos => gNameOk c 3 (x := "place") rfl (.inl rfl) (.inr rfl) pos
    have v4 := fun pos => kVar (z := zOf P w K mg base (XC K) (OC K) ["self", "trail", "part", "place", "number", "row", "there"] "Walk.begin" (defScope (mth 15 5)) (He.fAd K ("PartsWalk", some "begin")) cdv A outer s H E) 4 (x := "number") rfl (.inl rfl) (by decide) (by decide) pos
    have w4 := fun pos => gNameOk c 4 (x := "number") rfl (.inl rfl) (.inr rfl) pos
    have v5 := fun pos => kVar (z := zOf P w K mg base (XC K) (OC K) ["self", "trail", "part", "place", "number", "row", "there"] "Walk.begin" (defScope (mth 15 5)) (He.fAd K ("PartsWalk", some "begin")) cdv A outer s H E) 5 (x := "row") rfl (.inl rfl) (by decide) (by decide) pos
    have w5 := fun pos => gNameOk c 5 (x := "row") rfl (.inl rfl) (.inr rfl) pos
    have v6 := fun pos => kVar (z := zOf P w K mg base (XC K) (OC K) ["self", "trail", "part", "place", "number", "row", "there"] "Walk.begin" (defScope (mth 15 5)) (He.fAd K ("PartsWalk", some "begin")) cdv A outer s H E) 6 (x := "there") rfl (.inl rfl) (by decide) (by decide) pos
    have h_m_PartsWalk_found_by := H_m_PartsWalk_found_by (P := P) (w := w) (base := base) T
    have h_m_PartsWalk_rows_of := H_m_PartsWalk_rows_of (P := P) (w := w) (base := base) T
    exact (ssCons (sIfOk (B.tIn c (v2 _) (kFld [98, 101, 103, 117, 110] rfl T.cl_Trail T.na_Trail_begun (v1 _))) (ssOne sRetNOk) ssNil) (ssCons (sAsgOk kBl (gSubOk c (kFld [98, 101, 103, 117, 110] rfl T.cl_Trail T.na_Trail_begun (v1 _)) (v2 _))) (ssOne (sForOk c (iSeqOk (kMeth c [114, 111, 119, 115, 95, 111, 102] rfl T.cl_PartsWalk T.me_PartsWalk_rows_of h_m_PartsWalk_rows_of (by omega) (v0 _) (aCons (v2 _) aNil))) (gTupOk c (gsCons (w3 _) (gsCons (w4 _) (gsCons (w5 _) gsNil)))) (ssKill [3, 4, 5, 6] (ssCons (sSetOk c 6 (kMeth c [102, 111, 117, 110, 100, 95, 98, 121] rfl T.cl_PartsWalk T.me_PartsWalk_found_by h_m_PartsWalk_found_by (by omega) (v0 _) (aCons (v1 _) (aCons (v2 _) (aCons (kTup (aCons (v3 _) (aCons (v4 _) aNil))) (aCons (v5 _) aNil))))) rfl (.inl rfl) (.inr rfl)) (ssCons (sIfOk (B.tNotN (v6 _)) (ssOne (sXOk (kMeth c [100, 111, 110, 101] rfl T.cl_PartsWalk T.me_PartsWalk_done h_m_PartsWalk_done (by omega) (v0 _) (aCons (v1 _) (aCons (v2 _) (aCons (kTup (aCons (v3 _) (aCons (v4 _) aNil))) (aCons (v5 _) (aCons (v6 _) aNil)))))))) ssNil) (ssOne (sIfOk (B.tNotN (kFld [102, 97, 117, 108, 116] rfl T.cl_Trail T.na_Trail_fault (v1 _))) (ssOne sRetNOk) ssNil)))))))))
theorem sc_m_PartsWalk_go : FnScope ["self", "root", "numbers", "trail"] ["self", "root", "numbers"] (defScope (mth 15 4)) := ⟨rfl, rfl, rfl, by decide +kernel, rfl, by decide +kernel, by decide +kernel⟩
theorem H_m_PartsWalk_go (T : Tx K mg) : FnM P w K mg base (XC K) (OC K) 68 (He.fAd K ("PartsWalk", some "go")) ["self", "root", "numbers"] m_PartsWalk_go := by
  obtain ⟨fd, F⟩ := T.d_PartsWalk__go
  refine fnMF (k := 67) (N := ["self", "root", "numbers", "trail"]) F (fun _ _ _ _ _ _ us hl => match us, hl with | [_, _, _], _ => rfl) sc_m_PartsWalk_go (by decide) fun cdv A outer s H E c => ?_
  have v0 := fun pos => kVar (z := zOf P w K mg base (XC K) (OC K) ["self", "root", "numbers", "trail"] "Walk.go" (defScope (mth 15 4)) (He.fAd K ("PartsWalk", some "go")) cdv A outer s H E) 0 (x := "self") rfl (.inl rfl) (by decide) (by decide) pos
  have v1 := fun pos => kVar (z := zOf P w K mg base (XC K) (OC K) ["self", "root", "numbers", "trail"] "Walk.go" (defScope (mth 15 4)) (He.fAd K ("PartsWalk", some "go")) cdv A outer s H E) 1 (x := "root") rfl (.inl rfl) (by decide) (by decide) pos
  have v2 := fun pos => kVar (z := zOf P w K mg base (XC K) (OC K) ["self", "root", "numbers", "trail"] "Walk.go" (defScope (mth 15 4)) (He.fAd K ("PartsWalk", some "go")) cdv A outer s H E) 2 (x := "numbers") rfl (.inl rfl) (by decide) (by decide) pos
  have v3 := fun pos => kVar (z := zOf P w K mg base (XC K) (OC K) ["self", "root", "numbers", "trail"] "Walk.go" (defScope (mth 15 4)) (He.fAd K ("PartsWalk", some "go")) cdv A outer s H E) 3 (x := "trail") rfl (.inl rfl) (by decide) (by decide) pos
  have h_m_PartsWalk_ahead_of := H_m_PartsWalk_ahead_of (P := P) (w := w) (base := base) T
  have h_m_PartsWalk_begin := H_m_PartsWalk_begin (P := P) (w := w) (base := base) T 30
  have h_m_PartsWalk_loads_of := H_m_PartsWalk_loads_of (P := P) (w := w) (base := base) T
  have h_m_Trail___init__K := H_m_Trail___init__K (P := P) (w := w) (base := base) T
  have h_m_Trail_load := H_m_Trail_load (P := P) (w := w) (base := base) T
  exact (ssCons (sSetOk c 3 (kMake c T.mk_Trail h_m_Trail___init__K (by decide) rfl T.g_Trail (aCons (v2 _) aNil)) rfl (.inl rfl) (.inr rfl)) (ssCons (sXOk (kMeth c [108, 111, 97, 100] rfl T.cl_Trail T.me_Trail_load h_m_Trail_load (by decide) (v3 _) (aCons (kMeth c [108, 111, 97, 100, 115, 95, 111, 102] rfl T.cl_PartsWalk T.me_PartsWalk_loads_of h_m_PartsWalk_loads_of (by decide) (v0 _) (aCons (v1 _) aNil)) aNil))) (ssCons (sXOk (kMeth c [108, 111, 97, 100] rfl T.cl_Trail T.me_Trail_load h_m_Trail_load (by decide) (v3 _) (aCons (kMeth c [97, 104, 101, 97, 100, 95, 111, 102] rfl T.cl_PartsWalk T.me_PartsWalk_ahead_of h_m_PartsWalk_ahead_of (by decide) (v0 _) (aCons (v1 _) aNil)) aNil))) (ssCons (sXOk (kMeth c [98, 101, 103, 105, 110] rfl T.cl_PartsWalk T.me_PartsWalk_begin h_m_PartsWalk_begin (by decide) (v0 _) (aCons (v3 _) (aCons (v1 _) aNil)))) (ssOne (sRetOk (kTup (aCons (kTuple rfl T.fr_tuple (kFld [116, 114, 97, 99, 101] rfl T.cl_Trail T.na_Trail_trace (v3 _))) (aCons (kFld [102, 97, 117, 108, 116] rfl T.cl_Trail T.na_Trail_fault (v3 _)) aNil)))))))))
theorem sc_l_due : FnScope ["_law_parts_here", "_law_root", "_law_value", "_law_names", "_law_third", "_law_second", "_law_found", "_law_name_here", "_law_rows", "_law_k"] ["_law_parts_here", "_law_root", "_law_value"] (defScope (top 23)) := ⟨rfl, rfl, rfl, by decide +kernel, rfl, by decide +kernel, by decide +kernel⟩
theorem H_l_due (T : Tx K mg) : FnB P w K mg base (XC K) (OC K) 1 "_law_due" ["_law_parts_here", "_law_root", "_law_value"] l_due := by
  obtain ⟨fd, F⟩ := T.d__law_due
  refine fnF (k := 0) (N := ["_law_parts_here", "_law_root", "_law_value", "_law_names", "_law_third", "_law_second", "_law_found", "_law_name_here", "_law_rows", "_law_k"]) T.g__law_due F (fun _ _ _ _ _ _ us hl => match us, hl with | [_, _, _], _ => rfl) sc_l_due (by decide) fun cdv A outer s H E c => ?_
  have v0 := fun pos => kVar (z := zOf P w K mg base (XC K) (OC K) ["_law_parts_here", "_law_root", "_law_value", "_law_names", "_law_third", "_law_second", "_law_found", "_law_name_here", "_law_rows", "_law_k"] "_law_due" (defScope (top 23)) (He.ga K "_law_due") cdv A outer s H E) 0 (x := "_law_parts_here") rfl (.inr (.inl rfl)) (by decide) (by decide) pos
  have v1 := fun pos => kVar (z := zOf P w K mg base (XC K) (OC K) ["_law_parts_here", "_law_root", "_law_value", "_law_names", "_law_third", "_law_second", "_law_found", "_law_name_here", "_law_rows", "_law_k"] "_law_due" (defScope (top 23)) (He.ga K "_law_due") cdv A outer s H E) 1 (x := "_law_root") rfl (.inl rfl) (by decide) (by decide) pos
  have v2 := fun pos => kVar (z := zOf P w K mg base (XC K) (OC K) ["_law_parts_here", "_law_root", "_law_value", "_law_names", "_law_third", "_law_second", "_law_found", "_law_name_here", "_law_rows", "_law_k"] "_law_due" (defScope (top 23)) (He.ga K "_law_due") cdv A outer s H E) 2 (x := "_law_value") rfl (.inl rfl) (by decide) (by decide) pos
  have v3 := fun pos => kVar (z := zOf P w K mg base (XC K) (OC K) ["_law_parts_here", "_law_root", "_law_value", "_law_names", "_law_third", "_law_second", "_law_found", "_law_name_here", "_law_rows", "_law_k"] "_law_due" (defScope (top 23)) (He.ga K "_law_due") cdv A outer s H E) 3 (x := "_law_names") rfl (.inr (.inl rfl)) (by decide) (by decide) pos
  have v4 := fun pos => kVar (z := zOf P w K mg base (XC K) (OC K) ["_law_parts_here", "_law_root", "_law_value", "_law_names", "_law_third", "_law_second", "_law_found", "_law_name_here", "_law_rows", "_law_k"] "_law_due" (defScope (top 23)) (He.ga K "_law_due") cdv A outer s H E) 4 (x := "_law_third") rfl (.inl rfl) (by decide) (by decide) pos
  have v5 := fun pos => kVar (z := zOf P w K mg base (XC K) (OC K) ["_law_parts_here", "_law_root", "_law_value", "_law_names", "_law_third", "_law_second", "_law_found", "_law_name_here", "_law_rows", "_law_k"] "_law_due" (defScope (top 23)) (He.ga K "_law_due") cdv A outer s H E) 5 (x := "_law_second") rfl (.inl rfl) (by decide) (by decide) pos
  have v6 := fun pos => kVar (z := zOf P w K mg base (XC K) (OC K) ["_law_parts_here", "_law_root", "_law_value", "_law_names", "_law_third", "_law_second", "_law_found", "_law_name_here", "_law_rows", "_law_k"] "_law_due" (defScope (top 23)) (He.ga K "_law_due") cdv A outer s H E) 6 (x := "_law_found") rfl (.inl rfl) (by decide) (by decide) pos
  exact (ssCons (sSetOk c 3 (kComp (own := [("_law_name_here", 7), ("_law_rows", 8)]) c (iSeqOk (v0 _)) { blk := blkOk_by (N := ["_law_parts_here", "_law_root", "_law_value", "_law_names", "_law_third", "_law_second", "_law_found", "_law_name_here", "_law_rows", "_law_k"]) (sc := defScope (top 23)) (by decide +kernel), g := ⟨_, gw_tup (is := [7, 8]) rfl (by decide), fun _ _ _ _ _ => pg_tup c.calm (pgs_cons (pg_name c.nd rfl (.inl rfl) (.inr rfl)) (pgs_cons (pg_name c.nd rfl (.inl rfl) (.inr rfl)) pgs_nil))⟩, t := ⟨_, st_yes, fun _ _ _ _ _ => pts_nil⟩, e := fun _ _ _ _ _ => (kVar 7 rfl (.inl rfl) (by decide) (by decide) _) }) rfl (.inr rfl) (.inl rfl)) (ssCons (sSetOk c 4 (kLst aNil) rfl (.inl rfl) (.inr rfl)) (ssCons (sIfOk (B.tEq c (kLen rfl T.fr_len (v0 _)) kInt) (ssOne (sComp (own := [("_law_k", 9)]) 4 c (iR1Ok rfl T.fr_range (kLen rfl T.fr_len (kIx c (kIx c (v0 _) kInt) kInt))) { blk := blkOk_by (N := ["_law_parts_here", "_law_root", "_law_value", "_law_names", "_law_third", "_law_second", "_law_found", "_law_name_here", "_law_rows", "_law_k"]) (sc := defScope (top 23)) (by decide +kernel), g := ⟨_, gw_name (by decide), fun _ _ _ _ _ => pg_name c.nd rfl (.inl rfl) (.inr rfl)⟩, t := ⟨_, st_yes, fun _ _ _ _ _ => pts_nil⟩, e := fun _ _ _ _ _ => (kTup (aCons (kStr [115, 97, 121]) (aCons (kIx (c.blk _ _ _ _ _) (kIx (c.blk _ _ _ _ _) (kIx (c.blk _ _ _ _ _) (kIx (c.blk _ _ _ _ _) (kIx (c.blk _ _ _ _ _) (kIx (c.blk _ _ _ _ _) (kVar 0 rfl (.inr (.inl rfl)) (by decide) (by decide) _) kInt) kInt) (kVar 9 rfl (.inl rfl) (by decide) (by decide) _)) kInt) kInt) kInt) (aCons (kIx (c.blk _ _ _ _ _) (kVar 3 rfl (.inr (.inl rfl)) (by decide) (by decide) _) kInt) (aCons (kVar 9 rfl (.inl rfl) (by decide) (by decide) _) aNil))))) } rfl rfl (sw_true rfl rfl rfl (by decide +kernel)))) ssNil) (ssCons (sIfOk (B.tEq c (v1 _) kInt) (ssOne (sRetOk (kTup (aCons (kTuple rfl T.fr_tuple (v4 _)) (aCons kNon aNil))))) ssNil) (ssCons (sSetOk c 5 (kLst (aCons (kTup (aCons (kStr [116, 97, 107, 101]) (aCons (v2 _) (aCons (kIx c (v3 _) kInt) (aCons kInt aNil))))) (aCons (kTup (aCons (kStr [115, 97, 121]) (aCons kInt (aCons (kIx c (v3 _) kInt) (aCons kInt aNil))))) aNil))) rfl (.inl rfl) (.inr rfl)) (ssCons (sIfOk (B.tEq c (kIx c (kIx c (kIx c (kIx c (v0 _) kInt) kInt) kInt) kInt) (kStr [115, 97, 121])) (ssOne (sSetOk c 5 (kLst (aCons (kTup (aCons (kStr [115, 97, 121]) (aCons kInt (aCons (kIx c (v3 _) kInt) (aCons kInt aNil))))) (aCons (kTup (aCons (kStr [116, 97, 107, 101]) (aCons (v2 _) (aCons (kIx c (v3 _) kInt) (aCons kInt aNil))))) aNil))) rfl (.inl rfl) (.inr rfl))) ssNil) (ssCons (sIfOk (B.tEq c (v1 _) kInt) (ssOne (sRetOk (kTup (aCons (kTuple rfl T.fr_tuple (v5 _)) (aCons kNon aNil))))) ssNil) (ssCons (sSetOk c 6 (kAdd (v5 _) (kLst (aCons (kTup (aCons (kStr [115, 97, 121]) (aCons (kAdd (v2 _) kInt) (aCons (kIx c (v3 _) kInt) (aCons kInt aNil))))) aNil))) rfl (.inl rfl) (.inr rfl)) (ssCons (sIfOk (B.tLe (kAdd (v2 _) kInt) kInt) (ssOne (sRetOk (kTup (aCons (kTuple rfl T.fr_tuple (v6 _)) (aCons (kTup (aCons (kStr [110, 101, 101, 100]) (aCons (kIx c (v3 _) kInt) (aCons kInt (aCons kInt aNil))))) aNil))))) ssNil) (ssCons (sIfOk (B.tGt (v2 _) kInt) (ssOne (sSetOk c 6 (kAdd (v6 _) (v4 _)) rfl (.inl rfl) (.inr rfl))) ssNil) (ssOne (sRetOk (kTup (aCons (kTuple rfl T.fr_tuple (kAdd (v6 _) (kLst (aCons (kTup (aCons (kStr [115, 97, 121]) (aCons (v2 _) (aCons (kIx c (v3 _) kInt) (aCons (kSub (kLen rfl T.fr_len (kIx c (kIx c (v0 _) kInt) kInt)) kInt) aNil))))) aNil)))) (aCons kNon aNil)))))))))))))))
theorem sc_l_gone : FnScope ["_law_walk", "_law_parts_here", "_law_root", "_law_numbers", "_law_found", "_law_value", "_law_deed"] ["_law_walk", "_law_parts_here", "_law_root", "_law_numbers"] (defScope (top 24)) := ⟨rfl, rfl, rfl, by decide +kernel, rfl, by decide +kernel, by decide +kernel⟩
theorem H_l_gone (T : Tx K mg) : FnB P w K mg base (XC K) (OC K) 69 "_law_gone" ["_law_walk", "_law_parts_here", "_law_root", "_law_numbers"] l_gone := by
  obtain ⟨fd, F⟩ := T.d__law_gone
  refine fnF (k := 68) (N := ["_law_walk", "_law_parts_here", "_law_root", "_law_numbers", "_law_found", "_law_value", "_law_deed"]) T.g__law_gone F (fun _ _ _ _ _ _ us hl => match us, hl with | [_, _, _, _], _ => rfl) sc_l_gone (by decide) fun cdv A outer s H E c => ?_
  have v0 := fun pos => kVar (z := zOf P w K mg base (XC K) (OC K) ["_law_walk", "_law_parts_here", "_law_root", "_law_numbers", "_law_found", "_law_value", "_law_deed"] "_law_gone" (defScope (top 24)) (He.ga K "_law_gone") cdv A outer s H E) 0 (x := "_law_walk") rfl (.inl rfl) (by decide) (by decide) pos
  have v1 := fun pos => kVar (z := zOf P w K mg base (XC K) (OC K) ["_law_walk", "_law_parts_here", "_law_root", "_law_numbers", "_law_found", "_law_value", "_law_deed"] "_law_gone" (defScope (top 24)) (He.ga K "_law_gone") cdv A outer s H E) 1 (x := "_law_parts_here") rfl (.inl rfl) (by decide) (by decide) pos
  have v2 := fun pos => kVar (z := zOf P w K mg base (XC K) (OC K) ["_law_walk", "_law_parts_here", "_law_root", "_law_numbers", "_law_found", "_law_value", "_law_deed"] "_law_gone" (defScope (top 24)) (He.ga K "_law_gone") cdv A outer s H E) 2 (x := "_law_root") rfl (.inl rfl) (by decide) (by decide) pos
  have v3 := fun pos => kVar (z := zOf P w K mg base (XC K) (OC K) ["_law_walk", "_law_parts_here", "_law_root", "_law_numbers", "_law_found", "_law_value", "_law_deed"] "_law_gone" (defScope (top 24)) (He.ga K "_law_gone") cdv A outer s H E) 3 (x := "_law_numbers") rfl (.inl rfl) (by decide) (by decide) pos
  have v4 := fun pos => kVar (z := zOf P w K mg base (XC K) (OC K) ["_law_walk", "_law_parts_here", "_law_root", "_law_numbers", "_law_found", "_law_value", "_law_deed"] "_law_gone" (defScope (top 24)) (He.ga K "_law_gone") cdv A outer s H E) 4 (x := "_law_found") rfl (.inl rfl) (by decide) (by decide) pos
  have v5 := fun pos => kVar (z := zOf P w K mg base (XC K) (OC K) ["_law_walk", "_law_parts_here", "_law_root", "_law_numbers", "_law_found", "_law_value", "_law_deed"] "_law_gone" (defScope (top 24)) (He.ga K "_law_gone") cdv A outer s H E) 5 (x := "_law_value") rfl (.inl rfl) (by decide) (by decide) pos
  have v6 := fun pos => kVar (z := zOf P w K mg base (XC K) (OC K) ["_law_walk", "_law_parts_here", "_law_root", "_law_numbers", "_law_found", "_law_value", "_law_deed"] "_law_gone" (defScope (top 24)) (He.ga K "_law_gone") cdv A outer s H E) 6 (x := "_law_deed") rfl (.inl rfl) (by decide) (by decide) pos
  have w6 := fun pos => gNameOk c 6 (x := "_law_deed") rfl (.inl rfl) (.inr rfl) pos
  have h_m_PartsWalk_go := H_m_PartsWalk_go (P := P) (w := w) (base := base) T
  have h_l_due := H_l_due (P := P) (w := w) (base := base) T
  have h_l_whole := H_l_whole (P := P) (w := w) (base := base) T
  exact (ssCons (sSetOk c 4 (kMeth c [103, 111] rfl T.cl_PartsWalk T.me_PartsWalk_go h_m_PartsWalk_go (by decide) (v0 _) (aCons (kIx c (kIx c (v1 _) (v2 _)) kInt) (aCons (kTuple rfl T.fr_tuple (v3 _)) aNil))) rfl (.inl rfl) (.inr rfl)) (ssCons (sSetOk c 5 (kIx c (kAdd (v3 _) (kLst (aCons kInt aNil))) kInt) rfl (.inl rfl) (.inr rfl)) (ssCons (sIfOk (tW (wOr (tNotT (tVal (kIsI .tuple rfl rfl T.fr_isinstance rfl T.fr_tuple (v4 _)))) (wOr (B.tNe c (kLen rfl T.fr_len (v4 _)) kInt) (wOr1 (tNotT (tVal (kIsI .tuple rfl rfl T.fr_isinstance rfl T.fr_tuple (kIx c (v4 _) kInt)))))))) (ssOne (sRetOk kBl)) ssNil) (ssCons (sForOk c (iSeqOk (kIx c (v4 _) kInt)) (w6 _) (ssKill [6] (ssOne (sIfOk (tW (wOr (tNotT (tVal (kIsI .tuple rfl rfl T.fr_isinstance rfl T.fr_tuple (v6 _)))) (wOr (B.tNe c (kLen rfl T.fr_len (v6 _)) kInt) (wOr (tNotT (tVal (kCall wP c h_l_whole (by decide) rfl (aCons (kIx c (v6 _) kInt) aNil)))) (wOr1 (tNotT (tVal (kCall wP c h_l_whole (by decide) rfl (aCons (kIx c (v6 _) kInt) aNil))))))))) (ssOne (sRetOk kBl)) ssNil)))) (ssCons (sIfOk (tW (wAnd (B.tNotN (kIx c (v4 _) kInt)) (wAnd1 (tW (wOr (tNotT (tVal (kIsI .tuple rfl rfl T.fr_isinstance rfl T.fr_tuple (kIx c (v4 _) kInt)))) (wOr1 (tNotT (tVal (kCall wP c h_l_whole (by decide) rfl (aCons (kIx c (kIx c (v4 _) kInt) kInt) aNil)))))))))) (ssOne (sRetOk kBl)) ssNil) (ssOne (sRetOk (kEq c (v4 _) (kCall wP c h_l_due (by decide) rfl (aCons (v1 _) (aCons (v2 _) (aCons (v5 _) aNil))))))))))))
theorem sc_law_ : FnScope ["_law_script", "_law_parts_here", "_law_less", "_law_numbers", "_law_walk", "_law_other", "_law_root", "_law_some"] ["_law_script"] (defScope (top 27)) := ⟨rfl, rfl, rfl, by decide +kernel, rfl, by decide +kernel, by decide +kernel⟩
theorem H_law_ (T : Tx K mg) : FnB P w K mg base (XC K) (OC K) 70 "law" ["_law_script"] law_ := by
  obtain ⟨fd, F⟩ := T.d_law
  refine fnF (k := 69) (N := ["_law_script", "_law_parts_here", "_law_less", "_law_numbers", "_law_walk", "_law_other", "_law_root", "_law_some"]) T.g_law F (fun _ _ _ _ _ _ us hl => match us, hl with | [_], _ => rfl) sc_law_ (by decide) fun cdv A outer s H E c => ?_
  have v0 := fun pos => kVar (z := zOf P w K mg base (XC K) (OC K) ["_law_script", "_law_parts_here", "_law_less", "_law_numbers", "_law_walk", "_law_other", "_law_root", "_law_some"] "law" (defScope (top 27)) (He.ga K "law") cdv A outer s H E) 0 (x := "_law_script") rfl (.inl rfl) (by decide) (by decide) pos
  have v1 := fun pos => kVar (z := zOf P w K mg base (XC K) (OC K) ["_law_script", "_law_parts_here", "_law_less", "_law_numbers", "_law_walk", "_law_other", "_law_root", "_law_some"] "law" (defScope (top 27)) (He.ga K "law") cdv A outer s H E) 1 (x := "_law_parts_here") rfl (.inl rfl) (by decide) (by decide) pos
  have v2 := fun pos => kVar (z := zOf P w K mg base (XC K) (OC K) ["_law_script", "_law_parts_here", "_law_less", "_law_numbers", "_law_walk", "_law_other", "_law_root", "_law_some"] "law" (defScope (top 27)) (He.ga K "law") cdv A outer s H E) 2 (x := "_law_less") rfl (.inl rfl) (by decide) (by decide) pos
  have v3 := fun pos => kVar (z := zOf P w K mg base (XC K) (OC K) ["_law_script", "_law_parts_here", "_law_less", "_law_numbers", "_law_walk", "_law_other", "_law_root", "_law_some"] "law" (defScope (top 27)) (He.ga K "law") cdv A outer s H E) 3 (x := "_law_numbers") rfl (.inl rfl) (by decide) (by decide) pos
  have v4 := fun pos => kVar (z := zOf P w K mg base (XC K) (OC K) ["_law_script", "_law_parts_here", "_law_less", "_law_numbers", "_law_walk", "_law_other", "_law_root", "_law_some"] "law" (defScope (top 27)) (He.ga K "law") cdv A outer s H E) 4 (x := "_law_walk") rfl (.inl rfl) (by decide) (by decide) pos
  have v5 := fun pos => kVar (z := zOf P w K mg base (XC K) (OC K) ["_law_script", "_law_parts_here", "_law_less", "_law_numbers", "_law_walk", "_law_other", "_law_root", "_law_some"] "law" (defScope (top 27)) (He.ga K "law") cdv A outer s H E) 5 (x := "_law_other") rfl (.inl rfl) (by decide) (by decide) pos
  have v6 := fun pos => kVar (z := zOf P w K mg base (XC K) (OC K) ["_law_script", "_law_parts_here", "_law_less", "_law_numbers", "_law_walk", "_law_other", "_law_root", "_law_some"] "law" (defScope (top 27)) (He.ga K "law") cdv A outer s H E) 6 (x := "_law_root") rfl (.inl rfl) (by decide) (by decide) pos
  have v7 := fun pos => kVar (z := zOf P w K mg base (XC K) (OC K) ["_law_script", "_law_parts_here", "_law_less", "_law_numbers", "_law_walk", "_law_other", "_law_root", "_law_some"] "law" (defScope (top 27)) (He.ga K "law") cdv A outer s H E) 7 (x := "_law_some") rfl (.inl rfl) (by decide) (by decide) pos
  have w7 := fun pos => gNameOk c 7 (x := "_law_some") rfl (.inl rfl) (.inr rfl) pos
  have h_m_PartsWalk___init__K := H_m_PartsWalk___init__K (P := P) (w := w) (base := base) T
  have h_l_bare := H_l_bare (P := P) (w := w) (base := base) T
  have h_l_cell_at := H_l_cell_at (P := P) (w := w) (base := base) T
  have h_l_gone := H_l_gone (P := P) (w := w) (base := base) T
  have h_l_number := H_l_number (P := P) (w := w) (base := base) T
  have h_l_parts := H_l_parts (P := P) (w := w) (base := base) T
  have h_l_told := H_l_told (P := P) (w := w) (base := base) T
  exact (ssCons (sSetOk c 1 (kCall wP c h_l_parts (by decide) rfl (aCons (v0 _) aNil)) rfl (.inl rfl) (.inr rfl)) (ssCons (sSetOk c 2 (kLst (aCons (kTup (aCons (kIx c (kIx c (v1 _) kInt) kInt) (aCons (kAdd (kSl (kIx c (kIx c (v1 _) kInt) kInt) oNone (oSome kInt)) (kSl (kIx c (kIx c (v1 _) kInt) kInt) (oSome kInt) oNone)) aNil))) (aCons (kIx c (v1 _) kInt) aNil))) rfl (.inl rfl) (.inr rfl)) (ssCons (sSetOk c 3 (kLst (aCons (kCall wP c h_l_number (by decide) rfl (aCons (kCall wP c h_l_cell_at (by decide) rfl (aCons (v0 _) (aCons kInt aNil))) aNil)) (aCons (kCall wP c h_l_number (by decide) rfl (aCons (kCall wP c h_l_cell_at (by decide) rfl (aCons (v0 _) (aCons kInt aNil))) aNil)) aNil))) rfl (.inl rfl) (.inr rfl)) (ssCons (sSetOk c 4 (kMake c T.mk_PartsWalk h_m_PartsWalk___init__K (by decide) rfl T.g_PartsWalk (aCons (kTuple rfl T.fr_tuple (v1 _)) aNil)) rfl (.inl rfl) (.inr rfl)) (ssCons (sSetOk c 5 (kMake c T.mk_PartsWalk h_m_PartsWalk___init__K (by decide) rfl T.g_PartsWalk (aCons (kTuple rfl T.fr_tuple (v2 _)) aNil)) rfl (.inl rfl) (.inr rfl)) (ssCons (sSetOk c 6 (kMod (kDiv (kCall wP c h_l_cell_at (by decide) rfl (aCons (v0 _) (aCons kInt aNil))) kInt) kInt) rfl (.inl rfl) (.inr rfl)) (ssCons (sForOk c (iSeqOk (kLst (aCons (v3 _) (aCons (kLst aNil) (aCons (kLstRvD c rfl T.fr_list rfl T.fr_reversed (v3 _)) (aCons (v3 _) aNil)))))) (w7 _) (ssKill [7] (ssCons (sIfOk (tW (wOr (tNotT (tVal (kCall wM c h_l_gone (by decide) rfl (aCons (v4 _) (aCons (v1 _) (aCons (v6 _) (aCons (v7 _) aNil))))))) (wOr1 (tNotT (tVal (kCall wM c h_l_gone (by decide) rfl (aCons (v5 _) (aCons (v2 _) (aCons (kMod (v6 _) kInt) (aCons (v7 _) aNil)))))))))) (ssOne (sRetOk kBl)) ssNil) (ssOne (sIfOk (tW (wOr (tNotT (tVal (kCall wM c h_l_gone (by decide) rfl (aCons (v4 _) (aCons (v1 _) (aCons kInt (aCons (v7 _) aNil))))))) (wOr1 (tNotT (tVal (kCall wM c h_l_told (by decide) rfl (aCons (v5 _) (aCons (v2 _) aNil)))))))) (ssOne (sRetOk kBl)) ssNil))))) (ssOne (sRetOk (kAnd (kCall wM c h_l_told (by decide) rfl (aCons (v4 _) (aCons (v1 _) aNil))) (kOne (kCall wP c h_l_bare (by decide) rfl (aCons (v1 _) (aCons (v3 _) aNil))))))))))))))
end
end Rw_bundlehouse_k26_walks
open PySem PySem.W PySem.Calls PyProof.Rows
set_option maxRecDepth 100000 in
set_option maxHeartbeats 8000000 in
theorem PySem.Challenge.cw_bundlehouse_k26_walks_holds : PySem.Challenge.rw_bundlehouse_k26_walks.Holds := by
  w_on; o_law
  refine HandSHeadRun.head_any (r := OpenLaw.row PySem.Challenge.rw_bundlehouse_k26_walks) (q := view (OpenLaw.row PySem.Challenge.rw_bundlehouse_k26_walks).prog [27]) (H := Rw_bundlehouse_k26_walks.hk) (ob := Rw_bundlehouse_k26_walks.ob) (M := 6000) (loose := Rw_bundlehouse_k26_walks.names) (d := HandSHeadRun.topDef (OpenLaw.row PySem.Challenge.rw_bundlehouse_k26_walks).prog 27) (kwd := []) Rw_bundlehouse_k26_walks.ob_eq
    (by kernel_rfl) (fun s => by kernel_rfl) Rw_bundlehouse_k26_walks.run (by kernel_rfl) (by kernel_rfl) (by kernel_rfl) (by rfl) (by first | assumption | decide +kernel) (by decide +kernel) ⟨rfl, rfl, rfl, rfl, rfl, by decide +kernel⟩ ?hw ?hc
  case hw => w_witness2
  case hc =>
    refine L2.walk_ofE (l := PySem.Challenge.rw_bundlehouse_k26_walks) (n := 63) (k := 70) (x := "_law_script") (CX := L2.CX0) rfl (by decide) (by kernel_rfl) ⟨rfl, by decide, by decide⟩ ?F (fun _ _ _ _ z => z)
    intro w mg fa h Y G hmg0
    obtain ⟨K, KX, c⟩ := Y
    have hmg : mg ("law" : PySem.Str) = some (.ref fa) := by
      have e : (HandSHeadRun.topDef (OpenLaw.row PySem.Challenge.rw_bundlehouse_k26_walks).prog 27).name = ("law" : PySem.Str) := by kernel_rfl
      rw [← e]
      exact hmg0
    exact B.law_endO Rw_bundlehouse_k26_walks.XC Rw_bundlehouse_k26_walks.OC KX G hmg c Rw_bundlehouse_k26_walks.tx_of (fun T => T.d_law) (fun T => T.g_law) (fun _ _ _ _ _ _ us hl => match us, hl with | [_], _ => rfl) (fun T base => Rw_bundlehouse_k26_walks.H_law_ (base := base) T) B.law_true
