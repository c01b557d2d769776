import PyProof.Rows.All
import Wide.All
import OpenK.AllK
import Wide.FinOn
import HandS.ForMost
import HandS.Flow
import HandS.More
import HandS.Words
import HandS.Codes
import PySem.Challenge.RW_settledpages_k50_widths_of_signs_and_edg
set_option Elab.async false
set_option linter.all false
set_option maxRecDepth 100000
set_option maxHeartbeats 16000000
/-! A small interpreter of Python's functional part: values are trees; a list is owned by one local name, or frozen. -/
namespace MP
open PySem PySem.Spec L2

/-- a value as a tree; frz: a list that another one holds locked (the script); kdt: a dict of the module, its keys texts -/
inductive D where
  | non | bl (b : Bool) | int (i : Int) | str (s : List Nat)
  | tup (xs : List D) | lst (xs : List D) | frz (xs : List D) | dct (ks : List Key) (vs : List D) | kdt (ks : List Key) (vs : List D)
  deriving Inhabited

/-- what a local name holds -/
inductive SV where
  | no | val (d : D) | own (xs : List D)
  deriving Inhabited
abbrev Env := List SV
/-- what an expression hands back: a frozen value, a new list, the owned list of a name -/
inductive R where
  | d (d : D) | fresh (xs : List D) | slot (i : Nat)
  deriving Inhabited
/-- an argument: a frozen value, an owned list that the callee may change -/
inductive Ag where
  | d (d : D) | m (xs : List D)
  deriving Inhabited

abbrev M (α : Type) := Env → Option (α × Env)
def M.ret {α : Type} (a : α) : M α := fun e => some (a, e)
def M.bd {α β : Type} (m : M α) (f : α → M β) : M β := fun e => match m e with
  | none => none
  | some p => f p.1 p.2

def sv : Env → Nat → SV
  | [], _ => .no
  | x :: _, 0 => x
  | _ :: r, n + 1 => sv r n
def st : Env → Nat → SV → Env
  | [], _, _ => []
  | _ :: r, 0, y => y :: r
  | x :: r, n + 1, y => x :: st r n y

def LIM : Nat := 16777216

/-- the value now -/
def look (e : Env) : R → Option D
  | .d d => some d
  | .fresh xs => some (.lst xs)
  | .slot i => match sv e i with
    | .own xs => some (.lst xs)
    | .val d => some d
    | .no => none
/-- frozen, wherever it lay -/
def cap : R → M D
  | .d d => M.ret d
  | .fresh xs => M.ret (.lst xs)
  | .slot i => fun e => match sv e i with
    | .own xs => some (.lst xs, st e i (.val (.lst xs)))
    | .val d => some (d, e)
    | .no => none
/-- a new list that nothing holds is frozen -/
def unf : R → R
  | .fresh xs => .d (.lst xs)
  | r => r

def keyOf : D → Option Key
  | .int i => some (.inl i)
  | .str s => some (.inr ⟨s.toArray⟩)
  | _ => none
def kget : List Key → List D → Key → Option D
  | k :: ks, d :: ds, x => if x = k then some d else kget ks ds x
  | _, _, _ => none

/-- a value's truth -/
def tru : D → Option Bool
  | .non => some false
  | .bl b => some b
  | .int i => some (i != 0)
  | .str s => if s.length ≤ LIM then some (!s.isEmpty) else none
  | .tup xs => some (!xs.isEmpty)
  | .lst xs => some (!xs.isEmpty)
  | _ => none

/-! ### == -/
mutual
def toPy : D → PyData
  | .non => .none
  | .bl b => .bool b
  | .int i => .int i
  | .str s => .str ⟨s.toArray⟩
  | .tup xs => .tuple (toPys xs)
  | .lst xs => .list (toPys xs)
  | .frz xs => .list (toPys xs)
  | .dct _ _ => .dict []
  | .kdt _ _ => .dict []
def toPys : List D → List PyData
  | [] => []
  | x :: xs => toPy x :: toPys xs
end
mutual
def dep : D → Option Nat
  | .non => some 0
  | .bl _ => some 0
  | .int _ => some 0
  | .str s => if s.all (· < 0x110000) then some 0 else none
  | .tup xs => (deps xs).map (· + 1)
  | .lst xs => (deps xs).map (· + 1)
  | .frz _ => none
  | .dct _ _ => none
  | .kdt _ _ => none
def deps : List D → Option Nat
  | [] => some 0
  | x :: xs => match dep x, deps xs with
    | some a, some b => some (max a b)
    | _, _ => none
end
mutual
def eqB : D → D → Bool
  | .non, .non => true
  | .bl a, .bl b => a == b
  | .bl a, .int j => (if a then 1 else 0) == j
  | .int i, .bl b => i == (if b then 1 else 0)
  | .int i, .int j => i == j
  | .str x, .str y => x == y
  | .lst xs, .lst ys => eqBs xs ys
  | .tup xs, .tup ys => eqBs xs ys
  | _, _ => false
def eqBs : List D → List D → Bool
  | [], [] => true
  | x :: xs, y :: ys => eqB x y && eqBs xs ys
  | _, _ => false
end
def okE (d : D) : Bool := match dep d with
  | some n => n ≤ 64
  | none => false
def scalD : D → D → Bool
  | .non, .non => true | .non, .int _ => true | .int _, .non => true | .non, .bl _ => true | .bl _, .non => true | .non, .str _ => true | .str _, .non => true
  | .int _, .int _ => true | .bl _, .bl _ => true | .str _, .str _ => true
  | .int _, .str _ => true | .str _, .int _ => true | .bl _, .str _ => true | .str _, .bl _ => true
  | _, _ => false
def eqD (a b : D) : Option Bool := if scalD a b then some (eqB a b) else if okE a && okE b then some (eqB a b) else none

def flatD : D → Bool
  | .non => true
  | .bl _ => true
  | .int _ => true
  | .str _ => true
  | _ => false
/-- x in xs, flat things -/
def inF (x : D) (xs : List D) : Option Bool := if flatD x && xs.all flatD then some (xs.any fun y => eqB y x) else none

/-- does b begin at the first place of a -/
def preB : List Nat → List Nat → Bool
  | [], _ => true
  | _ :: _, [] => false
  | x :: xs, y :: ys => x == y && preB xs ys
/-- is b within a -/
def subB (b : List Nat) : List Nat → Bool
  | [] => b.isEmpty
  | y :: ys => preB b (y :: ys) || subB b ys

def ltL : List Nat → List Nat → Bool
  | [], [] => false
  | [], _ :: _ => true
  | _ :: _, [] => false
  | x :: xs, y :: ys => if x < y then true else if y < x then false else ltL xs ys

def ordD (f : Int → Int → Bool) : D → D → Option Bool
  | .int i, .int j => some (f i j)
  | _, _ => none
def inD : D → D → Option Bool
  | .str a, .str b => some (subB a b)
  | x, .lst xs => inF x xs
  | x, .tup xs => inF x xs
  | _, _ => none
def isD (a : D) : D → Option Bool
  | .non => some (match a with | .non => true | _ => false)
  | _ => none
def cmpD : CmpOp → D → D → Option Bool
  | .Eq, a, b => eqD a b
  | .NotEq, a, b => (eqD a b).map (!·)
  | .Lt, a, b => ordD (fun i j => decide (i < j)) a b
  | .LtE, a, b => ordD (fun i j => decide (i ≤ j)) a b
  | .Gt, a, b => ordD (fun i j => decide (j < i)) a b
  | .GtE, a, b => ordD (fun i j => decide (j ≤ i)) a b
  | .In, a, b => inD a b
  | .NotIn, a, b => (inD a b).map (!·)
  | .Is, a, b => isD a b
  | .IsNot, a, b => (isD a b).map (!·)

def big64 (i : Int) : Bool := Nat.ble i.natAbs 18446744073709551615
def binD : Operator → D → D → Option R
  | .Add, .int i, .int j => some (.d (.int (i + j)))
  | .Add, .str a, .str b => if a.length + b.length ≤ LIM then some (.d (.str (a ++ b))) else none
  | .Add, .lst a, .lst b => if a.length + b.length ≤ LIM then some (.fresh (a ++ b)) else none
  | .Sub, .int i, .int j => some (.d (.int (i - j)))
  | .Mult, .int i, .int j => if big64 i || big64 j then some (.d (.int (i * j))) else none
  | .FloorDiv, .int i, .int j => if decide (0 < j) && Nat.ble j.toNat 1073741823 then some (.d (.int (i / j))) else none
  | .Mod, .int i, .int j => if 0 < j then some (.d (.int (i % j))) else none
  | .Pow, .int i, .int j => if decide (0 ≤ j) && decide (j ≤ 1000000) && decide (i.natAbs < 2 ^ 64) then some (.d (.int (i ^ j.toNat))) else none
  | _, _, _ => none

/-- the item at a place, from the end where it is below nought -/
def atD {α : Type} (xs : List α) (i : Int) : Option α :=
  if 0 ≤ i then xs[i.toNat]? else if 0 ≤ i + xs.length then xs[(i + xs.length).toNat]? else none
def idxD : D → D → Option D
  | .lst xs, .int i => atD xs i
  | .tup xs, .int i => atD xs i
  | .frz xs, .int i => atD xs i
  | .str s, .int i => if s.length ≤ LIM then (atD s i).map fun c => .str [c] else none
  | .dct ks vs, k => match keyOf k with
    | some k => kget ks vs k
    | none => none
  | .kdt ks vs, .str s => kget ks vs (.inr ⟨s.toArray⟩)
  | _, _ => none
/-- the end of a slice, within -/
def sixD (n d : Nat) : Option Int → Nat
  | none => d
  | some v => if v < 0 then (v + n).toNat else min v.toNat n
def cutL {α : Type} (xs : List α) (lo hi : Option Int) : List α :=
  (xs.drop (sixD xs.length 0 lo)).take (sixD xs.length xs.length hi - sixD xs.length 0 lo)
def sliD (lo hi : Option Int) : D → Option R
  | .str s => if s.length ≤ LIM then some (.d (.str (cutL s lo hi))) else none
  | .lst xs => some (.fresh (cutL xs lo hi))
  | _ => none

def intsD : List D → Option (List Int)
  | [] => some []
  | .int i :: r => (intsD r).map (i :: ·)
  | _ => none

/-- built-in functions by values -/
def bltD (f : String) (ds : List D) : Option R :=
  if f = "len" then match ds with
    | [.str s] => if s.length ≤ LIM then some (.d (.int s.length)) else none
    | [.lst xs] => some (.d (.int xs.length))
    | [.tup xs] => some (.d (.int xs.length))
    | [.frz xs] => some (.d (.int xs.length))
    | _ => none
  else if f = "int" then match ds with
    | [.int i] => some (.d (.int i))
    | [.bl b] => some (.d (.int (if b then 1 else 0)))
    | _ => none
  else if f = "sum" then match ds with
    | [.lst xs] => (intsD xs).map fun ns => .d (.int ns.sum)
    | _ => none
  else if f = "list" then match ds with
    | [.lst xs] => some (.fresh xs)
    | [.tup xs] => some (.fresh xs)
    | [.frz xs] => some (.fresh xs)
    | _ => none
  else none

def noLst : D → Bool
  | .lst _ => false
  | _ => true
/-- methods by values -/
def metD (m : String) (o : D) (ds : List D) : Option R :=
  if m = "dict.get" then match o, ds with
    | .dct ks vs, [k, x] => match keyOf k with
      | some k => if noLst x then some (.d ((kget ks vs k).getD x)) else none
      | none => none
    | .kdt ks vs, [.str s, x] => if noLst x then some (.d ((kget ks vs (.inr ⟨s.toArray⟩)).getD x)) else none
    | _, _ => none
  else none

/-! ### the words -/
inductive T where
  | nam (i : Nat) | tup (ts : List T)
mutual
inductive E where
  | var (i : Nat) | cst (d : D) | glo (x : Str)
  | bin (op : Operator) (a b : E) | neg (a : E) | not (a : E)
  | cmp (op : CmpOp) (a b : E) | chn (op op' : CmpOp) (a b c : E)
  | and (es : List E) | or (es : List E) | ite (t a b : E)
  | lst (es : List E) | tup (es : List E)
  | idx (a b : E) | sli (a : E) (lo hi : Option E)
  | cal (f : Str) (ms : List (Option Nat)) (es : List E)
  | blt (f : String) (es : List E)
  | met (m : String) (o : E) (es : List E)
  | lc (own : List (Str × Nat)) (t : T) (it : I) (ifs : List E) (elt : E)
inductive I where
  | seq (e : E) | rng (es : List E) | enm (e : E) | zip (a b : E)
end
inductive S where
  | exp (e : E) | asg (t : T) (e : E) | par (i j : Nat) (a b : E)
  | aug (i : Nat) (op : Operator) (e : E) | sto (x : Nat) (i e : E) | augS (x : Nat) (i : E) (op : Operator) (e : E)
  | app (x : Nat) (e : E)
  | for (t : T) (it : I) (b : List S) | whl (c : E) (b : List S) | ifs (c : E) (a b : List S)
  | ret (e : Option E) | pas | brk | con | nev
/-- how a statement ends -/
inductive O where
  | nx | bk | ct | rt (r : R)

structure Ctx where
  call : Str → List Ag → Option (R × List Ag)
  glob : Str → Option D
  fuel : Nat

def guard (b : Bool) : M Unit := fun e => if b then some ((), e) else none
def lk (r : R) : M D := fun e => match look e r with
  | none => none
  | some d => some (d, e)
def lift {α : Type} (o : Option α) : M α := fun e => match o with
  | none => none
  | some a => some (a, e)

/-! targets -/
mutual
def bindT : T → D → Env → Option Env
  | .nam i, d, e => some (st e i (.val d))
  | .tup ts, .tup ds, e => bindTs ts ds e
  | .tup _, _, _ => none
def bindTs : List T → List D → Env → Option Env
  | [], [], e => some e
  | t :: ts, d :: ds, e => match bindT t d e with
    | none => none
    | some e' => bindTs ts ds e'
  | _, _, _ => none
end
def wipeE : Env → List Nat → Env
  | e, [] => e
  | e, v :: vs => st (wipeE e vs) v .no
/-- slots as they were -/
def backE (e0 : Env) : Env → List Nat → Env
  | e, [] => e
  | e, v :: vs => st (backE e0 e vs) v (sv e0 v)
def notOwn (e : Env) (vs : List Nat) : Bool := vs.all fun v => match sv e v with
  | .own _ => false
  | _ => true
/-- one turn after another of a comprehension -/
def lcGo (vs : List Nat) (t : T) (tst : M Bool) (elt : M D) : List D → M (List D)
  | [], e => some ([], e)
  | x :: xs, e => match bindT t x e with
    | none => none
    | some e1 => match tst e1 with
      | none => none
      | some (b, e2) => if b then match elt e2 with
          | none => none
          | some (y, e3) => match lcGo vs t tst elt xs (wipeE e3 vs) with
            | none => none
            | some (ys, e4) => some (y :: ys, e4)
        else lcGo vs t tst elt xs (wipeE e2 vs)

def rngI (a b : Int) : List D := (List.range (b - a).toNat).map fun (k : Nat) => .int (a + (k : Int))
def okR (i : Int) : Bool := Nat.ble i.natAbs 4611686018427387903
def rngD : List D → Option (List D)
  | [.int b] => if okR b then some (rngI 0 b) else none
  | [.int a, .int b] => if okR a && okR b then some (rngI a b) else none
  | _ => none
def seqD : D → Option (List D)
  | .lst xs => some xs
  | .tup xs => some xs
  | .frz xs => some xs
  | .str s => some (s.map fun c => .str [c])
  | _ => none
def enmGo : Nat → List D → List D
  | _, [] => []
  | i, x :: xs => .tup [.int (i : Int), x] :: enmGo (i + 1) xs
def enmD : D → Option (List D)
  | .lst xs => some (enmGo 0 xs)
  | _ => none
def zipGo : List D → List D → List D
  | x :: xs, y :: ys => .tup [x, y] :: zipGo xs ys
  | _, _ => []
def zipD : D → D → Option (List D)
  | .lst xs, .lst ys => some (zipGo xs ys)
  | _, _ => none

def putOuts : List (Option Nat) → List Ag → Env → Option Env
  | [], [], e => some e
  | none :: ms, _ :: as, e => putOuts ms as e
  | some i :: ms, .m xs :: as, e => putOuts ms as (st e i (.own xs))
  | some i :: ms, .d d :: as, e => putOuts ms as (st e i (.val d))
  | _, _, _ => none

def slotsOf : List (Option Nat) → List Nat
  | [] => []
  | none :: r => slotsOf r
  | some i :: r => i :: slotsOf r

mutual
def evE (c : Ctx) : E → M R
  | .var i => fun e => match sv e i with
    | .no => none
    | .val d => some (.d d, e)
    | .own _ => some (.slot i, e)
  | .cst d => M.ret (.d d)
  | .glo x => fun e => match c.glob x with
    | none => none
    | some d => some (.d d, e)
  | .bin op a b => M.bd (evE c a) fun x => M.bd (evE c b) fun y => M.bd (lk (unf x)) fun dx => M.bd (lk y) fun dy => lift (binD op dx dy)
  | .neg a => M.bd (evE c a) fun x => M.bd (lk x) fun dx => lift (match dx with
    | .int i => some (.d (.int (-i)))
    | _ => none)
  | .not a => M.bd (evE c a) fun x => M.bd (lk x) fun dx => lift ((tru dx).map fun b => .d (.bl (!b)))
  | .cmp op a b => M.bd (evE c a) fun x => M.bd (evE c b) fun y => M.bd (lk (unf x)) fun dx => M.bd (lk y) fun dy => lift ((cmpD op dx dy).map fun b => .d (.bl b))
  | .chn op op' a b d => M.bd (evE c a) fun x => M.bd (evE c b) fun y => M.bd (lk (unf x)) fun dx => M.bd (lk (unf y)) fun dy => M.bd (lift (cmpD op dx dy)) fun k =>
      if k then M.bd (evE c d) fun z => M.bd (lk (unf y)) fun dy => M.bd (lk z) fun dz => lift ((cmpD op' dy dz).map fun b => .d (.bl b)) else M.ret (.d (.bl false))
  | .and es => evAnd c es
  | .or es => evOr c es
  | .ite t a b => M.bd (evT c t) fun k => if k then evE c a else evE c b
  | .lst es => M.bd (evDs c es) fun ds => M.bd (guard (decide (ds.length ≤ LIM))) fun _ => M.ret (.fresh ds)
  | .tup es => M.bd (evDs c es) fun ds => M.bd (guard (decide (ds.length ≤ LIM))) fun _ => M.ret (.d (.tup ds))
  | .idx a b => M.bd (evE c a) fun x => M.bd (evE c b) fun y => M.bd (lk (unf x)) fun dx => M.bd (lk y) fun dy => lift ((idxD dx dy).map fun d => .d d)
  | .sli a lo hi => M.bd (evE c a) fun x => M.bd (evP c lo) fun l => M.bd (evP c hi) fun h => M.bd (lk (unf x)) fun dx => lift (sliD l h dx)
  | .cal f ms es => M.bd (evAs c ms es) fun as => fun e => match c.call f as with
    | none => none
    | some (r, outs) => match putOuts ms outs e with
      | none => none
      | some e' => some (r, e')
  | .blt f es => M.bd (evOs c es) fun rs => M.bd (lks rs) fun ds => lift (bltD f ds)
  | .met m o es => M.bd (evE c o) fun x => M.bd (cap x) fun dx => M.bd (evOs c es) fun rs => M.bd (lks rs) fun ds => lift (metD m dx ds)
  | .lc own t it ifs elt => M.bd (evI c it) fun xs => fun e =>
      if decide (xs.length ≤ LIM) && notOwn e (own.map (·.2)) then
        match lcGo (own.map (·.2)) t (evTs c ifs) (M.bd (evE c elt) cap) xs (wipeE e (own.map (·.2))) with
        | none => none
        | some (ys, e') => some (.fresh ys, backE e e' (own.map (·.2)))
      else none
/-- as a test -/
def evT (c : Ctx) : E → M Bool
  | .not a => M.bd (evT c a) fun b => M.ret (!b)
  | .and es => evTA c es
  | .or es => evTO c es
  | .ite t a b => M.bd (evT c t) fun k => if k then evT c a else evT c b
  | .cmp op a b => M.bd (evE c (.cmp op a b)) fun x => M.bd (lk x) fun dx => lift (match dx with
    | .bl b => some b
    | _ => none)
  | .chn op op' a b d => M.bd (evE c (.chn op op' a b d)) fun x => M.bd (lk x) fun dx => lift (match dx with
    | .bl b => some b
    | _ => none)
  | a => M.bd (evE c a) fun x => M.bd (lk x) fun dx => lift (tru dx)
def evTA (c : Ctx) : List E → M Bool
  | [] => M.ret true
  | a :: r => M.bd (evT c a) fun b => if b then evTA c r else M.ret false
def evTO (c : Ctx) : List E → M Bool
  | [] => M.ret false
  | a :: r => M.bd (evT c a) fun b => if b then M.ret true else evTO c r
/-- a comprehension's tests: none, or one -/
def evTs (c : Ctx) : List E → M Bool
  | [] => M.ret true
  | a :: _ => evT c a
def evAnd (c : Ctx) : List E → M R
  | [] => fun _ => none
  | [a] => evE c a
  | a :: r => M.bd (evE c a) fun x => M.bd (lk (unf x)) fun dx => M.bd (lift (tru dx)) fun k => if k then evAnd c r else M.ret (unf x)
def evOr (c : Ctx) : List E → M R
  | [] => fun _ => none
  | [a] => evE c a
  | a :: r => M.bd (evE c a) fun x => M.bd (lk (unf x)) fun dx => M.bd (lift (tru dx)) fun k => if k then M.ret (unf x) else evOr c r
def evDs (c : Ctx) : List E → M (List D)
  | [] => M.ret []
  | a :: r => M.bd (evE c a) fun x => M.bd (cap x) fun d => M.bd (evDs c r) fun ds => M.ret (d :: ds)
def evOs (c : Ctx) : List E → M (List R)
  | [] => M.ret []
  | a :: r => M.bd (evE c a) fun x => M.bd (evOs c r) fun rs => M.ret (unf x :: rs)
def evAs (c : Ctx) : List (Option Nat) → List E → M (List Ag)
  | [], [] => M.ret []
  | none :: ms, a :: r => M.bd (evE c a) fun x => M.bd (cap x) fun d => M.bd (evAs c ms r) fun as => M.ret (.d d :: as)
  | some i :: ms, _ :: r => fun e0 => match sv e0 i with
    | .own _ => M.bd (evAs c ms r) (fun as => fun e => match sv e i with
      | .own xs => some (.m xs :: as, e)
      | _ => none) e0
    | _ => none
  | _, _ => fun _ => none
def evP (c : Ctx) : Option E → M (Option Int)
  | none => M.ret none
  | some a => M.bd (evE c a) fun x => M.bd (lk x) fun dx => lift (match dx with
    | .int i => some (some i)
    | _ => none)
def evI (c : Ctx) : I → M (List D)
  | .seq a => M.bd (evE c a) fun x => M.bd (cap x) fun d => lift (seqD d)
  | .rng es => M.bd (evOs c es) fun rs => M.bd (lks rs) fun ds => lift (rngD ds)
  | .enm a => M.bd (evE c a) fun x => M.bd (cap x) fun d => lift (enmD d)
  | .zip a b => M.bd (evE c a) fun x => M.bd (cap x) fun d => M.bd (evE c b) fun y => M.bd (cap y) fun d' => lift (zipD d d')
def lks : List R → M (List D)
  | [] => M.ret []
  | r :: rs => M.bd (lk r) fun d => M.bd (lks rs) fun ds => M.ret (d :: ds)
end

/-- a loop over items -/
def forGo (t : T) (body : M O) : List D → M O
  | [], e => some (.nx, e)
  | x :: xs, e => match bindT t x e with
    | none => none
    | some e1 => match body e1 with
      | none => none
      | some (.nx, e2) => forGo t body xs e2
      | some (.ct, e2) => forGo t body xs e2
      | some (.bk, e2) => some (.nx, e2)
      | some (.rt r, e2) => some (.rt r, e2)
def whlGo (tst : M Bool) (body : M O) : Nat → M O
  | 0, _ => none
  | n + 1, e => match tst e with
    | none => none
    | some (false, e1) => some (.nx, e1)
    | some (true, e1) => match body e1 with
      | none => none
      | some (.nx, e2) => whlGo tst body n e2
      | some (.ct, e2) => whlGo tst body n e2
      | some (.bk, e2) => some (.nx, e2)
      | some (.rt r, e2) => some (.rt r, e2)
/-- x's list, changed -/
def onOwn (i : Nat) (f : List D → Option (List D)) : M O := fun e => match sv e i with
  | .own xs => match f xs with
    | some ys => some (.nx, st e i (.own ys))
    | none => none
  | _ => none
/-- read of x's list -/
def onSlot (i : Nat) (f : List D → Option D) : M D := fun e => match sv e i with
  | .own xs => match f xs with
    | some d => some (d, e)
    | none => none
  | _ => none
/-- an int's augmented value -/
def augV (op : Operator) (old dy : D) : Option D := match old with
  | .int i => match binD op (.int i) dy with
    | some (.d d) => some d
    | _ => none
  | _ => none
def setAt {α : Type} (xs : List α) (i : Int) (y : α) : Option (List α) :=
  if 0 ≤ i then (if i.toNat < xs.length then some (xs.set i.toNat y) else none)
  else if 0 ≤ i + xs.length then some (xs.set (i + xs.length).toNat y) else none
def stoR (i : Nat) (r : R) : M O := fun e => match r with
  | .d d => some (.nx, st e i (.val d))
  | .fresh xs => some (.nx, st e i (.own xs))
  | .slot j => match sv e j with
    | .own xs => some (.nx, st (st e j (.val (.lst xs))) i (.val (.lst xs)))
    | .val d => some (.nx, st e i (.val d))
    | .no => none
mutual
def exS (c : Ctx) : S → M O
  | .exp a => M.bd (evE c a) fun _ => M.ret .nx
  | .asg (.nam i) a => M.bd (evE c a) fun x => stoR i x
  | .asg t a => M.bd (evE c a) fun x => M.bd (cap x) fun d => fun e => match bindT t d e with
    | none => none
    | some e' => some (.nx, e')
  | .par i j a b => M.bd (evE c a) fun x => M.bd (evE c b) fun y => fun e => match x, y with
    | .fresh xs, .d d => some (.nx, st (st e i (.own xs)) j (.val d))
    | .d d, .fresh ys => some (.nx, st (st e i (.val d)) j (.own ys))
    | .d d, .d d' => some (.nx, st (st e i (.val d)) j (.val d'))
    | .fresh xs, .fresh ys => some (.nx, st (st e i (.own xs)) j (.own ys))
    | _, _ => none
  | .aug i op a => fun e0 => match sv e0 i with
    | .val d0 => (M.bd (evE c a) fun y => M.bd (lk y) fun dy => M.bd (lift (match d0 with
        | .lst _ => none
        | _ => binD op d0 dy)) fun r => stoR i r) e0
    | _ => none
  | .sto x i a => M.bd (evE c a) fun v => M.bd (cap v) fun d => fun e0 => match sv e0 x with
    | .own _ => M.bd (evE c i) (fun k => M.bd (lk k) fun dk => onOwn x fun xs => match dk with
      | .int k => setAt xs k d
      | _ => none) e0
    | _ => none
  | .augS x i op a => fun e0 => match sv e0 x with
    | .own _ => M.bd (evE c i) (fun k => M.bd (lk k) fun dk => M.bd (onSlot x fun xs => idxD (.lst xs) dk) fun old => M.bd (evE c a) fun y => M.bd (lk y) fun dy => M.bd (lift (augV op old dy)) fun d => onOwn x fun ys => match dk with
      | .int k => setAt ys k d
      | _ => none) e0
    | _ => none
  | .app x a => fun e0 => match sv e0 x with
    | .own _ => M.bd (evE c a) (fun v => M.bd (cap v) fun d => onOwn x fun xs => if xs.length < LIM then some (xs ++ [d]) else none) e0
    | _ => none
  | .for t it b => M.bd (evI c it) fun xs => forGo t (exSs c b) xs
  | .whl t b => whlGo (evT c t) (exSs c b) c.fuel
  | .ifs t a b => M.bd (evT c t) fun k => if k then exSs c a else exSs c b
  | .ret none => M.ret (.rt (.d .non))
  | .ret (some a) => M.bd (evE c a) fun r => M.ret (.rt r)
  | .pas => M.ret .nx
  | .brk => M.ret .bk
  | .con => M.ret .ct
  | .nev => fun _ => none
def exSs (c : Ctx) : List S → M O
  | [], e => some (.nx, e)
  | s :: r, e => match exS c s e with
    | none => none
    | some (.nx, e1) => exSs c r e1
    | some (o, e1) => some (o, e1)
end

/-- a def: its parameters, all its names (parameters first), which parameters may be changed, its body -/
structure Fd where
  name : Str
  ps : List Str
  N : List Str
  mu : List Bool
  body : List S

def startE : List Ag → Env
  | [] => []
  | .d d :: r => .val d :: startE r
  | .m xs :: r => .own xs :: startE r
def pad : Nat → Env
  | 0 => []
  | n + 1 => .no :: pad n
/-- an argument's form is the parameter's -/
def fitsA : List Bool → List Ag → Bool
  | [], [] => true
  | true :: r, .m _ :: as => fitsA r as
  | false :: r, .d _ :: as => fitsA r as
  | _, _ => false
def outsOf : List Bool → Env → Option (List Ag)
  | [], _ => some []
  | _ :: _, [] => none
  | false :: r, _ :: e => (outsOf r e).map (.d .non :: ·)
  | true :: r, .own xs :: e => (outsOf r e).map (.m xs :: ·)
  | true :: r, .val (.lst xs) :: e => (outsOf r e).map (.d (.lst xs) :: ·)
  | true :: _, .val _ :: _ => none
  | true :: _, .no :: _ => none
/-- what is handed back: a new list, or a frozen value -/
def retR (np : Nat) : R → M R
  | .d d => M.ret (.d d)
  | .fresh xs => M.ret (.fresh xs)
  | .slot i => fun e => if i < np then M.bd (cap (.slot i)) (fun d => M.ret (.d d)) e else match sv e i with
    | .own xs => some (.fresh xs, st e i .no)
    | .val d => some (.d d, e)
    | .no => none
def runFd (c : Ctx) (f : Fd) (as : List Ag) : Option (R × List Ag) :=
  if fitsA f.mu as && decide (f.mu.length = f.ps.length) then
    match exSs c f.body (startE as ++ pad (f.N.length - f.ps.length)) with
    | some (.nx, e) => (outsOf f.mu e).map fun o => (.d .non, o)
    | some (.rt r, e) => match retR f.ps.length r e with
      | none => none
      | some (r', e') => (outsOf f.mu e').map fun o => (r', o)
    | _ => none
  else none

structure Prog where
  defs : List Fd
  globs : List (Str × D)
  fuel : Nat
def findFd (x : Str) : List Fd → Option Fd
  | [] => none
  | f :: r => if x = f.name then some f else findFd x r
def findG (x : Str) : List (Str × D) → Option D
  | [] => none
  | p :: r => if x = p.1 then some p.2 else findG x r
def Prog.call (p : Prog) : Nat → Str → List Ag → Option (R × List Ag)
  | 0, _, _ => none
  | k + 1, x, as => match findFd x p.defs with
    | none => none
    | some f => runFd ⟨p.call k, fun y => findG y p.globs, p.fuel⟩ f as
def Prog.ctx (p : Prog) (k : Nat) : Ctx := ⟨p.call k, fun y => findG y p.globs, p.fuel⟩
end MP

/-! The interpreter's soundness: what a value is on the heap; the frame's agreement. -/
namespace MP
open PySem PySem.Spec L2

def mkS (l : List Nat) : Str := ⟨l.toArray⟩
theorem mkS_len (l : List Nat) : (mkS l).length = l.length := by show l.toArray.size = _; simp
theorem mkS_list (l : List Nat) : (mkS l).cps.toList = l := by show l.toArray.toList = _; simp
theorem LIM_eq : LIM = sizeLine := by rw [sizeLine_eq]; rfl

/-- the entries of a dict of the written part -/
inductive EntOk (P : Params) : List Key → List V → List DictEntry → Prop
  | nil : EntOk P [] [] []
  | cons {x : Str} {t : Tok} {v : V} {e : DictEntry} {ks : List Key} {vs : List V} {es : List DictEntry} : e.key = .str x t → e.hash = PyData.keyHash P x → RelV v e.val → EntOk P ks vs es → EntOk P (.inr x :: ks) (v :: vs) (e :: es)

mutual
/-- the value v is the tree d, by the heap H -/
def Is (K : PySem.W.Frag) (P : Params) (H : Hp) : D → V → Prop
  | .non, v => v = .non
  | .bl b, v => v = .bl b
  | .int i, v => v = .int i
  | .str s, v => v = .str (mkS s)
  | .tup ds, v => ∃ a vs, v = .ref a ∧ SqT K H a vs ∧ IsL K P H ds vs
  | .lst ds, v => ∃ a vs, v = .ref a ∧ H a = some (.lst vs) ∧ IsL K P H ds vs
  | .frz ds, v => ∃ a vs, v = .ref a ∧ SqL K H a vs ∧ IsL K P H ds vs
  | .dct ks ds, v => ∃ a vs, v = .ref a ∧ IsL K P H ds vs ∧ ks.length = vs.length ∧ H a = some (.dK (ks.zip vs))
  | .kdt ks ds, v => ∃ a vs, v = .ref a ∧ IsL K P H ds vs ∧ ks.length = vs.length ∧ ∃ es n, K.lookup a = some ⟨.type "dict", none, .dict es n, #[]⟩ ∧ (a == sysModules) = false ∧ EntOk P ks vs es.toList
def IsL (K : PySem.W.Frag) (P : Params) (H : Hp) : List D → List V → Prop
  | [], vs => vs = []
  | d :: ds, vs => ∃ v r, vs = v :: r ∧ Is K P H d v ∧ IsL K P H ds r
end

section
variable {K : PySem.W.Frag} {P : Params} {G H H' : Hp}
theorem Same.seqT {H H' : Hp} {a : Addr} {xs : List V} (e : Same H H') (h : SqT K H a xs) : SqT K H' a xs := by
  rcases h with (h | ⟨o, h⟩) | h
  · exact .inl (.inl (e _ _ h))
  · exact .inl (.inr ⟨o, e _ _ h⟩)
  · exact .inr h
mutual
theorem Is.mono (e : Same H H') : ∀ (d : D) (v : V), Is K P H d v → Is K P H' d v
  | .non, _, h => h
  | .bl _, _, h => h
  | .int _, _, h => h
  | .str _, _, h => h
  | .tup ds, _, ⟨a, vs, e1, e2, e3⟩ => ⟨a, vs, e1, Same.seqT e e2, IsL.mono e ds vs e3⟩
  | .lst ds, _, ⟨a, vs, e1, e2, e3⟩ => ⟨a, vs, e1, e _ _ e2, IsL.mono e ds vs e3⟩
  | .frz ds, _, ⟨a, vs, e1, e2, e3⟩ => ⟨a, vs, e1, Same.seq e e2, IsL.mono e ds vs e3⟩
  | .dct ks ds, _, ⟨a, vs, e1, e2, e3, e4⟩ => ⟨a, vs, e1, IsL.mono e ds vs e2, e3, e _ _ e4⟩
  | .kdt ks ds, _, ⟨a, vs, e1, e2, e3, e4⟩ => ⟨a, vs, e1, IsL.mono e ds vs e2, e3, e4⟩
theorem IsL.mono (e : Same H H') : ∀ (ds : List D) (vs : List V), IsL K P H ds vs → IsL K P H' ds vs
  | [], _, h => h
  | d :: ds, _, ⟨v, r, e1, e2, e3⟩ => ⟨v, r, e1, Is.mono e d v e2, IsL.mono e ds r e3⟩
end
theorem IsL.len : ∀ {ds : List D} {vs : List V}, IsL K P H ds vs → ds.length = vs.length
  | [], _, h => by cases h; rfl
  | _ :: ds, _, ⟨v, r, e1, _, e3⟩ => by subst e1; simp [IsL.len e3]
theorem IsL.get : ∀ {ds : List D} {vs : List V} {i : Nat} {d : D}, IsL K P H ds vs → ds[i]? = some d → ∃ v, vs[i]? = some v ∧ Is K P H d v
  | [], _, _, _, _, e => by simp at e
  | d0 :: ds, _, 0, d, ⟨v, r, e1, e2, e3⟩, e => by simp at e; subst e; subst e1; exact ⟨v, rfl, e2⟩
  | d0 :: ds, _, i + 1, d, ⟨v, r, e1, e2, e3⟩, e => by subst e1; simpa using IsL.get (i := i) e3 (by simpa using e)
theorem IsL.app : ∀ {ds : List D} {vs : List V} {ds' : List D} {vs' : List V}, IsL K P H ds vs → IsL K P H ds' vs' → IsL K P H (ds ++ ds') (vs ++ vs')
  | [], _, _, _, h, q => by cases h; exact q
  | d0 :: ds, _, _, _, ⟨v, r, e1, e2, e3⟩, q => by subst e1; exact ⟨v, _, rfl, e2, IsL.app e3 q⟩
theorem IsL.one {d : D} {v : V} (h : Is K P H d v) : IsL K P H [d] [v] := ⟨v, [], rfl, h, rfl⟩
theorem IsL.nil : IsL K P H [] [] := rfl
theorem IsL.take : ∀ {ds : List D} {vs : List V} (n : Nat), IsL K P H ds vs → IsL K P H (ds.take n) (vs.take n)
  | _, _, 0, _ => by simp [IsL]
  | [], _, n + 1, h => by cases h; simp [IsL]
  | d0 :: ds, _, n + 1, ⟨v, r, e1, e2, e3⟩ => by subst e1; exact ⟨v, _, rfl, e2, IsL.take n e3⟩
theorem IsL.drop : ∀ {ds : List D} {vs : List V} (n : Nat), IsL K P H ds vs → IsL K P H (ds.drop n) (vs.drop n)
  | _, _, 0, h => h
  | [], _, n + 1, h => by cases h; simp [IsL]
  | d0 :: ds, _, n + 1, ⟨v, r, e1, e2, e3⟩ => by subst e1; exact IsL.drop n e3
theorem IsL.set : ∀ {ds : List D} {vs : List V} {d : D} {v : V} (i : Nat), Is K P H d v → IsL K P H ds vs → IsL K P H (ds.set i d) (vs.set i v)
  | [], _, _, _, _, _, h => by cases h; simp [IsL]
  | d0 :: ds, _, _, _, 0, q, ⟨v, r, e1, e2, e3⟩ => by subst e1; exact ⟨_, _, rfl, q, e3⟩
  | d0 :: ds, _, _, _, i + 1, q, ⟨v, r, e1, e2, e3⟩ => by subst e1; exact ⟨_, _, rfl, e2, IsL.set i q e3⟩
theorem IsL.ints : ∀ {ds : List D} {vs : List V} {ns : List Int}, IsL K P H ds vs → intsD ds = some ns → vs = ns.map V.int
  | [], _, ns, h, e => by cases h; simp [intsD] at e; subst e; rfl
  | .int i :: ds, _, ns, ⟨v, r, e1, e2, e3⟩, e => by
    simp only [intsD, Option.map_eq_some_iff] at e
    obtain ⟨ms, e4, e5⟩ := e
    subst e5 e1
    have := IsL.ints e3 e4
    subst this
    rw [show v = V.int i from e2]
    rfl
  | .non :: _, _, _, _, e => by simp [intsD] at e
  | .bl _ :: _, _, _, _, e => by simp [intsD] at e
  | .str _ :: _, _, _, _, e => by simp [intsD] at e
  | .tup _ :: _, _, _, _, e => by simp [intsD] at e
  | .lst _ :: _, _, _, _, e => by simp [intsD] at e
  | .frz _ :: _, _, _, _, e => by simp [intsD] at e
  | .dct _ _ :: _, _, _, _, e => by simp [intsD] at e
  | .kdt _ _ :: _, _, _, _, e => by simp [intsD] at e

theorem sv_ge : ∀ (e : Env) (i : Nat), e.length ≤ i → sv e i = .no
  | [], _, _ => rfl
  | _ :: r, 0, h => absurd h (by simp)
  | _ :: r, i + 1, h => sv_ge r i (by simpa using h)
theorem st_len : ∀ (e : Env) (i : Nat) (y : SV), (st e i y).length = e.length
  | [], _, _ => rfl
  | _ :: r, 0, _ => rfl
  | _ :: r, i + 1, y => by simp [st, st_len r i y]
theorem sv_st : ∀ (e : Env) (i j : Nat) (y : SV), sv (st e i y) j = if j = i ∧ i < e.length then y else sv e j
  | [], _, _, _ => by simp [st, sv]
  | _ :: r, 0, 0, y => by simp [st, sv]
  | _ :: r, 0, j + 1, y => by simp [st, sv]
  | _ :: r, i + 1, 0, y => by simp [st, sv]
  | _ :: r, i + 1, j + 1, y => by simp [st, sv, sv_st r i j y]
theorem sv_lt {e : Env} {i : Nat} (h : sv e i ≠ .no) : i < e.length := by
  by_cases q : i < e.length
  · exact q
  · exact absurd (sv_ge e i (by omega)) h

/-- where one began: what was frozen, the heap, what may be changed, the names that stay -/
structure Base (mp : List Nat) where
  G0 : Hp
  H0 : Hp
  M0 : Addr → Prop
  pa : List (Nat × Addr)
  pm : ∀ q ∈ pa, q.1 ∈ mp

/-- the frame's names, on the heap H, of which G is frozen -/
structure Agree {mp : List Nat} (K : PySem.W.Frag) (P : Params) (B : Base mp) (G H : Hp) (σ : St) (e : Env) : Prop where
  same : Same G H
  len : e.length = σ.length
  val : ∀ i d, sv e i = .val d → ∃ v, σ[i]? = some (some v) ∧ Is K P G d v
  own : ∀ i xs, sv e i = .own xs → ∃ p vs, σ[i]? = some (some (.ref p)) ∧ H p = some (.lst vs) ∧ G p = none ∧ IsL K P G xs vs ∧ (B.M0 p ∨ B.H0 p = none)
  dis : ∀ i j p xs ys, sv e i = .own xs → sv e j = .own ys → σ[i]? = some (some (.ref p)) → σ[j]? = some (some (.ref p)) → i = j
  g0 : Same B.G0 G
  frame : ∀ a o, B.H0 a = some o → ¬ B.M0 a → H a = some o
  new : ∀ a o, G a = some o → (∃ o', B.G0 a = some o') ∨ B.M0 a ∨ B.H0 a = none
  pins : ∀ q ∈ B.pa, σ[q.1]? = some (some (.ref q.2))
/-- what an expression hands back -/
def RIs {mp : List Nat} (K : PySem.W.Frag) (P : Params) (B : Base mp) (G H : Hp) (σ : St) (e : Env) (v : V) : R → Prop
  | .d d => Is K P G d v
  | .fresh xs => ∃ p vs, v = .ref p ∧ H p = some (.lst vs) ∧ G p = none ∧ IsL K P G xs vs ∧ (B.M0 p ∨ B.H0 p = none) ∧ ∀ i ys, sv e i = .own ys → σ[i]? ≠ some (some (.ref p))
  | .slot i => σ[i]? = some (some v) ∧ ∃ xs, sv e i = .own xs

variable {mp : List Nat} {B : Base mp} {σ : St} {e : Env}
theorem Agree.fresh0 (A : Agree K P B G H σ e) {p : Addr} (h : H p = none) : B.M0 p ∨ B.H0 p = none := by
  by_cases m : B.M0 p
  · exact .inl m
  · refine .inr ?_
    cases q : B.H0 p with
    | none => rfl
    | some o => rw [A.frame p o q m] at h; cases h
theorem Agree.gfree (A : Agree K P B G H σ e) {p : Addr} (h : H p = none) : G p = none := A.same.free h
theorem same_upd {H : Hp} {p : Addr} {o : HO} (h : H p = none) : Same H (upd H p o) := fun b x e => by
  rw [upd_ne (ne_of_none e h)]
  exact e
/-- a new thing, frozen at once -/
theorem Agree.laid (A : Agree K P B G H σ e) {p : Addr} {o : HO} (h : H p = none) : Agree K P B (upd G p o) (upd H p o) σ e where
  same := fun b x q => by
    by_cases hb : b = p
    · subst hb; rw [upd_same] at q ⊢; exact q
    · rw [upd_ne hb] at q ⊢; exact A.same b x q
  len := A.len
  val := fun i d q => let ⟨v, e1, e2⟩ := A.val i d q; ⟨v, e1, Is.mono (same_upd (A.gfree h)) d v e2⟩
  own := fun i xs q => by
    obtain ⟨q', vs, e1, e2, e3, e4, e5⟩ := A.own i xs q
    have ne : q' ≠ p := ne_of_none e2 h
    exact ⟨q', vs, e1, by rw [upd_ne ne]; exact e2, by rw [upd_ne ne]; exact e3, IsL.mono (same_upd (A.gfree h)) xs vs e4, e5⟩
  dis := A.dis
  g0 := A.g0.trans (same_upd (A.gfree h))
  frame := fun a u q m => by
    have := A.frame a u q m
    rw [upd_ne (ne_of_none this h)]; exact this
  new := fun a u q => by
    by_cases ha : a = p
    · subst ha; exact .inr (A.fresh0 h)
    · rw [upd_ne ha] at q; exact A.new a u q
  pins := A.pins
/-- a new thing, not frozen -/
theorem Agree.made (A : Agree K P B G H σ e) {p : Addr} {o : HO} (h : H p = none) : Agree K P B G (upd H p o) σ e where
  same := A.same.trans (same_upd h)
  len := A.len
  val := A.val
  own := fun i xs q => by
    obtain ⟨q', vs, e1, e2, e3, e4, e5⟩ := A.own i xs q
    exact ⟨q', vs, e1, by rw [upd_ne (ne_of_none e2 h)]; exact e2, e3, e4, e5⟩
  dis := A.dis
  g0 := A.g0
  frame := fun a u q m => by
    have := A.frame a u q m
    rw [upd_ne (ne_of_none this h)]; exact this
  new := A.new
  pins := A.pins
/-- a new list, for the end of a rule -/
theorem Agree.newList (A : Agree K P B G H σ e) {p : Addr} {vs : List V} {xs : List D} (h : H p = none) (r : IsL K P G xs vs) :
    Agree K P B G (upd H p (.lst vs)) σ e ∧ RIs K P B G (upd H p (.lst vs)) σ e (.ref p) (.fresh xs) :=
  ⟨A.made h, p, vs, rfl, upd_same, A.gfree h, r, A.fresh0 h, fun i ys q z => by
    obtain ⟨p', ws, e1, e2, _⟩ := A.own i ys q
    rw [e1] at z
    have : p' = p := by injection z with z; injection z with z; injection z
    subst this
    rw [e2] at h; cases h⟩
/-- a list that stands and is not owned by a name is frozen -/
theorem Agree.freeze (A : Agree K P B G H σ e) {p : Addr} {vs : List V} (h : H p = some (.lst vs)) (g : G p = none) (m : B.M0 p ∨ B.H0 p = none) (nown : ∀ i ys, sv e i = .own ys → σ[i]? ≠ some (some (.ref p))) :
    Agree K P B (upd G p (.lst vs)) H σ e where
  same := fun b x q => by
    by_cases hb : b = p
    · subst hb; rw [upd_same] at q; rw [← q]; exact h
    · rw [upd_ne hb] at q; exact A.same b x q
  len := A.len
  val := fun i d q => let ⟨v, e1, e2⟩ := A.val i d q; ⟨v, e1, Is.mono (same_upd g) d v e2⟩
  own := fun i xs q => by
    obtain ⟨q', ws, e1, e2, e3, e4, e5⟩ := A.own i xs q
    have ne : q' ≠ p := fun z => nown i xs q (by rw [e1, z])
    exact ⟨q', ws, e1, e2, by rw [upd_ne ne]; exact e3, IsL.mono (same_upd g) xs ws e4, e5⟩
  dis := A.dis
  g0 := A.g0.trans (same_upd g)
  frame := A.frame
  new := fun a u q => by
    by_cases ha : a = p
    · subst ha; exact .inr m
    · rw [upd_ne ha] at q; exact A.new a u q
  pins := A.pins
theorem ref_inj {a b : Addr} (h : (some (some (V.ref a)) : Option (Option V)) = some (some (.ref b))) : a = b := by
  injection h with h; injection h with h; injection h
/-- what a name owns is frozen -/
theorem Agree.freezeOwn (A : Agree K P B G H σ e) {i : Nat} {xs : List D} (h : sv e i = .own xs) :
    ∃ p vs, σ[i]? = some (some (.ref p)) ∧ H p = some (.lst vs) ∧ G p = none ∧ IsL K P G xs vs ∧ Agree K P B (upd G p (.lst vs)) H σ (st e i (.val (.lst xs))) ∧ Is K P (upd G p (.lst vs)) (.lst xs) (.ref p) := by
  obtain ⟨p, vs, e1, e2, e3, e4, e5⟩ := A.own i xs h
  have hi : i < e.length := sv_lt (by rw [h]; exact fun z => nomatch z)
  have isp : Is K P (upd G p (.lst vs)) (.lst xs) (.ref p) := ⟨p, vs, rfl, upd_same, IsL.mono (same_upd e3) xs vs e4⟩
  refine ⟨p, vs, e1, e2, e3, e4, ⟨fun b x q => ?_, by rw [st_len]; exact A.len, fun j d q => ?_, fun j ys q => ?_, fun j k q ys zs h1 h2 h3 h4 => ?_, A.g0.trans (same_upd e3), A.frame, fun a u q => ?_, A.pins⟩, isp⟩
  · by_cases hb : b = p
    · subst hb; rw [upd_same] at q; rw [← q]; exact e2
    · rw [upd_ne hb] at q; exact A.same b x q
  · rw [sv_st] at q
    split at q
    · rename_i c; cases q; rw [c.1]; exact ⟨_, e1, isp⟩
    · obtain ⟨v, a1, a2⟩ := A.val j d q; exact ⟨v, a1, Is.mono (same_upd e3) d v a2⟩
  · rw [sv_st] at q
    split at q
    · cases q
    · rename_i c
      obtain ⟨q', ws, a1, a2, a3, a4, a5⟩ := A.own j ys q
      have ne : q' ≠ p := fun z => c ⟨A.dis j i p ys xs q h (by rw [a1, z]) e1, hi⟩
      exact ⟨q', ws, a1, a2, by rw [upd_ne ne]; exact a3, IsL.mono (same_upd e3) ys ws a4, a5⟩
  · rw [sv_st] at h1 h2
    split at h1
    · cases h1
    · split at h2
      · cases h2
      · exact A.dis j k q ys zs h1 h2 h3 h4
  · by_cases ha : a = p
    · subst ha; exact .inr e5
    · rw [upd_ne ha] at q; exact A.new a u q
/-- a new heap under the same frozen part (an owned list has changed) -/
theorem Agree.writeOwn (A : Agree K P B G H σ e) {i : Nat} {xs ys : List D} {ws : List V} {p : Addr} (h : sv e i = .own xs) (hp : σ[i]? = some (some (.ref p))) (r : IsL K P G ys ws) :
    Agree K P B G (upd H p (.lst ws)) σ (st e i (.own ys)) := by
  obtain ⟨p', vs, e1, e2, e3, e4, e5⟩ := A.own i xs h
  have hpp : p' = p := ref_inj (e1.symm.trans hp)
  subst hpp
  have hi : i < e.length := sv_lt (by rw [h]; exact fun z => nomatch z)
  refine ⟨fun b x q => ?_, by rw [st_len]; exact A.len, fun j d q => ?_, fun j zs q => ?_, fun j k q zs us h1 h2 h3 h4 => ?_, A.g0, fun a o q m => ?_, A.new, A.pins⟩
  · rw [upd_ne (ne_of_none q e3)]; exact A.same b x q
  · rw [sv_st] at q
    split at q
    · cases q
    · exact A.val j d q
  · rw [sv_st] at q
    split at q
    · rename_i c; cases q; rw [c.1]; exact ⟨p', ws, hp, upd_same, e3, r, e5⟩
    · rename_i c
      obtain ⟨q', us, a1, a2, a3, a4, a5⟩ := A.own j zs q
      have ne : q' ≠ p' := fun z => c ⟨A.dis j i p' zs xs q h (by rw [a1, z]) hp, hi⟩
      exact ⟨q', us, a1, by rw [upd_ne ne]; exact a2, a3, a4, a5⟩
  · rw [sv_st] at h1 h2
    split at h1
    · rename_i c; cases h1
      split at h2
      · rename_i c2; rw [c.1, c2.1]
      · rw [c.1]; exact A.dis i k q xs us h h2 (by rw [← c.1]; exact h3) h4
    · split at h2
      · rename_i c2; cases h2; rw [c2.1]; exact A.dis j i q zs xs h1 h h3 (by rw [← c2.1]; exact h4)
      · exact A.dis j k q zs us h1 h2 h3 h4
  · by_cases ha : a = p'
    · subst ha
      rcases e5 with e5 | e5
      · exact absurd e5 m
      · rw [e5] at q; cases q
    · rw [upd_ne ha]; exact A.frame a o q m
/-- a name is stored: it holds a frozen value from now on -/
theorem Agree.store (A : Agree K P B G H σ e) {i : Nat} {v : V} {d : D} (hi : i ∉ mp) (r : Is K P G d v) : Agree K P B G H (σ.set i (some v)) (st e i (.val d)) := by
  have hset : ∀ j, j ≠ i → (σ.set i (some v))[j]? = σ[j]? := fun j h => List.getElem?_set_ne (Ne.symm h)
  refine ⟨A.same, by rw [st_len, List.length_set]; exact A.len, fun j d' q => ?_, fun j xs q => ?_, fun j k q ys zs h1 h2 h3 h4 => ?_, A.g0, A.frame, A.new, fun q hq => by rw [hset _ (fun z => hi (by rw [← z]; exact B.pm q hq))]; exact A.pins q hq⟩
  · rw [sv_st] at q
    split at q
    · rename_i c; cases q; rw [c.1]; exact ⟨v, by rw [List.getElem?_set_self (by rw [← A.len]; exact c.2)], r⟩
    · rename_i c
      obtain ⟨u, a1, a2⟩ := A.val j d' q
      have hj : j ≠ i := fun z => c ⟨z, by rw [← z]; exact sv_lt (by rw [q]; exact fun z => nomatch z)⟩
      exact ⟨u, by rw [hset j hj]; exact a1, a2⟩
  · rw [sv_st] at q
    split at q
    · cases q
    · rename_i c
      obtain ⟨p, vs, a1, a2⟩ := A.own j xs q
      have hj : j ≠ i := fun z => c ⟨z, by rw [← z]; exact sv_lt (by rw [q]; exact fun z => nomatch z)⟩
      exact ⟨p, vs, by rw [hset j hj]; exact a1, a2⟩
  · rw [sv_st] at h1 h2
    split at h1
    · cases h1
    · rename_i c
      split at h2
      · cases h2
      · rename_i c2
        have hj : j ≠ i := fun z => c ⟨z, by rw [← z]; exact sv_lt (by rw [h1]; exact fun z => nomatch z)⟩
        have hk : k ≠ i := fun z => c2 ⟨z, by rw [← z]; exact sv_lt (by rw [h2]; exact fun z => nomatch z)⟩
        rw [hset j hj] at h3
        rw [hset k hk] at h4
        exact A.dis j k q ys zs h1 h2 h3 h4
/-- .. a new list -/
theorem Agree.storeOwn (A : Agree K P B G H σ e) {i : Nat} {p : Addr} {vs : List V} {xs : List D} (hi : i ∉ mp) (h : H p = some (.lst vs)) (g : G p = none) (r : IsL K P G xs vs) (m : B.M0 p ∨ B.H0 p = none)
    (nown : ∀ i ys, sv e i = .own ys → σ[i]? ≠ some (some (.ref p))) : Agree K P B G H (σ.set i (some (.ref p))) (st e i (.own xs)) := by
  have hset : ∀ j, j ≠ i → (σ.set i (some (V.ref p)))[j]? = σ[j]? := fun j h => List.getElem?_set_ne (Ne.symm h)
  refine ⟨A.same, by rw [st_len, List.length_set]; exact A.len, fun j d' q => ?_, fun j ys q => ?_, fun j k q ys zs h1 h2 h3 h4 => ?_, A.g0, A.frame, A.new, fun q hq => by rw [hset _ (fun z => hi (by rw [← z]; exact B.pm q hq))]; exact A.pins q hq⟩
  · rw [sv_st] at q
    split at q
    · cases q
    · rename_i c
      obtain ⟨u, a1, a2⟩ := A.val j d' q
      have hj : j ≠ i := fun z => c ⟨z, by rw [← z]; exact sv_lt (by rw [q]; exact fun z => nomatch z)⟩
      exact ⟨u, by rw [hset j hj]; exact a1, a2⟩
  · rw [sv_st] at q
    split at q
    · rename_i c; cases q; rw [c.1]; exact ⟨p, vs, by rw [List.getElem?_set_self (by rw [← A.len]; exact c.2)], h, g, r, m⟩
    · rename_i c
      obtain ⟨p', ws, a1, a2⟩ := A.own j ys q
      have hj : j ≠ i := fun z => c ⟨z, by rw [← z]; exact sv_lt (by rw [q]; exact fun z => nomatch z)⟩
      exact ⟨p', ws, by rw [hset j hj]; exact a1, a2⟩
  · rw [sv_st] at h1 h2
    split at h1
    · rename_i c; cases h1
      split at h2
      · rename_i c2; rw [c.1, c2.1]
      · rename_i c2
        have hk : k ≠ i := fun z => c2 ⟨z, by rw [← z]; exact sv_lt (by rw [h2]; exact fun z => nomatch z)⟩
        rw [c.1, List.getElem?_set_self (by rw [← A.len]; exact c.2)] at h3
        rw [hset k hk] at h4
        have := ref_inj h3
        subst this
        exact absurd h4 (nown k zs h2)
    · rename_i c
      have hj : j ≠ i := fun z => c ⟨z, by rw [← z]; exact sv_lt (by rw [h1]; exact fun z => nomatch z)⟩
      split at h2
      · rename_i c2; cases h2
        rw [c2.1, List.getElem?_set_self (by rw [← A.len]; exact c2.2)] at h4
        rw [hset j hj] at h3
        have := ref_inj h4
        subst this
        exact absurd h3 (nown j ys h1)
      · rename_i c2
        have hk : k ≠ i := fun z => c2 ⟨z, by rw [← z]; exact sv_lt (by rw [h2]; exact fun z => nomatch z)⟩
        rw [hset j hj] at h3
        rw [hset k hk] at h4
        exact A.dis j k q ys zs h1 h2 h3 h4
/-- a name is forgotten -/
theorem Agree.forget (A : Agree K P B G H σ e) (i : Nat) : Agree K P B G H σ (st e i .no) := by
  refine ⟨A.same, by rw [st_len]; exact A.len, fun j d' q => ?_, fun j ys q => ?_, fun j k q ys zs h1 h2 h3 h4 => ?_, A.g0, A.frame, A.new, A.pins⟩
  · rw [sv_st] at q
    split at q
    · cases q
    · exact A.val j d' q
  · rw [sv_st] at q
    split at q
    · cases q
    · exact A.own j ys q
  · rw [sv_st] at h1 h2
    split at h1
    · cases h1
    · split at h2
      · cases h2
      · exact A.dis j k q ys zs h1 h2 h3 h4
/-- slots that e does not speak of may change -/
theorem Agree.slots (A : Agree K P B G H σ e) {σ' : St} (hl : σ'.length = σ.length) (hs : ∀ i, sv e i ≠ .no → σ'[i]? = σ[i]?) (hp : ∀ q ∈ B.pa, σ'[q.1]? = σ[q.1]?) : Agree K P B G H σ' e := by
  refine ⟨A.same, by rw [hl]; exact A.len, fun j d' q => ?_, fun j ys q => ?_, fun j k q ys zs h1 h2 h3 h4 => ?_, A.g0, A.frame, A.new, fun q hq => by rw [hp q hq]; exact A.pins q hq⟩
  · rw [hs j (by rw [q]; exact fun z => nomatch z)]; exact A.val j d' q
  · rw [hs j (by rw [q]; exact fun z => nomatch z)]; exact A.own j ys q
  · rw [hs j (by rw [h1]; exact fun z => nomatch z)] at h3
    rw [hs k (by rw [h2]; exact fun z => nomatch z)] at h4
    exact A.dis j k q ys zs h1 h2 h3 h4
/-- the value v is d now: what is in it is frozen -/
def BIs (K : PySem.W.Frag) (P : Params) (G H : Hp) : D → V → Prop
  | .lst xs, v => ∃ p vs, v = .ref p ∧ H p = some (.lst vs) ∧ IsL K P G xs vs
  | d, v => Is K P G d v
theorem BIs.of (s : Same G H) {d : D} {v : V} (h : Is K P G d v) : BIs K P G H d v := by
  cases d with
  | lst xs => obtain ⟨p, vs, e1, e2, e3⟩ := h; exact ⟨p, vs, e1, s _ _ e2, e3⟩
  | _ => exact h
theorem BIs.is (s : Same G H) {d : D} {v : V} (h : BIs K P G H d v) : Is K P H d v := by
  cases d with
  | lst xs => obtain ⟨p, vs, e1, e2, e3⟩ := h; exact ⟨p, vs, e1, e2, IsL.mono s xs vs e3⟩
  | _ => exact Is.mono s _ v h
/-- what a value is now -/
theorem Agree.look (A : Agree K P B G H σ e) {r : R} {v : V} {d : D} (h : RIs K P B G H σ e v r) (l : look e r = some d) : BIs K P G H d v := by
  cases r with
  | d d' => cases l; exact BIs.of A.same h
  | fresh xs => cases l; obtain ⟨p, vs, e1, e2, e3, e4, _⟩ := h; exact ⟨p, vs, e1, e2, e4⟩
  | slot i =>
    obtain ⟨h1, xs, h2⟩ := h
    simp only [MP.look, h2] at l
    cases l
    obtain ⟨p, vs, e1, e2, e3, e4, _⟩ := A.own i xs h2
    rw [h1] at e1
    injection e1 with e1; injection e1 with e1
    exact ⟨p, vs, e1, e2, e4⟩
/-- a name's value, as a result that may have been frozen since -/
def SIs (K : PySem.W.Frag) (P : Params) (G : Hp) (σ : St) (v : V) : R → Prop
  | .d d => Is K P G d v
  | .fresh _ => False
  | .slot i => σ[i]? = some (some v)
theorem SIs.mono {G G' : Hp} {v : V} {r : R} (h : Same G G') (s : SIs K P G σ v r) : SIs K P G' σ v r := by
  cases r with
  | d d => exact Is.mono h d v s
  | fresh _ => exact s
  | slot i => exact s
theorem Agree.lookS (A : Agree K P B G H σ e) {r : R} {v : V} {d : D} (h : SIs K P G σ v r) (l : MP.look e r = some d) : BIs K P G H d v := by
  cases r with
  | d d' => cases l; exact BIs.of A.same h
  | fresh xs => exact h.elim
  | slot i =>
    have h1 : σ[i]? = some (some v) := h
    simp only [MP.look] at l
    split at l
    · rename_i xs h2
      cases l
      obtain ⟨p, vs, e1, e2, e3, e4, _⟩ := A.own _ xs h2
      rw [h1] at e1
      injection e1 with e1; injection e1 with e1
      exact ⟨p, vs, e1, e2, e4⟩
    · rename_i d' h2
      cases l
      obtain ⟨u, e1, e2⟩ := A.val _ _ h2
      rw [h1] at e1
      injection e1 with e1; injection e1 with e1
      subst e1
      exact BIs.of A.same e2
    · cases l
/-- a new list becomes frozen -/
theorem Agree.unf (A : Agree K P B G H σ e) {r : R} {v : V} (h : RIs K P B G H σ e v r) : ∃ G', Same G G' ∧ Agree K P B G' H σ e ∧ SIs K P G' σ v (unf r) ∧ RIs K P B G' H σ e v (MP.unf r) := by
  cases r with
  | d d' => exact ⟨G, .refl _, A, h, h⟩
  | fresh xs =>
    obtain ⟨p, vs, e1, e2, e3, e4, e5, e6⟩ := h
    have i : Is K P (upd G p (.lst vs)) (.lst xs) v := ⟨p, vs, e1, upd_same, IsL.mono (same_upd e3) xs vs e4⟩
    exact ⟨upd G p (.lst vs), same_upd e3, A.freeze e2 e3 e5 e6, i, i⟩
  | slot i => exact ⟨G, .refl _, A, h.1, h⟩
/-- frozen, wherever it lay -/
theorem Agree.cap (A : Agree K P B G H σ e) {r : R} {v : V} {d : D} {e' : Env} (h : RIs K P B G H σ e v r) (c : cap r e = some (d, e')) : ∃ G', Same G G' ∧ Agree K P B G' H σ e' ∧ Is K P G' d v := by
  cases r with
  | d d' => cases c; exact ⟨G, .refl _, A, h⟩
  | fresh xs =>
    obtain ⟨p, vs, e1, e2, e3, e4, e5, e6⟩ := h
    cases c
    exact ⟨upd G p (.lst vs), same_upd e3, A.freeze e2 e3 e5 e6, p, vs, e1, upd_same, IsL.mono (same_upd e3) xs vs e4⟩
  | slot i =>
    obtain ⟨h1, xs, h2⟩ := h
    simp only [MP.cap, h2] at c
    cases c
    obtain ⟨p, vs, e1, e2, e3, e4, A', q⟩ := A.freezeOwn h2
    rw [h1] at e1
    injection e1 with e1; injection e1 with e1
    subst e1
    exact ⟨_, same_upd e3, A', q⟩

/-! ### another base, and back -/
/-- what e's names own -/
def Owns (σ : St) (e : Env) (a : Addr) : Prop := ∃ i xs, sv e i = .own xs ∧ σ[i]? = some (some (.ref a))
theorem Agree.rebase (A : Agree K P B G H σ e) : Agree K P ⟨G, H, Owns σ e, B.pa, B.pm⟩ G H σ e where
  same := A.same
  len := A.len
  val := A.val
  own := fun i xs h => let ⟨p, vs, e1, e2, e3, e4, _⟩ := A.own i xs h; ⟨p, vs, e1, e2, e3, e4, .inl ⟨i, xs, h, e1⟩⟩
  dis := A.dis
  g0 := .refl _
  frame := fun _ _ q _ => q
  new := fun a o q => .inl ⟨o, q⟩
  pins := A.pins
theorem Agree.owns0 (A : Agree K P B G H σ e) {a : Addr} (h : Owns σ e a) : B.M0 a ∨ B.H0 a = none := by
  obtain ⟨i, xs, h1, h2⟩ := h
  obtain ⟨p, vs, e1, _, _, _, e5⟩ := A.own i xs h1
  rw [← ref_inj (e1.symm.trans h2)]
  exact e5
/-- the facts about the heap alone go back to the elder base -/
theorem Agree.unbase {G' H' : Hp} {σ' : St} {e' : Env} (A : Agree K P B G H σ e) (A' : Agree K P ⟨G, H, Owns σ e, B.pa, B.pm⟩ G' H' σ' e') : Agree K P B G' H' σ' e' where
  same := A'.same
  len := A'.len
  val := A'.val
  own := fun i xs h => by
    obtain ⟨p, vs, e1, e2, e3, e4, e5⟩ := A'.own i xs h
    refine ⟨p, vs, e1, e2, e3, e4, ?_⟩
    rcases e5 with e5 | e5
    · exact A.owns0 e5
    · exact A.fresh0 e5
  dis := A'.dis
  g0 := A.g0.trans A'.g0
  frame := fun a o q m => A'.frame a o (A.frame a o q m) fun z => by
    rcases A.owns0 z with z | z
    · exact m z
    · rw [z] at q; cases q
  new := fun a o q => by
    rcases A'.new a o q with ⟨o', z⟩ | z | z
    · exact A.new a o' z
    · exact .inr (A.owns0 z)
    · exact .inr (A.fresh0 z)
  pins := A'.pins
end
end MP

/-! Readings by the interpreter; operators by values. -/
namespace MP
open PySem PySem.Spec L2

theorem bd_some {α β : Type} {m : M α} {f : α → M β} {e : Env} {p : β × Env} (h : M.bd m f e = some p) : ∃ a e1, m e = some (a, e1) ∧ f a e1 = some p := by
  unfold M.bd at h
  split at h
  · cases h
  · rename_i q hq
    exact ⟨q.1, q.2, hq, h⟩
theorem lk_some {r : R} {e : Env} {p : D × Env} (h : lk r e = some p) : look e r = some p.1 ∧ p.2 = e := by
  unfold lk at h
  split at h
  · cases h
  · rename_i d hd
    cases h
    exact ⟨hd, rfl⟩
theorem lift_some {α : Type} {o : Option α} {e : Env} {p : α × Env} (h : lift o e = some p) : o = some p.1 ∧ p.2 = e := by
  unfold lift at h
  split at h
  · cases h
  · rename_i d hd
    cases h
    exact ⟨rfl, rfl⟩
theorem ret_some {α : Type} {a : α} {e : Env} {p : α × Env} (h : M.ret a e = some p) : p = (a, e) := by
  unfold M.ret at h
  cases h
  rfl

theorem PE.weak {X : Cx} {e : Expr} {t t' : TE} (h : PE X e t) (k : ∀ σ H Q, t' σ H Q → t σ H Q) : PE X e t' := ⟨fun pins s σ H Q I q => h.run pins s σ H Q I (k σ H Q q)⟩
theorem PT.weak {X : Cx} {e : Expr} {t t' : TT} (h : PT X e t) (k : ∀ σ H Q, t' σ H Q → t σ H Q) : PT X e t' := ⟨fun pins s σ H Q I q => h.run pins s σ H Q I (k σ H Q q)⟩
theorem PW.weak {X : Cx} {e : Expr} {t t' : TT} (h : PW X e t) (k : ∀ σ H Q, t' σ H Q → t σ H Q) : PW X e t' := ⟨fun wh pins s σ H Q I q => h.run wh pins s σ H Q I (k σ H Q q)⟩
theorem PA.weak {X : Cx} {e : List Expr} {t t' : TA} (h : PA X e t) (k : ∀ σ H Q, t' σ H Q → t σ H Q) : PA X e t' := ⟨fun pos pins s σ H Q I q => h.run pos pins s σ H Q I (k σ H Q q)⟩
theorem PO.weak {X : Cx} {e : Option Expr} {t t' : TO} (h : PO X e t) (k : ∀ σ H Q, t' σ H Q → t σ H Q) : PO X e t' := ⟨fun pins s σ H Q I q => h.run pins s σ H Q I (k σ H Q q)⟩
theorem PS.weak {X : Cx} {e : Stmt} {t t' : TS} (h : PS X e t) (k : ∀ D σ H, t' D σ H → t D σ H) : PS X e t' := ⟨fun pins s σ H D I q => h.run pins s σ H D I (k D σ H q)⟩
theorem PSs.weak {X : Cx} {e : List Stmt} {t t' : TS} (h : PSs X e t) (k : ∀ D σ H, t' D σ H → t D σ H) : PSs X e t' := ⟨fun pins s σ H D I q => h.run pins s σ H D I (k D σ H q)⟩
theorem PG.weak {X : Cx} {e : Expr} {t t' : TG} (h : PG X e t) (k : ∀ v σ H Q, t' v σ H Q → t v σ H Q) : PG X e t' := ⟨fun pins s σ H v u Q I r q => h.run pins s σ H v u Q I r (k v σ H Q q)⟩
theorem PI.weak {X : Cx} {tg e : Expr} {t t' : TI} (h : PI X tg e t) (k : ∀ σ H Q, t' σ H Q → t σ H Q) : PI X tg e t' := ⟨fun pins s σ H R I q => h.run pins s σ H R I (k σ H R q)⟩
theorem PTs.weak {X : Cx} {e : List Expr} {t t' : TT} (h : PTs X e t) (k : ∀ σ H Q, t' σ H Q → t σ H Q) : PTs X e t' := ⟨fun pins s σ H Q I q => h.run pins s σ H Q I (k σ H Q q)⟩

section
variable (mp : List Nat) (K : PySem.W.Frag) (P : Params)
/-- the interpreter's run as a reading -/
def tS (f : M R) : TE := fun σ H Q => ∃ B : Base mp, ∃ G e r e', Agree K P B G H σ e ∧ f e = some (r, e') ∧ ∀ v G' H', Same G G' → Agree K P B G' H' σ e' → RIs K P B G' H' σ e' v r → Q v H'
def tST (f : M Bool) : TT := fun σ H Q => ∃ B : Base mp, ∃ G e b e', Agree K P B G H σ e ∧ f e = some (b, e') ∧ ∀ G' H', Same G G' → Agree K P B G' H' σ e' → Q b H'
def tSP (f : M (Option Int)) : TO := fun σ H Q => ∃ B : Base mp, ∃ G e b e', Agree K P B G H σ e ∧ f e = some (b, e') ∧ ∀ G' H', Same G G' → Agree K P B G' H' σ e' → Q b H'
/-- several values: frozen; or operands -/
def tSD (f : M (List D)) : TA := fun σ H Q => ∃ B : Base mp, ∃ G e ds e', Agree K P B G H σ e ∧ f e = some (ds, e') ∧ ∀ vs G' H', Same G G' → Agree K P B G' H' σ e' → IsL K P G' ds vs → Q vs H'
inductive SIsL (G : Hp) (σ : St) : List V → List R → Prop
  | nil : SIsL G σ [] []
  | cons {v : V} {r : R} {vs : List V} {rs : List R} : SIs K P G σ v r → SIsL G σ vs rs → SIsL G σ (v :: vs) (r :: rs)
def tSO (f : M (List R)) : TA := fun σ H Q => ∃ B : Base mp, ∃ G e rs e', Agree K P B G H σ e ∧ f e = some (rs, e') ∧ ∀ vs G' H', Same G G' → Agree K P B G' H' σ e' → SIsL K P G' σ vs rs → Q vs H'
/-- a statement's -/
def endOk (B : Base mp) (G : Hp) (D : Ends) (e' : Env) : O → Prop
  | .nx => ∀ σ' G' H', Same G G' → Agree K P B G' H' σ' e' → D.nx σ' H'
  | .bk => ∀ σ' G' H', Same G G' → Agree K P B G' H' σ' e' → D.bk σ' H'
  | .ct => ∀ σ' G' H', Same G G' → Agree K P B G' H' σ' e' → D.ct σ' H'
  | .rt r => ∀ v σ' G' H', Same G G' → Agree K P B G' H' σ' e' → RIs K P B G' H' σ' e' v r → D.rt v H'
def tSS (f : M O) : TS := fun D σ H => ∃ B : Base mp, ∃ G e o e', Agree K P B G H σ e ∧ f e = some (o, e') ∧ endOk mp K P B G D e' o
end

theorem endOk.mono {mp : List Nat} {K : PySem.W.Frag} {P : Params} {B : Base mp} {G G' : Hp} {D : Ends} {e' : Env} {o : O} (h : endOk mp K P B G D e' o) (s : Same G G') : endOk mp K P B G' D e' o := by
  cases o with
  | nx => exact fun σ' G2 H' q A => h σ' G2 H' (s.trans q) A
  | bk => exact fun σ' G2 H' q A => h σ' G2 H' (s.trans q) A
  | ct => exact fun σ' G2 H' q A => h σ' G2 H' (s.trans q) A
  | rt r => exact fun v σ' G2 H' q A => h v σ' G2 H' (s.trans q) A

/-! ### operators by values -/
section
variable {mp : List Nat} {K : PySem.W.Frag} {P : Params}
/-- what a rule by values gives, the interpreter's value -/
def OpSpec (K : PySem.W.Frag) (P : Params) (r : R2) (g : D → D → Option R) : Prop := ∀ (mp : List Nat) (B : Base mp) G H σ e d1 d2 v1 v2 res (Q : VK), Agree K P B G H σ e → BIs K P G H d1 v1 → BIs K P G H d2 v2 → g d1 d2 = some res →
  (∀ v G' H', Same G G' → Agree K P B G' H' σ e → RIs K P B G' H' σ e v res → Q v H') → r v1 v2 H Q
theorem op2 {fa fb : M R} {g : D → D → Option R} {r : R2} (sp : OpSpec K P r g) (σ : St) (H : Hp) (Q : VK)
    (h : tS mp K P (M.bd fa fun x => M.bd fb fun y => M.bd (lk (unf x)) fun dx => M.bd (lk y) fun dy => lift (g dx dy)) σ H Q) : tOp r (tS mp K P fa) (tS mp K P fb) σ H Q := by
  obtain ⟨B, G, e, res, e', A, h, k⟩ := h
  replace h := bd_some h; obtain ⟨x, e1, h1, h⟩ := h
  replace h := bd_some h; obtain ⟨y, e2, h2, h⟩ := h
  replace h := bd_some h; obtain ⟨dx, e3, h3, h⟩ := h
  replace h := bd_some h; obtain ⟨dy, e4, h4, h⟩ := h
  replace h3 := lk_some h3; obtain ⟨h3, z3⟩ := h3
  replace h4 := lk_some h4; obtain ⟨h4, z4⟩ := h4
  replace h := lift_some h; obtain ⟨h5, z5⟩ := h
  dsimp only at z3 z4 z5 h3 h4 h5
  subst z3 z4 z5
  refine ⟨B, G, e, x, e1, A, h1, fun v1 G1 H1 s1 A1 r1 => ?_⟩
  obtain ⟨G1', s1', A1', i1, _⟩ := A1.unf r1
  refine ⟨B, G1', e1, y, _, A1', h2, fun v2 G2 H2 s2 A2 r2 => ?_⟩
  exact sp _ B G2 H2 σ _ dx dy v1 v2 res Q A2 (A2.lookS (i1.mono s2) h3) (A2.look r2 h4) h5 fun v G' H' s' A' r' => k v G' H' (((s1.trans s1').trans s2).trans s') A' r'
variable {X : Cx} {a b c : Expr} {pos : Pos} {fa fb : M R}
theorem pe_binS {op : Operator} {r : R2} (ho : OpR X (binaryOp op) r) (sp : OpSpec X.K X.w.params r (binD op)) (ha : PE X a (tS mp X.K X.w.params fa)) (hb : PE X b (tS mp X.K X.w.params fb)) :
    PE X (.BinOp a op b pos) (tS mp X.K X.w.params (M.bd fa fun x => M.bd fb fun y => M.bd (lk (unf x)) fun dx => M.bd (lk y) fun dy => lift (binD op dx dy))) :=
  PE.weak (pe_op ho ha hb) fun σ H Q h => op2 sp σ H Q h

theorem big64_ok {i j : Int} (h : (big64 i || big64 j) = true) : CMul i j := by
  have one : ∀ {i : Int}, big64 i = true → -(2 ^ 64) < i ∧ i < 2 ^ 64 := by
    intro i h
    have := Nat.le_of_ble_eq_true h
    have e : ((2 : Int) ^ 64) = 18446744073709551616 := by decide
    rw [e]
    omega
  unfold CMul
  rw [Bool.or_eq_true] at h
  exact h.imp one one
def rAddS : R2 := fun x y H Q => rI0 (fun i j => .int (i + j)) x y H Q ∨ (∃ i j, x = .str i ∧ y = .str j ∧ i.length + j.length ≤ sizeLine ∧ Q (.str (i ++ j)) H) ∨ rCat x y H Q
theorem op_addS : OpR X (binaryOp .Add) rAddS := op_add.or (op_add_str.or op_cat)
theorem mkS_app (a b : List Nat) : mkS a ++ mkS b = mkS (a ++ b) := by
  show (⟨a.toArray ++ b.toArray⟩ : Str) = ⟨(a ++ b).toArray⟩
  simp
theorem sp_add : OpSpec K P rAddS (binD .Add) := by
  intro mp B G H σ e d1 d2 v1 v2 res Q A i1 i2 h k
  cases d1 <;> cases d2 <;> simp only [binD] at h <;> try (cases h; done)
  · rename_i i j
    cases h
    exact .inl ⟨i, j, i1, i2, k _ G H (.refl _) A rfl⟩
  · rename_i a b
    split at h
    · rename_i hz
      cases h
      refine .inr (.inl ⟨mkS a, mkS b, i1, i2, by rw [mkS_len, mkS_len, ← LIM_eq]; exact hz, ?_⟩)
      rw [mkS_app]
      exact k _ G H (.refl _) A rfl
    · cases h
  · rename_i xs ys
    split at h
    · rename_i hz
      cases h
      obtain ⟨p, vs, rfl, e2, e3⟩ := i1
      obtain ⟨q, ws, rfl, e4, e5⟩ := i2
      refine .inr (.inr ⟨p, q, vs, ws, rfl, rfl, e2, e4, by rw [← LIM_eq, ← e3.len, ← e5.len]; exact hz, fun p hp => ?_⟩)
      obtain ⟨A', r'⟩ := A.newList hp (e3.app e5)
      exact k _ G _ (.refl _) A' r'
    · cases h

theorem BIs.int {G H : Hp} {i : Int} {v : V} (h : BIs K P G H (.int i) v) : v = .int i := h
theorem sp_int {r : R2} {C : Int → Int → Prop} {g : Int → Int → Int} {f : D → D → Option R} (hr : ∀ x y H Q, (∃ i j, x = .int i ∧ y = .int j ∧ C i j ∧ Q (.int (g i j)) H) → r x y H Q)
    (hf : ∀ a b res, f a b = some res → ∃ i j, a = .int i ∧ b = .int j ∧ C i j ∧ res = .d (.int (g i j))) : OpSpec K P r f := by
  intro mp B G H σ e d1 d2 v1 v2 res Q A i1 i2 h k
  obtain ⟨i, j, rfl, rfl, hc, rfl⟩ := hf _ _ _ h
  exact hr _ _ _ _ ⟨i, j, i1, i2, hc, k _ G H (.refl _) A rfl⟩
theorem sp_sub : OpSpec K P (rI0 fun i j => .int (i - j)) (binD .Sub) := sp_int (C := fun _ _ => True) (g := fun i j => i - j) (fun x y H Q ⟨i, j, a, b, _, q⟩ => ⟨i, j, a, b, q⟩) fun a b res h => by
  cases a <;> cases b <;> simp only [binD] at h <;> try (cases h; done)
  cases h
  exact ⟨_, _, rfl, rfl, trivial, rfl⟩
theorem sp_mul : OpSpec K P (rI CMul fun i j => .int (i * j)) (binD .Mult) := sp_int (C := CMul) (g := fun i j => i * j) (fun x y H Q q => q) fun a b res h => by
  cases a <;> cases b <;> simp only [binD] at h <;> try (cases h; done)
  split at h
  · cases h; exact ⟨_, _, rfl, rfl, big64_ok (by assumption), rfl⟩
  · cases h
theorem sp_fdiv : OpSpec K P (rI CDiv fun i j => .int (i / j)) (binD .FloorDiv) := sp_int (C := CDiv) (g := fun i j => i / j) (fun x y H Q q => q) fun a b res h => by
  cases a <;> cases b <;> simp only [binD] at h <;> try (cases h; done)
  split at h
  · rename_i hc; cases h; simp only [Bool.and_eq_true, decide_eq_true_eq] at hc
    have q := Nat.le_of_ble_eq_true hc.2
    have q0 := hc.1
    exact ⟨_, _, rfl, rfl, ⟨q0, by omega⟩, rfl⟩
  · cases h
theorem sp_mod : OpSpec K P (rI (fun _ j => 0 < j) fun i j => .int (i % j)) (binD .Mod) := sp_int (C := fun _ j => 0 < j) (g := fun i j => i % j) (fun x y H Q q => q) fun a b res h => by
  cases a <;> cases b <;> simp only [binD] at h <;> try (cases h; done)
  split at h
  · rename_i hc; cases h; exact ⟨_, _, rfl, rfl, hc, rfl⟩
  · cases h
theorem sp_pow : OpSpec K P (rI CPow fun i j => .int (i ^ j.toNat)) (binD .Pow) := sp_int (C := CPow) (g := fun i j => i ^ j.toNat) (fun x y H Q q => q) fun a b res h => by
  cases a <;> cases b <;> simp only [binD] at h <;> try (cases h; done)
  split at h
  · rename_i hc; cases h; simp only [Bool.and_eq_true, decide_eq_true_eq] at hc; exact ⟨_, _, rfl, rfl, ⟨hc.1.1, hc.1.2, hc.2⟩, rfl⟩
  · cases h
/-- the operators that the interpreter knows -/
def opOk : Operator → Bool
  | .Add => true | .Sub => true | .Mult => true | .FloorDiv => true | .Mod => true | .Pow => true
  | _ => false
theorem op_all : ∀ {op : Operator}, opOk op = true → ∃ r, OpR X (binaryOp op) r ∧ OpSpec K P r (binD op)
  | .Add, _ => ⟨_, op_addS, sp_add⟩
  | .Sub, _ => ⟨_, op_sub, sp_sub⟩
  | .Mult, _ => ⟨_, op_mul, sp_mul⟩
  | .FloorDiv, _ => ⟨_, op_fdiv, sp_fdiv⟩
  | .Mod, _ => ⟨_, op_mod, sp_mod⟩
  | .Pow, _ => ⟨_, op_pow, sp_pow⟩
/-- .. in place, on what is no list -/
def iopOk : Operator → Bool
  | .Add => true | .Sub => true | .Mult => true | .FloorDiv => true | .Mod => true
  | _ => false
def rAddSI : R2 := fun x y H Q => rI0 (fun i j => .int (i + j)) x y H Q ∨ (∃ i j, x = .str i ∧ y = .str j ∧ i.length + j.length ≤ sizeLine ∧ Q (.str (i ++ j)) H)
def ipD (op : Operator) (a b : D) : Option R := match a with
  | .lst _ => none
  | _ => binD op a b
theorem sp_iadd : OpSpec K P rAddSI (ipD .Add) := by
  intro mp B G H σ e d1 d2 v1 v2 res Q A i1 i2 h k
  cases d1 <;> cases d2 <;> simp only [ipD, binD] at h <;> try (cases h; done)
  · rename_i i j
    cases h
    exact .inl ⟨i, j, i1, i2, k _ G H (.refl _) A rfl⟩
  · rename_i a b
    split at h
    · rename_i hz
      cases h
      refine .inr ⟨mkS a, mkS b, i1, i2, by rw [mkS_len, mkS_len, ← LIM_eq]; exact hz, ?_⟩
      rw [mkS_app]
      exact k _ G H (.refl _) A rfl
    · cases h
theorem OpSpec.ip {r : R2} {op : Operator} (h : OpSpec K P r (binD op)) : OpSpec K P r (ipD op) := by
  intro mp B G H σ e d1 d2 v1 v2 res Q A i1 i2 q k
  refine h mp B G H σ e d1 d2 v1 v2 res Q A i1 i2 ?_ k
  unfold ipD at q
  split at q
  · cases q
  · exact q
theorem iop_all : ∀ {op : Operator}, iopOk op = true → ∃ r, OpR X (inplaceOp op) r ∧ OpSpec K P r (ipD op)
  | .Add, _ => ⟨_, iop_add.or iop_add_str, sp_iadd⟩
  | .Sub, _ => ⟨_, iop_sub, sp_sub.ip⟩
  | .Mult, _ => ⟨_, iop_mul, sp_mul.ip⟩
  | .FloorDiv, _ => ⟨_, iop_fdiv, sp_fdiv.ip⟩
  | .Mod, _ => ⟨_, iop_mod, sp_mod.ip⟩

/-! ### == -/
mutual
theorem dp_of {G H : Hp} (s : Same G H) : ∀ (d : D) (v : V) (n : Nat), dep d = some n → Is K P H d v → Dp K H v (toPy d)
  | .non, _, _, _, h => by rw [show _ = V.non from h]; exact .non
  | .bl b, _, _, _, h => by rw [show _ = V.bl b from h]; exact .bl b
  | .int i, _, _, _, h => by rw [show _ = V.int i from h]; exact .int i
  | .str x, _, _, _, h => by rw [show _ = V.str (mkS x) from h]; exact .str _
  | .tup ds, _, n, hd, ⟨a, vs, e1, e2, e3⟩ => by
    simp only [dep, Option.map_eq_some_iff] at hd
    obtain ⟨m, hm, _⟩ := hd
    subst e1
    exact .tup e2 (dpAll_of s ds vs m hm e3)
  | .lst ds, _, n, hd, ⟨a, vs, e1, e2, e3⟩ => by
    simp only [dep, Option.map_eq_some_iff] at hd
    obtain ⟨m, hm, _⟩ := hd
    subst e1
    exact .lst (.of e2) (dpAll_of s ds vs m hm e3)
  | .frz _, _, _, hd, _ => by simp [dep] at hd
  | .dct _ _, _, _, hd, _ => by simp [dep] at hd
  | .kdt _ _, _, _, hd, _ => by simp [dep] at hd
theorem dpAll_of {G H : Hp} (s : Same G H) : ∀ (ds : List D) (vs : List V) (n : Nat), deps ds = some n → IsL K P H ds vs → DpAll K H vs (toPys ds)
  | [], _, _, _, h => by cases h; exact .nil
  | d :: ds, _, n, hd, ⟨v, r, e1, e2, e3⟩ => by
    simp only [deps] at hd
    split at hd
    · rename_i a b ha hb
      subst e1
      exact .cons (dp_of s d v a ha e2) (dpAll_of s ds r b hb e3)
    · cases hd
end
mutual
theorem lay_of : ∀ (d : D) (n : Nat), dep d = some n → (toPy d).canLay0 = true ∧ (toPy d).depth = n
  | .non, n, h => by simp [dep] at h; subst h; simp [toPy, PyData.canLay0, PyData.depth]
  | .bl b, n, h => by simp [dep] at h; subst h; simp [toPy, PyData.canLay0, PyData.depth]
  | .int i, n, h => by simp [dep] at h; subst h; simp [toPy, PyData.canLay0, PyData.depth]
  | .str x, n, h => by
    simp only [dep] at h
    split at h
    · rename_i q
      cases h
      simp only [toPy, PyData.canLay0, PyData.depth, and_true]
      unfold PyData.strOk
      rw [← Array.all_toList]
      exact q
    · cases h
  | .tup ds, n, h => by
    simp only [dep, Option.map_eq_some_iff] at h
    obtain ⟨m, hm, e⟩ := h
    obtain ⟨h1, h2⟩ := lays_of ds m hm
    simp only [toPy, PyData.canLay0, PyData.depth, h1, h2, e, and_self]
  | .lst ds, n, h => by
    simp only [dep, Option.map_eq_some_iff] at h
    obtain ⟨m, hm, e⟩ := h
    obtain ⟨h1, h2⟩ := lays_of ds m hm
    simp only [toPy, PyData.canLay0, PyData.depth, h1, h2, e, and_self]
  | .frz _, _, h => by simp [dep] at h
  | .dct _ _, _, h => by simp [dep] at h
  | .kdt _ _, _, h => by simp [dep] at h
theorem lays_of : ∀ (ds : List D) (n : Nat), deps ds = some n → PyData.canLayAll0 (toPys ds) = true ∧ PyData.depthAll (toPys ds) = n
  | [], n, h => by simp [deps] at h; subst h; simp [toPys, PyData.canLayAll0, PyData.depthAll]
  | d :: ds, n, h => by
    simp only [deps] at h
    split at h
    · rename_i a b ha hb
      obtain ⟨h1, h2⟩ := lay_of d a ha
      obtain ⟨h3, h4⟩ := lays_of ds b hb
      cases h
      simp only [toPys, PyData.canLayAll0, PyData.depthAll, h1, h2, h3, h4, Bool.and_self, and_self]
    · cases h
end
theorem shaped_of {d : D} (h : okE d = true) : SeqAt.shaped (toPy d) = true := by
  unfold okE at h
  split at h
  · rename_i n hn
    obtain ⟨h1, h2⟩ := lay_of d n hn
    unfold SeqAt.shaped
    rw [h1, h2]
    simpa using h
  · cases h
theorem mkS_beq (x y : List Nat) : (mkS x == mkS y) = (x == y) := by
  rw [Bool.eq_iff_iff]
  simp [mkS]
mutual
theorem eqv_of : ∀ (a b : D) (n m : Nat), dep a = some n → dep b = some m → PyData.eqv (toPy a) (toPy b) = eqB a b
  | .non, b, _, _, _, hb => by cases b <;> first | rfl | (simp [dep] at hb; done) | simp [toPy, PyData.eqv, eqB]
  | .bl x, b, _, _, _, hb => by cases b <;> first | rfl | (simp [dep] at hb; done) | simp [toPy, PyData.eqv, eqB]
  | .int i, b, _, _, _, hb => by cases b <;> first | rfl | (simp [dep] at hb; done) | simp [toPy, PyData.eqv, eqB]
  | .str s, b, _, _, _, hb => by
    cases b <;> first | rfl | (simp [dep] at hb; done) | (simp only [toPy, PyData.eqv, eqB]; exact mkS_beq s _)
  | .tup xs, b, n, m, ha, hb => by
    cases b with
    | tup ys =>
      simp only [dep, Option.map_eq_some_iff] at ha hb
      obtain ⟨n', hn, _⟩ := ha
      obtain ⟨m', hm, _⟩ := hb
      simp only [toPy, PyData.eqv, eqB]
      exact eqvs_of xs ys n' m' hn hm
    | _ => first | rfl | (simp [dep] at hb; done) | simp [toPy, PyData.eqv, eqB]
  | .lst xs, b, n, m, ha, hb => by
    cases b with
    | lst ys =>
      simp only [dep, Option.map_eq_some_iff] at ha hb
      obtain ⟨n', hn, _⟩ := ha
      obtain ⟨m', hm, _⟩ := hb
      simp only [toPy, PyData.eqv, eqB]
      exact eqvs_of xs ys n' m' hn hm
    | _ => first | rfl | (simp [dep] at hb; done) | simp [toPy, PyData.eqv, eqB]
  | .frz _, _, _, _, ha, _ => by simp [dep] at ha
  | .dct _ _, _, _, _, ha, _ => by simp [dep] at ha
  | .kdt _ _, _, _, _, ha, _ => by simp [dep] at ha
theorem eqvs_of : ∀ (a b : List D) (n m : Nat), deps a = some n → deps b = some m → PyData.eqvAll (toPys a) (toPys b) = eqBs a b
  | [], [], _, _, _, _ => rfl
  | [], _ :: _, _, _, _, _ => by simp [toPys, PyData.eqvAll, eqBs]
  | _ :: _, [], _, _, _, _ => by simp [toPys, PyData.eqvAll, eqBs]
  | x :: xs, y :: ys, n, m, ha, hb => by
    simp only [deps] at ha hb
    split at ha
    · rename_i a1 a2 h1 h2
      split at hb
      · rename_i b1 b2 h3 h4
        simp only [toPys, PyData.eqvAll, eqBs]
        rw [eqv_of x y a1 b1 h1 h3, eqvs_of xs ys a2 b2 h2 h4]
      · cases hb
    · cases ha
end
theorem okE_dep {d : D} (h : okE d = true) : ∃ n, dep d = some n := by
  unfold okE at h
  split at h
  · rename_i n hn; exact ⟨n, hn⟩
  · cases h
def rEqS (K : PySem.W.Frag) : R2 := fun x y H Q => rEq x y H Q ∨ rEqD K x y H Q
def rNeS (K : PySem.W.Frag) : R2 := fun x y H Q => rNe x y H Q ∨ rNeD K x y H Q
theorem scal_of {G H : Hp} {a b : D} {x y : V} (h : scalD a b = true) (i1 : BIs K P G H a x) (i2 : BIs K P G H b y) : scal x y = true ∧ decide (x = y) = eqB a b := by
  unfold scalD at h
  split at h
  all_goals first
    | (cases h; done)
    | (rw [show x = _ from i1, show y = _ from i2]; exact ⟨rfl, by simp [eqB, mkS, Bool.beq_eq_decide_eq]⟩)
theorem sp_eq : OpSpec K P (rEqS K) (fun a b => (cmpD .Eq a b).map fun k => R.d (.bl k)) := by
  intro mp B G H σ e d1 d2 v1 v2 res Q A i1 i2 h k
  obtain ⟨b, hb, rfl⟩ := Option.map_eq_some_iff.mp h
  simp only [cmpD, eqD] at hb
  split at hb
  · rename_i hs
    cases hb
    obtain ⟨q1, q2⟩ := scal_of hs i1 i2
    refine .inl ⟨q1, ?_⟩
    rw [q2]
    exact k _ G H (.refl _) A rfl
  · split at hb
    · rename_i hs
      cases hb
      simp only [Bool.and_eq_true] at hs
      obtain ⟨n, hn⟩ := okE_dep hs.1
      obtain ⟨m, hm⟩ := okE_dep hs.2
      refine .inr ⟨toPy d1, toPy d2, dp_of A.same d1 v1 n hn (i1.is A.same), dp_of A.same d2 v2 m hm (i2.is A.same), shaped_of hs.1, shaped_of hs.2, ?_⟩
      rw [eqv_of d1 d2 n m hn hm]
      exact k _ G H (.refl _) A rfl
    · cases hb
theorem sp_ne : OpSpec K P (rNeS K) (fun a b => (cmpD .NotEq a b).map fun k => R.d (.bl k)) := by
  intro mp B G H σ e d1 d2 v1 v2 res Q A i1 i2 h k
  obtain ⟨b, hb, rfl⟩ := Option.map_eq_some_iff.mp h
  simp only [cmpD, Option.map_eq_some_iff] at hb
  obtain ⟨b, hb, rfl⟩ := hb
  simp only [eqD] at hb
  split at hb
  · rename_i hs
    cases hb
    obtain ⟨q1, q2⟩ := scal_of hs i1 i2
    refine .inl ⟨q1, ?_⟩
    rw [q2]
    exact k _ G H (.refl _) A rfl
  · split at hb
    · rename_i hs
      cases hb
      simp only [Bool.and_eq_true] at hs
      obtain ⟨n, hn⟩ := okE_dep hs.1
      obtain ⟨m, hm⟩ := okE_dep hs.2
      refine .inr ⟨toPy d1, toPy d2, dp_of A.same d1 v1 n hn (i1.is A.same), dp_of A.same d2 v2 m hm (i2.is A.same), shaped_of hs.1, shaped_of hs.2, ?_⟩
      rw [eqv_of d1 d2 n m hn hm]
      exact k _ G H (.refl _) A rfl
    · cases hb
end
end MP

namespace MP
open PySem PySem.Spec L2
section
variable {mp : List Nat} {K : PySem.W.Frag} {P : Params} {X : Cx}
/-! ### order, in, is -/
theorem sp_ord {r : R2} {p : Int → Int → Bool} (op : CmpOp) (hr : r = rI0 fun i j => .bl (p i j)) (hf : ∀ a b, cmpD op a b = ordD p a b) : OpSpec K P r (fun a b => (cmpD op a b).map fun k => R.d (.bl k)) := by
  intro mp B G H σ e d1 d2 v1 v2 res Q A i1 i2 h k
  obtain ⟨b, hb, rfl⟩ := Option.map_eq_some_iff.mp h
  rw [hf] at hb
  unfold ordD at hb
  split at hb
  · cases hb
    subst hr
    exact ⟨_, _, i1, i2, k _ G H (.refl _) A rfl⟩
  · cases hb
theorem preB_iff : ∀ (b a : List Nat), preB b a = true ↔ a.take b.length = b
  | [], a => by simp [preB]
  | x :: xs, [] => by simp [preB]
  | x :: xs, y :: ys => by
    simp only [preB, Bool.and_eq_true, beq_iff_eq, preB_iff xs ys, List.length_cons, List.take_succ_cons, List.cons.injEq]
    constructor
    · rintro ⟨rfl, h⟩; exact ⟨rfl, h⟩
    · rintro ⟨rfl, h⟩; exact ⟨rfl, h⟩
theorem subB_iff (b : List Nat) : ∀ a : List Nat, subB b a = true ↔ ∃ i, i + b.length ≤ a.length ∧ (a.drop i).take b.length = b
  | [] => by
    simp only [subB, List.isEmpty_iff]
    constructor
    · rintro rfl; exact ⟨0, by simp⟩
    · rintro ⟨i, h1, h2⟩
      have : b.length = 0 := by rw [List.length_nil] at h1; omega
      exact List.length_eq_zero_iff.mp this
  | y :: ys => by
    simp only [subB, Bool.or_eq_true, preB_iff, subB_iff b ys]
    constructor
    · rintro (h | ⟨i, h1, h2⟩)
      · refine ⟨0, ?_, by simpa using h⟩
        have := congrArg List.length h
        rw [List.length_take] at this
        simp only [List.length_cons] at this ⊢
        omega
      · exact ⟨i + 1, by simp; omega, by simpa using h2⟩
    · rintro ⟨i, h1, h2⟩
      cases i with
      | zero => exact .inl (by simpa using h2)
      | succ i => exact .inr ⟨i, by simp at h1; omega, by simpa using h2⟩
theorem subAt_mkS (a b : List Nat) (i : Nat) : Builtin.Str.subAt (mkS a) (mkS b) i = decide ((a.drop i).take b.length = b) := by
  show ((a.toArray.extract i (i + b.toArray.size)) == b.toArray) = _
  rw [Bool.eq_iff_iff]
  simp only [beq_iff_eq, decide_eq_true_eq]
  constructor
  · intro h
    have := congrArg Array.toList h
    simpa using this
  · intro h
    apply Array.toList_inj.mp
    simpa using h
theorem occ_mkS (a b : List Nat) : (!(Builtin.Str.occurrences (mkS a) (mkS b) 0 (mkS a).length 1).isEmpty) = subB b a := by
  rw [Bool.eq_iff_iff, StrLaws.found_iff, subB_iff]
  simp only [mkS_len, subAt_mkS, decide_eq_true_eq]
theorem eqV_of {G H : Hp} {a b : D} {x y : V} (fa : flatD a = true) (fb : flatD b = true) (h1 : Is K P G a x) (h2 : Is K P H b y) : eqV x y = eqB a b ∧ flatV x = true ∧ flatV y = true := by
  cases a <;> first
    | (cases fa; done)
    | (cases b <;> first
        | (cases fb; done)
        | (rw [show x = _ from h1, show y = _ from h2]; exact ⟨by first | rfl | exact mkS_beq _ _, rfl, rfl⟩))
theorem inV_of {G H : Hp} {a : D} {x : V} (fa : flatD a = true) (h1 : Is K P G a x) : ∀ {xs : List D} {vs : List V}, xs.all flatD = true → IsL K P H xs vs → inV x vs = (xs.any fun y => eqB y a) ∧ vs.all flatV = true
  | [], _, _, h => by cases h; exact ⟨rfl, rfl⟩
  | d :: ds, _, hf, ⟨v, r, e1, e2, e3⟩ => by
    subst e1
    simp only [List.all_cons, Bool.and_eq_true] at hf
    obtain ⟨q1, q2⟩ := inV_of fa h1 hf.2 e3
    obtain ⟨z1, z2, z3⟩ := eqV_of hf.1 fa e2 h1
    constructor
    · show (eqV v x || inV x r) = (eqB d a || ds.any fun y => eqB y a)
      rw [z1, q1]
    · show (flatV v && r.all flatV) = true
      rw [z2, q2]; rfl
def rInS (K : PySem.W.Frag) : R2 := fun x y H Q => (∃ i j, x = .str i ∧ y = .str j ∧ Q (.bl (!(Builtin.Str.occurrences j i 0 j.length 1).isEmpty)) H) ∨ rIn K false x y H Q
def rNInS (K : PySem.W.Frag) : R2 := fun x y H Q => (∃ i j, x = .str i ∧ y = .str j ∧ Q (.bl (!(!(Builtin.Str.occurrences j i 0 j.length 1).isEmpty))) H) ∨ rIn K true x y H Q
theorem inD_of {G H : Hp} {a b : D} {x y : V} {k : Bool} (s : Same G H) (h : inD a b = some k) (i1 : BIs K P G H a x) (i2 : BIs K P G H b y) :
    (∃ l m, a = .str l ∧ b = .str m ∧ k = subB l m) ∨ (∃ p vs, y = .ref p ∧ (SqL K H p vs ∨ SqT K H p vs) ∧ flatV x = true ∧ vs.all flatV = true ∧ inV x vs = k) := by
  unfold inD at h
  split at h
  · cases h; exact .inl ⟨_, _, rfl, rfl, rfl⟩
  · right
    unfold inF at h
    split at h
    · rename_i hf
      cases h
      simp only [Bool.and_eq_true] at hf
      obtain ⟨p, vs, e1, e2, e3⟩ := i2
      have i1' : Is K P H a x := i1.is s
      obtain ⟨q1, q2⟩ := inV_of hf.1 i1' hf.2 (IsL.mono s _ _ e3)
      exact ⟨p, vs, e1, .inl (.of e2), (eqV_of hf.1 hf.1 i1' i1').2.1, q2, q1⟩
    · cases h
  · right
    unfold inF at h
    split at h
    · rename_i hf
      cases h
      simp only [Bool.and_eq_true] at hf
      obtain ⟨p, vs, e1, e2, e3⟩ := i2
      have i1' : Is K P H a x := i1.is s
      obtain ⟨q1, q2⟩ := inV_of hf.1 i1' hf.2 e3
      exact ⟨p, vs, e1, .inr (Same.seqT s e2), (eqV_of hf.1 hf.1 i1' i1').2.1, q2, q1⟩
    · cases h
  · cases h
theorem sp_in : OpSpec K P (rInS K) (fun a b => (cmpD .In a b).map fun k => R.d (.bl k)) := by
  intro mp B G H σ e d1 d2 v1 v2 res Q A i1 i2 h k
  obtain ⟨b, hb, rfl⟩ := Option.map_eq_some_iff.mp h
  rcases inD_of A.same hb i1 i2 with ⟨l, m, rfl, rfl, rfl⟩ | ⟨p, vs, rfl, q1, q2, q3, rfl⟩
  · refine .inl ⟨mkS l, mkS m, i1, i2, ?_⟩
    rw [occ_mkS]
    exact k _ G H (.refl _) A rfl
  · exact .inr ⟨p, vs, rfl, q1, q2, q3, k _ G H (.refl _) A rfl⟩
theorem sp_nin : OpSpec K P (rNInS K) (fun a b => (cmpD .NotIn a b).map fun k => R.d (.bl k)) := by
  intro mp B G H σ e d1 d2 v1 v2 res Q A i1 i2 h k
  obtain ⟨b, hb, rfl⟩ := Option.map_eq_some_iff.mp h
  simp only [cmpD, Option.map_eq_some_iff] at hb
  obtain ⟨b, hb, rfl⟩ := hb
  rcases inD_of A.same hb i1 i2 with ⟨l, m, rfl, rfl, rfl⟩ | ⟨p, vs, rfl, q1, q2, q3, rfl⟩
  · refine .inl ⟨mkS l, mkS m, i1, i2, ?_⟩
    rw [occ_mkS]
    exact k _ G H (.refl _) A rfl
  · exact .inr ⟨p, vs, rfl, q1, q2, q3, k _ G H (.refl _) A rfl⟩
theorem isD_of {G H : Hp} {a b : D} {x y : V} {k : Bool} (h : isD a b = some k) (i1 : BIs K P G H a x) (i2 : BIs K P G H b y) : y = .non ∧ decide (x = .non) = k := by
  unfold isD at h
  split at h
  · refine ⟨i2, ?_⟩
    cases h
    cases a <;> first
      | (rw [show x = _ from i1]; rfl)
      | (obtain ⟨p, vs, e, _⟩ := i1; rw [e]; rfl)
  · cases h
theorem sp_is : OpSpec K P (fun x y H Q => y = .non ∧ Q (.bl (decide (x = .non))) H) (fun a b => (cmpD .Is a b).map fun k => R.d (.bl k)) := by
  intro mp B G H σ e d1 d2 v1 v2 res Q A i1 i2 h k
  obtain ⟨b, hb, rfl⟩ := Option.map_eq_some_iff.mp h
  obtain ⟨q1, q2⟩ := isD_of hb i1 i2
  refine ⟨q1, ?_⟩
  rw [q2]
  exact k _ G H (.refl _) A rfl
theorem sp_isnot : OpSpec K P (fun x y H Q => y = .non ∧ Q (.bl (!decide (x = .non))) H) (fun a b => (cmpD .IsNot a b).map fun k => R.d (.bl k)) := by
  intro mp B G H σ e d1 d2 v1 v2 res Q A i1 i2 h k
  obtain ⟨b, hb, rfl⟩ := Option.map_eq_some_iff.mp h
  simp only [cmpD, Option.map_eq_some_iff] at hb
  obtain ⟨b, hb, rfl⟩ := hb
  obtain ⟨q1, q2⟩ := isD_of hb i1 i2
  refine ⟨q1, ?_⟩
  rw [q2]
  exact k _ G H (.refl _) A rfl
def CmpSpec (K : PySem.W.Frag) (P : Params) (r : R2) (op : CmpOp) : Prop := OpSpec K P r (fun a b => (cmpD op a b).map fun k => R.d (.bl k))
theorem cmp_all (hu : X.A.units + 64 < cLine) : ∀ op : CmpOp, ∃ r, OpR X (compareOp op) r ∧ CmpSpec X.K P r op
  | .Eq => ⟨_, op_eq.or (op_eqD hu), sp_eq⟩
  | .NotEq => ⟨_, op_ne.or (op_neD hu), sp_ne⟩
  | .Lt => ⟨_, op_lt, sp_ord .Lt rfl fun _ _ => rfl⟩
  | .LtE => ⟨_, op_le, sp_ord .LtE rfl fun _ _ => rfl⟩
  | .Gt => ⟨_, op_gt, sp_ord .Gt rfl fun _ _ => rfl⟩
  | .GtE => ⟨_, op_ge, sp_ord .GtE rfl fun _ _ => rfl⟩
  | .In => ⟨_, op_in_str.or op_in_seq, sp_in⟩
  | .NotIn => ⟨_, op_notin_str.or op_notIn_seq, sp_nin⟩
  | .Is => ⟨_, op_isN, sp_is⟩
  | .IsNot => ⟨_, op_notN, sp_isnot⟩

/-! ### subscripts -/
theorem atD_atI {α : Type} (xs : List α) (i : Int) (v : α) (h : atD xs i = some v) : atI xs i = some v := by
  unfold atD at h
  unfold atI ixN
  split at h
  · rename_i h0
    have hlt : i.toNat < xs.length := (List.getElem?_eq_some_iff.mp h).1
    rw [if_pos h0, if_pos (by omega)]
    exact h
  · rename_i h0
    split at h
    · rename_i h1
      rw [if_neg h0, if_pos (by omega)]
      exact h
    · cases h
theorem IsL.atD {G : Hp} {xs : List D} {vs : List V} {i : Int} {d : D} (h : IsL K P G xs vs) (q : atD xs i = some d) : ∃ v, atI vs i = some v ∧ Is K P G d v := by
  have hl := h.len
  unfold MP.atD at q
  split at q
  · rename_i h0
    obtain ⟨v, e1, e2⟩ := h.get q
    refine ⟨v, atD_atI vs i v ?_, e2⟩
    unfold MP.atD
    rw [if_pos h0]; exact e1
  · rename_i h0
    split at q
    · rename_i h1
      obtain ⟨v, e1, e2⟩ := h.get q
      refine ⟨v, atD_atI vs i v ?_, e2⟩
      unfold MP.atD
      rw [if_neg h0, ← hl, if_pos h1]; exact e1
    · cases q
/-- dicts, by values -/
theorem ix_dget (hu : X.A.units + 1 < cLine) : IxR X (fun x y H Q => ∃ a v, x = .ref a ∧ DGet H a y (some v) ∧ Q v H) := by
  intro value slice pins s σ H x y v u Q I rx ry h hs
  obtain ⟨a, z, rfl, g, q⟩ := h
  obtain rfl : v = Value.ref a := rx
  exact PyProof.Rows.tail_any (dict_typeIs I g) PySem.F.slot_dict_getitem.lookup (d_getItem hu I g ry fun w' s3 I3 rw' => ⟨z, H, I3, rw', q⟩) hs
theorem ent_find {P : Params} {x : Str} : ∀ {ks : List Key} {vs : List V} {es : List DictEntry}, EntOk P ks vs es → RelO (valV (ks.zip vs) (.inr x)) ((es.find? fun e => Value.isStrOf x e.key).map (·.val))
  | _, _, _, .nil => trivial
  | _, _, _, .cons (x := y) (e := e) (ks := ks) (vs := vs) (es := es) h1 h2 h3 h4 => by
    have ih := ent_find (x := x) h4
    rw [List.zip_cons_cons, List.find?_cons]
    by_cases hx : y = x
    · subst hx
      rw [valV_pos rfl, show Value.isStrOf y e.key = true by rw [h1]; simp [Value.isStrOf]]
      exact h3
    · rw [valV_neg (fun z => hx (Sum.inr.inj z)), show Value.isStrOf x e.key = false by rw [h1]; simp [Value.isStrOf]; exact hx]
      exact ih
theorem keysLit_of {P : Params} : ∀ {ks : List Key} {vs : List V} {es : List DictEntry}, EntOk P ks vs es → PySem.W.KeysLit P es
  | _, _, _, .nil => trivial
  | _, _, _, .cons h1 h2 _ h4 => ⟨⟨_, _, h1, h2⟩, keysLit_of h4⟩
theorem kfind_of {K : PySem.W.Frag} {P : Params} {a : Addr} {es : Array DictEntry} {n : Nat} {ks : List Key} {vs : List V} (x : Str) (h : EntOk P ks vs es.toList) : RelO (valV (ks.zip vs) (.inr x)) (PySem.findBy Value.isStrOf es x) := by
  have := ent_find (x := x) h
  unfold PySem.findBy
  rw [← Array.find?_toList]
  exact this
end
end MP

namespace MP
open PySem PySem.Spec L2
section
variable {mp : List Nat} {K : PySem.W.Frag} {P : Params} {X : Cx} {c : Ctx}
/-! ### truth -/
theorem tru_of {G H : Hp} {d : D} {v : V} {k : Bool} (s : Same G H) (h : tru d = some k) (i : BIs K P G H d v) : TruV K v H k := by
  cases d with
  | non => rw [show v = V.non from i]; cases h; rfl
  | bl b => rw [show v = V.bl b from i]; cases h; rfl
  | int z => rw [show v = V.int z from i]; cases h; rfl
  | str l =>
    rw [show v = V.str (mkS l) from i]
    simp only [tru] at h
    split at h
    · rename_i hz
      cases h
      refine ⟨by rw [mkS_len, ← LIM_eq]; exact hz, ?_⟩
      rw [mkS_len]
      cases l <;> rfl
    · cases h
  | tup xs =>
    obtain ⟨a, vs, rfl, e2, e3⟩ := i
    cases h
    refine .inr (.inl ⟨vs, Same.seqT s e2, ?_⟩)
    have := e3.len
    cases xs <;> cases vs <;> first | rfl | (simp at this)
  | lst xs =>
    obtain ⟨a, vs, rfl, e2, e3⟩ := i
    cases h
    refine .inl ⟨vs, .of e2, ?_⟩
    have := e3.len
    cases xs <;> cases vs <;> first | rfl | (simp at this)
  | frz xs => cases h
  | dct ks vs => cases h
  | kdt ks vs => cases h

/-! ### what reads as the interpreter says -/
/-- behind a first part -/
theorem tS_of {f : M R} {σ : St} {H : Hp} {Q : VK} {B : Base mp} {G : Hp} {e : Env} {p : R × Env} (A : Agree K P B G H σ e) (h : f e = some p) (k : ∀ v G' H', Same G G' → Agree K P B G' H' σ p.2 → RIs K P B G' H' σ p.2 v p.1 → Q v H') : tS mp K P f σ H Q :=
  ⟨B, G, e, p.1, p.2, A, h, k⟩
theorem pe_varS {i : Nat} {x : Str} {pos : Pos} (hN : X.N[i]? = some x) (hv : Vis X.env.scope x) (hd : (x == ("__debug__" : Str)) = false) (hcd : (x == ("__classdict__" : Str)) = false) : PE X (.Name x pos) (tS mp K P (evE c (.var i))) :=
  PE.weak (pe_var hN hv hd hcd) fun σ H Q ⟨B, G, e, r, e', A, h, k⟩ => by
    simp only [evE] at h
    split at h
    · cases h
    · rename_i d hd
      cases h
      obtain ⟨v, e1, e2⟩ := A.val i d hd
      exact ⟨v, e1, k v G H (.refl _) A e2⟩
    · rename_i xs hx
      cases h
      obtain ⟨p, vs, e1, _⟩ := A.own i xs hx
      exact ⟨_, e1, k _ G H (.refl _) A ⟨e1, xs, hx⟩⟩
theorem pe_cstS {k : Const} {j : Nat} {pos : Pos} {d : D} (h : match k with | .none => d = .non | .bool b => d = .bl b | .int i => d = .int i | .str x => ∃ l, d = .str l ∧ x = mkS l | _ => False) : PE X (.Constant k j pos) (tS mp K P (evE c (.cst d))) := by
  cases k with
  | none => subst h; exact PE.weak pe_non fun σ H Q ⟨B, G, e, r, e', A, h, k⟩ => by simp only [evE, M.ret] at h; cases h; exact k _ G H (.refl _) A rfl
  | bool b => subst h; exact PE.weak pe_bl fun σ H Q ⟨B, G, e, r, e', A, h, k⟩ => by simp only [evE, M.ret] at h; cases h; exact k _ G H (.refl _) A rfl
  | int i => subst h; exact PE.weak pe_int fun σ H Q ⟨B, G, e, r, e', A, h, k⟩ => by simp only [evE, M.ret] at h; cases h; exact k _ G H (.refl _) A rfl
  | str x => obtain ⟨l, rfl, rfl⟩ := h; exact PE.weak pe_str fun σ H Q ⟨B, G, e, r, e', A, h, k⟩ => by simp only [evE, M.ret] at h; cases h; exact k _ G H (.refl _) A rfl
  | _ => exact h.elim
/-- a constant of the module -/
def GlobOk (X : Cx) (c : Ctx) : Prop := ∀ x d, c.glob x = some d → ∃ u v, X.mg x = some u ∧ RelV v u ∧ ∀ G, Is X.K X.w.params G d v
theorem pe_gloS {x : Str} {pos : Pos} {d : D} (hg : Gl X x) (hd : (x == ("__debug__" : Str)) = false) (ok : GlobOk X c) (hs : c.glob x = some d) : PE X (.Name x pos) (tS mp X.K X.w.params (evE c (.glo x))) := by
  obtain ⟨u, v, e1, e2, e3⟩ := ok x d hs
  exact PE.weak (pe_glob hg e1 e2 hd) fun σ H Q ⟨B, G, e, r, e', A, h, k⟩ => by
    simp only [evE, hs] at h
    cases h
    exact k v G H (.refl _) A (e3 G)
theorem pe_negS {a : Expr} {pos : Pos} {ea : E} (ha : PE X a (tS mp K P (evE c ea))) : PE X (.UnaryOp .USub a pos) (tS mp K P (evE c (.neg ea))) :=
  PE.weak (pe_un un_neg ha) fun σ H Q ⟨B, G, e, r, e', A, h, k⟩ => by
    simp only [evE] at h
    replace h := bd_some h; obtain ⟨x, e1, h1, h⟩ := h
    replace h := bd_some h; obtain ⟨dx, e2, h2, h⟩ := h
    replace h2 := lk_some h2; obtain ⟨h2, z2⟩ := h2
    replace h := lift_some h; obtain ⟨h3, z3⟩ := h
    dsimp only at z2 z3 h2 h3
    subst z2 z3
    refine ⟨B, G, e, x, _, A, h1, fun v G' H' s A' r' => ?_⟩
    split at h3
    · rename_i i
      cases h3
      exact ⟨i, A'.look r' h2, k _ G' H' s A' rfl⟩
    · cases h3
theorem pe_notS {a : Expr} {pos : Pos} {ea : E} (ha : PE X a (tS mp X.K P (evE c ea))) : PE X (.UnaryOp .Not a pos) (tS mp X.K P (evE c (.not ea))) :=
  PE.weak (pe_notT ha) fun σ H Q ⟨B, G, e, r, e', A, h, k⟩ => by
    simp only [evE] at h
    replace h := bd_some h; obtain ⟨x, e1, h1, h⟩ := h
    replace h := bd_some h; obtain ⟨dx, e2, h2, h⟩ := h
    replace h2 := lk_some h2; obtain ⟨h2, z2⟩ := h2
    replace h := lift_some h; obtain ⟨h3, z3⟩ := h
    dsimp only at z2 z3 h2 h3
    subst z2 z3
    obtain ⟨b, hb, hr⟩ := Option.map_eq_some_iff.mp h3
    refine ⟨B, G, e, x, _, A, h1, fun v G' H' s A' r' => ⟨b, tru_of A'.same hb (A'.look r' h2), ?_⟩⟩
    subst hr
    exact k _ G' H' s A' rfl
theorem pe_cmpS {a b : Expr} {pos : Pos} {ea eb : E} {op : CmpOp} (hu : X.A.units + 64 < cLine) (ha : PE X a (tS mp X.K P (evE c ea))) (hb : PE X b (tS mp X.K P (evE c eb))) (hm : behindInMarks op b = false) : PE X (.Compare a [op] [b] pos) (tS mp X.K P (evE c (.cmp op ea eb))) := by
  obtain ⟨r, ho, sp⟩ := cmp_all (P := P) hu op
  exact PE.weak (pe_cmpR ho ha hb hm) fun σ H Q h => op2 (g := fun a b => (cmpD op a b).map fun k => R.d (.bl k)) sp σ H Q (by simpa only [evE] using h)
theorem pt_cmpS {a b : Expr} {pos : Pos} {ea eb : E} {op : CmpOp} (hu : X.A.units + 64 < cLine) (ha : PE X a (tS mp X.K P (evE c ea))) (hb : PE X b (tS mp X.K P (evE c eb))) (hm : behindInMarks op b = false) : PT X (.Compare a [op] [b] pos) (tST mp X.K P (evT c (.cmp op ea eb))) := by
  obtain ⟨r, ho, sp⟩ := cmp_all (P := P) hu op
  refine PT.weak (pt_cmpR ho ha hb hm) fun σ H Q ⟨B, G, e, b, e', A, h, k⟩ => ?_
  simp only [evT] at h
  replace h := bd_some h; obtain ⟨x, e1, h1, h⟩ := h
  replace h := bd_some h; obtain ⟨dx, e2, h2, h⟩ := h
  replace h2 := lk_some h2; obtain ⟨h2, z2⟩ := h2
  replace h := lift_some h; obtain ⟨h3, z3⟩ := h
  dsimp only at z2 z3 h2 h3
  subst z2 z3
  split at h3
  · rename_i b'
    cases h3
    refine op2 (g := fun a b => (cmpD op a b).map fun k => R.d (.bl k)) sp σ H _ ⟨B, G, e, x, _, A, (by simpa only [evE] using h1), fun v G' H' s A' r' => ⟨_, A'.look r' h2, k G' H' s A'⟩⟩
  · cases h3
theorem chain_of {ea eb ed : E} {op op' : CmpOp} {r r' : R2} (sp : CmpSpec K P r op) (sp' : CmpSpec K P r' op') (σ : St) (H : Hp) (Q : VK) (h : tS mp K P (evE c (.chn op op' ea eb ed)) σ H Q) :
    tChain r r' (tS mp K P (evE c ea)) (tS mp K P (evE c eb)) (tS mp K P (evE c ed)) σ H Q := by
  obtain ⟨B, G, e, res, e', A, h, k⟩ := h
  simp only [evE] at h
  replace h := bd_some h; obtain ⟨x, e1, h1, h⟩ := h
  replace h := bd_some h; obtain ⟨y, e2, h2, h⟩ := h
  replace h := bd_some h; obtain ⟨dx, e3, h3, h⟩ := h
  replace h := bd_some h; obtain ⟨dy, e4, h4, h⟩ := h
  replace h3 := lk_some h3; obtain ⟨h3, z3⟩ := h3
  replace h4 := lk_some h4; obtain ⟨h4, z4⟩ := h4
  dsimp only at z3 z4 h3 h4
  subst z3 z4
  replace h := bd_some h; obtain ⟨b, e5, h5, h⟩ := h
  replace h5 := lift_some h5; obtain ⟨h5, z5⟩ := h5
  dsimp only at z5 h5
  subst z5
  refine ⟨B, G, e, x, e1, A, h1, fun v1 G1 H1 s1 A1 r1 => ?_⟩
  obtain ⟨G1', s1', A1', i1, _⟩ := A1.unf r1
  refine ⟨B, G1', e1, y, _, A1', h2, fun v2 G2 H2 s2 A2 r2 => ?_⟩
  obtain ⟨G2', s2', A2', i2, _⟩ := A2.unf r2
  have s12 : Same G1' G2' := s2.trans s2'
  refine sp _ B G2' H2 σ _ dx dy v1 v2 (.d (.bl b)) _ A2' (A2'.lookS (i1.mono s12) h3) (A2'.lookS i2 h4) (by show Option.map _ (cmpD op dx dy) = _; rw [h5]; rfl) fun v G3 H3 s3 A3 r3 => ⟨b, r3, ?_⟩
  cases b with
  | true =>
    rw [if_pos rfl]
    rw [if_pos rfl] at h
    replace h := bd_some h; obtain ⟨z, e6, h6, h⟩ := h
    replace h := bd_some h; obtain ⟨dy', e7, h7, h⟩ := h
    replace h := bd_some h; obtain ⟨dz, e8, h8, h⟩ := h
    replace h7 := lk_some h7; obtain ⟨h7, z7⟩ := h7
    replace h8 := lk_some h8; obtain ⟨h8, z8⟩ := h8
    replace h := lift_some h; obtain ⟨h9, z9⟩ := h
    dsimp only at z7 z8 z9 h7 h8 h9
    subst z7 z8 z9
    refine ⟨B, G3, _, z, _, A3, h6, fun v3 G4 H4 s4 A4 r4 => ?_⟩
    exact sp' _ B G4 H4 σ _ dy' dz v2 v3 res Q A4 (A4.lookS (i2.mono (s3.trans s4)) h7) (A4.look r4 h8) h9 fun v G5 H5 s5 A5 r5 =>
      k v G5 H5 (s1.trans (s1'.trans (s12.trans (s3.trans (s4.trans s5))))) A5 r5
  | false =>
    rw [if_neg Bool.false_ne_true]
    rw [if_neg Bool.false_ne_true] at h
    cases h
    exact k _ G3 H3 (s1.trans (s1'.trans (s12.trans s3))) A3 rfl
theorem pe_chnS {a b d : Expr} {pos : Pos} {ea eb ed : E} {op op' : CmpOp} (hu : X.A.units + 64 < cLine) (ha : PE X a (tS mp X.K P (evE c ea))) (hb : PE X b (tS mp X.K P (evE c eb))) (hd : PE X d (tS mp X.K P (evE c ed))) (hm : lastMarks [op, op'] [b, d] = false) :
    PE X (.Compare a [op, op'] [b, d] pos) (tS mp X.K P (evE c (.chn op op' ea eb ed))) := by
  obtain ⟨r, ho, sp⟩ := cmp_all (P := P) hu op
  obtain ⟨r', ho', sp'⟩ := cmp_all (P := P) hu op'
  exact PE.weak (pe_chain ho ho' ha hb hd hm) fun σ H Q h => chain_of sp sp' σ H Q h
theorem pt_chnS {a b d : Expr} {pos : Pos} {ea eb ed : E} {op op' : CmpOp} (hu : X.A.units + 64 < cLine) (ha : PE X a (tS mp X.K P (evE c ea))) (hb : PE X b (tS mp X.K P (evE c eb))) (hd : PE X d (tS mp X.K P (evE c ed))) (hm : lastMarks [op, op'] [b, d] = false) :
    PT X (.Compare a [op, op'] [b, d] pos) (tST mp X.K P (evT c (.chn op op' ea eb ed))) := by
  obtain ⟨r, ho, sp⟩ := cmp_all (P := P) hu op
  obtain ⟨r', ho', sp'⟩ := cmp_all (P := P) hu op'
  refine PT.weak (pt_chain ho ho' ha hb hd hm) fun σ H Q ⟨B, G, e, b, e', A, h, k⟩ => ?_
  simp only [evT] at h
  replace h := bd_some h; obtain ⟨x, e1, h1, h⟩ := h
  replace h := bd_some h; obtain ⟨dx, e2, h2, h⟩ := h
  replace h2 := lk_some h2; obtain ⟨h2, z2⟩ := h2
  replace h := lift_some h; obtain ⟨h3, z3⟩ := h
  dsimp only at z2 z3 h2 h3
  subst z2 z3
  split at h3
  · rename_i b'
    cases h3
    exact chain_of sp sp' σ H _ ⟨B, G, e, x, _, A, h1, fun v G' H' s A' r' => ⟨_, A'.look r' h2, k G' H' s A'⟩⟩
  · cases h3
/-- a plain expression as a test -/
theorem pt_plainS {a : Expr} {ea : E} (ha : PE X a (tS mp X.K P (evE c ea))) (he : ∀ whole, isTrue a X.env whole = (do let v ← whole; standAt a.pos; holding [v] (truthy v)))
    (hev : evT c ea = M.bd (evE c ea) fun x => M.bd (lk x) fun dx => lift (tru dx)) : PT X a (tST mp X.K P (evT c ea)) :=
  PT.weak (pt_truth ha he) fun σ H Q ⟨B, G, e, b, e', A, h, k⟩ => by
    rw [hev] at h
    replace h := bd_some h; obtain ⟨x, e1, h1, h⟩ := h
    replace h := bd_some h; obtain ⟨dx, e2, h2, h⟩ := h
    replace h2 := lk_some h2; obtain ⟨h2, z2⟩ := h2
    replace h := lift_some h; obtain ⟨h3, z3⟩ := h
    dsimp only at z2 z3 h2 h3
    subst z2 z3
    exact ⟨B, G, e, x, _, A, h1, fun v G' H' s A' r' => ⟨b, tru_of A'.same h3 (A'.look r' h2), k G' H' s A'⟩⟩
theorem pt_notS {a : Expr} {pos : Pos} {ea : E} (ha : PT X a (tST mp K P (evT c ea))) : PT X (.UnaryOp .Not a pos) (tST mp K P (evT c (.not ea))) :=
  PT.weak (pt_not ha) fun σ H Q ⟨B, G, e, b, e', A, h, k⟩ => by
    simp only [evT] at h
    replace h := bd_some h; obtain ⟨x, e1, h1, h⟩ := h
    cases h
    exact ⟨B, G, e, x, _, A, h1, k⟩
/-- a if t else b as a test -/
theorem pt_iteS {t a b : Expr} {pos : Pos} {et ea eb : E} (ht : PT X t (tST mp K P (evT c et))) (ha : PT X a (tST mp K P (evT c ea))) (hb : PT X b (tST mp K P (evT c eb))) : PT X (.IfExp t a b pos) (tST mp K P (evT c (.ite et ea eb))) := by
  refine ⟨fun pins s σ H Q I h => ?_⟩
  obtain ⟨B, G, e, b', e', A, h, k⟩ := h
  simp only [evT] at h
  replace h := bd_some h; obtain ⟨x, e1, h1, h⟩ := h
  show wpAny _ _ (do if ← isTrue t X.env (eval t X.env) then isTrue a X.env (eval a X.env) else isTrue b X.env (eval b X.env)) _ _ s
  refine wpAny_bind (thn (ht.run pins s σ H (fun c' H1 => ∃ G1, Same G G1 ∧ Agree K P B G1 H1 σ e1 ∧ c' = x) I ⟨B, G, e, x, e1, A, h1, fun G' H' s A' => ⟨G', s, A', rfl⟩⟩) fun c' s1 ⟨H1, I1, G1, s1', A1, ec⟩ => ?_)
  subst ec
  cases c' with
  | true => exact ha.run pins s1 σ H1 Q I1 ⟨B, G1, e1, b', e', A1, h, fun G' H' s A' => k G' H' (s1'.trans s) A'⟩
  | false => exact hb.run pins s1 σ H1 Q I1 ⟨B, G1, e1, b', e', A1, h, fun G' H' s A' => k G' H' (s1'.trans s) A'⟩
theorem pe_iteS {t a b : Expr} {pos : Pos} {et ea eb : E} (ht : PT X t (tST mp K P (evT c et))) (ha : PE X a (tS mp K P (evE c ea))) (hb : PE X b (tS mp K P (evE c eb))) : PE X (.IfExp t a b pos) (tS mp K P (evE c (.ite et ea eb))) :=
  PE.weak (pe_ifExp ht ha hb) fun σ H Q ⟨B, G, e, r, e', A, h, k⟩ => by
    simp only [evE] at h
    replace h := bd_some h; obtain ⟨x, e1, h1, h⟩ := h
    refine ⟨B, G, e, x, e1, A, h1, fun G1 H1 s1 A1 => ?_⟩
    cases x with
    | true =>
      rw [if_pos rfl] at h ⊢
      exact ⟨B, G1, e1, r, e', A1, h, fun v G' H' s A' r' => k v G' H' (s1.trans s) A' r'⟩
    | false =>
      rw [if_neg Bool.false_ne_true] at h ⊢
      exact ⟨B, G1, e1, r, e', A1, h, fun v G' H' s A' r' => k v G' H' (s1.trans s) A' r'⟩
/-! and, or -/
theorem pw_and1S {a : Expr} {pos : Pos} {ea : E} (ha : PT X a (tST mp K P (evT c ea))) : PW X (.BoolOp .And [a] pos) (tST mp K P (evTA c [ea])) :=
  PW.weak (pw_and1 ha) fun σ H Q ⟨B, G, e, b, e', A, h, k⟩ => by
    simp only [evTA] at h
    replace h := bd_some h; obtain ⟨x, e1, h1, h⟩ := h
    refine ⟨B, G, e, x, e1, A, h1, fun G' H' s A' => ?_⟩
    cases x <;> (cases h; exact k G' H' s A')
theorem pw_andS {a b : Expr} {rest : List Expr} {pos : Pos} {ea : E} {er : List E} (ha : PT X a (tST mp K P (evT c ea))) (hb : PW X (.BoolOp .And (b :: rest) pos) (tST mp K P (evTA c er))) : PW X (.BoolOp .And (a :: b :: rest) pos) (tST mp K P (evTA c (ea :: er))) :=
  PW.weak (pw_and ha hb) fun σ H Q ⟨B, G, e, b, e', A, h, k⟩ => by
    simp only [evTA] at h
    replace h := bd_some h; obtain ⟨x, e1, h1, h⟩ := h
    refine ⟨B, G, e, x, e1, A, h1, fun G1 H1 s1 A1 => ?_⟩
    cases x with
    | true =>
      rw [if_pos rfl] at h ⊢
      exact ⟨B, G1, e1, b, e', A1, h, fun G' H' s A' => k G' H' (s1.trans s) A'⟩
    | false =>
      rw [if_neg Bool.false_ne_true] at h ⊢
      cases h
      exact k G1 H1 s1 A1
theorem pw_or1S {a : Expr} {pos : Pos} {ea : E} (ha : PT X a (tST mp K P (evT c ea))) : PW X (.BoolOp .Or [a] pos) (tST mp K P (evTO c [ea])) :=
  PW.weak (pw_or1 ha) fun σ H Q ⟨B, G, e, b, e', A, h, k⟩ => by
    simp only [evTO] at h
    replace h := bd_some h; obtain ⟨x, e1, h1, h⟩ := h
    refine ⟨B, G, e, x, e1, A, h1, fun G' H' s A' => ?_⟩
    cases x <;> (cases h; exact k G' H' s A')
theorem pw_orS {a b : Expr} {rest : List Expr} {pos : Pos} {ea : E} {er : List E} (ha : PT X a (tST mp K P (evT c ea))) (hb : PW X (.BoolOp .Or (b :: rest) pos) (tST mp K P (evTO c er))) : PW X (.BoolOp .Or (a :: b :: rest) pos) (tST mp K P (evTO c (ea :: er))) :=
  PW.weak (pw_or ha hb) fun σ H Q ⟨B, G, e, b, e', A, h, k⟩ => by
    simp only [evTO] at h
    replace h := bd_some h; obtain ⟨x, e1, h1, h⟩ := h
    refine ⟨B, G, e, x, e1, A, h1, fun G1 H1 s1 A1 => ?_⟩
    cases x with
    | false =>
      rw [if_neg Bool.false_ne_true] at h ⊢
      exact ⟨B, G1, e1, b, e', A1, h, fun G' H' s A' => k G' H' (s1.trans s) A'⟩
    | true =>
      rw [if_pos rfl] at h ⊢
      cases h
      exact k G1 H1 s1 A1
theorem pe_and1S {a : Expr} {pos : Pos} {ea : E} (ha : PE X a (tS mp K P (evE c ea))) : PE X (.BoolOp .And [a] pos) (tS mp K P (evAnd c [ea])) :=
  PE.weak (pe_one ha) fun σ H Q h => by simpa only [evAnd] using h
theorem pe_or1S {a : Expr} {pos : Pos} {ea : E} (ha : PE X a (tS mp K P (evE c ea))) : PE X (.BoolOp .Or [a] pos) (tS mp K P (evOr c [ea])) :=
  PE.weak (pe_one ha) fun σ H Q h => by simpa only [evOr] using h
theorem pe_andS {a b : Expr} {rest : List Expr} {pos : Pos} {ea eb : E} {er : List E} (ha : PE X a (tS mp X.K P (evE c ea))) (hb : PE X (.BoolOp .And (b :: rest) pos) (tS mp X.K P (evAnd c (eb :: er)))) : PE X (.BoolOp .And (a :: b :: rest) pos) (tS mp X.K P (evAnd c (ea :: eb :: er))) :=
  PE.weak (pe_andT ha hb) fun σ H Q ⟨B, G, e, r, e', A, h, k⟩ => by
    rw [evAnd] at h
    · replace h := bd_some h; obtain ⟨x, e1, h1, h⟩ := h
      replace h := bd_some h; obtain ⟨dx, e2, h2, h⟩ := h
      replace h2 := lk_some h2; obtain ⟨h2, z2⟩ := h2
      dsimp only at z2 h2
      subst z2
      replace h := bd_some h; obtain ⟨b, e3, h3, h⟩ := h
      replace h3 := lift_some h3; obtain ⟨h3, z3⟩ := h3
      dsimp only at z3 h3
      subst z3
      refine ⟨B, G, e, x, _, A, h1, fun v G1 H1 s1 A1 r1 => ?_⟩
      obtain ⟨G1', s1', A1', i1, r1'⟩ := A1.unf r1
      refine ⟨b, tru_of A1'.same h3 (A1'.lookS i1 h2), ?_⟩
      cases b with
      | true =>
        rw [if_pos rfl] at h ⊢
        exact ⟨B, G1', _, r, e', A1', h, fun v G' H' s A' r' => k v G' H' ((s1.trans s1').trans s) A' r'⟩
      | false =>
        rw [if_neg Bool.false_ne_true] at h ⊢
        cases h
        exact k v G1' H1 (s1.trans s1') A1' r1'
    · simp
theorem pe_orS {a b : Expr} {rest : List Expr} {pos : Pos} {ea eb : E} {er : List E} (ha : PE X a (tS mp X.K P (evE c ea))) (hb : PE X (.BoolOp .Or (b :: rest) pos) (tS mp X.K P (evOr c (eb :: er)))) : PE X (.BoolOp .Or (a :: b :: rest) pos) (tS mp X.K P (evOr c (ea :: eb :: er))) :=
  PE.weak (pe_orT ha hb) fun σ H Q ⟨B, G, e, r, e', A, h, k⟩ => by
    rw [evOr] at h
    · replace h := bd_some h; obtain ⟨x, e1, h1, h⟩ := h
      replace h := bd_some h; obtain ⟨dx, e2, h2, h⟩ := h
      replace h2 := lk_some h2; obtain ⟨h2, z2⟩ := h2
      dsimp only at z2 h2
      subst z2
      replace h := bd_some h; obtain ⟨b, e3, h3, h⟩ := h
      replace h3 := lift_some h3; obtain ⟨h3, z3⟩ := h3
      dsimp only at z3 h3
      subst z3
      refine ⟨B, G, e, x, _, A, h1, fun v G1 H1 s1 A1 r1 => ?_⟩
      obtain ⟨G1', s1', A1', i1, r1'⟩ := A1.unf r1
      refine ⟨b, tru_of A1'.same h3 (A1'.lookS i1 h2), ?_⟩
      cases b with
      | false =>
        rw [if_neg Bool.false_ne_true] at h ⊢
        exact ⟨B, G1', _, r, e', A1', h, fun v G' H' s A' r' => k v G' H' ((s1.trans s1').trans s) A' r'⟩
      | true =>
        rw [if_pos rfl] at h ⊢
        cases h
        exact k v G1' H1 (s1.trans s1') A1' r1'
    · simp
/-! argument lists, displays -/
theorem pa_nilD : PA X [] (tSD mp K P (evDs c [])) := PA.weak pa_nil fun σ H Q ⟨B, G, e, ds, e', A, h, k⟩ => by
  simp only [evDs] at h
  cases h
  exact k [] G H (.refl _) A rfl
theorem pa_consD {a : Expr} {es : List Expr} {ea : E} {er : List E} (ha : PE X a (tS mp K P (evE c ea))) (hr : PA X es (tSD mp K P (evDs c er))) (hs : starEach (a :: es) X.env = (false, eval a X.env) :: starEach es X.env) : PA X (a :: es) (tSD mp K P (evDs c (ea :: er))) :=
  PA.weak (pa_cons ha hr hs) fun σ H Q ⟨B, G, e, ds, e', A, h, k⟩ => by
    simp only [evDs] at h
    replace h := bd_some h; obtain ⟨x, e1, h1, h⟩ := h
    replace h := bd_some h; obtain ⟨d, e2, h2, h⟩ := h
    replace h := bd_some h; obtain ⟨ds', e3, h3, h⟩ := h
    cases h
    refine ⟨B, G, e, x, e1, A, h1, fun v G1 H1 s1 A1 r1 => ?_⟩
    obtain ⟨G1', s1', A1', i1⟩ := A1.cap r1 h2
    exact ⟨B, G1', e2, ds', _, A1', h3, fun vs G2 H2 s2 A2 i2 => k _ G2 H2 ((s1.trans s1').trans s2) A2 ⟨v, vs, rfl, Is.mono s2 _ _ i1, i2⟩⟩
theorem pa_nilO : PA X [] (tSO mp K P (evOs c [])) := PA.weak pa_nil fun σ H Q ⟨B, G, e, ds, e', A, h, k⟩ => by
  simp only [evOs] at h
  cases h
  exact k [] G H (.refl _) A .nil
theorem pa_consO {a : Expr} {es : List Expr} {ea : E} {er : List E} (ha : PE X a (tS mp K P (evE c ea))) (hr : PA X es (tSO mp K P (evOs c er))) (hs : starEach (a :: es) X.env = (false, eval a X.env) :: starEach es X.env) : PA X (a :: es) (tSO mp K P (evOs c (ea :: er))) :=
  PA.weak (pa_cons ha hr hs) fun σ H Q ⟨B, G, e, ds, e', A, h, k⟩ => by
    simp only [evOs] at h
    replace h := bd_some h; obtain ⟨x, e1, h1, h⟩ := h
    replace h := bd_some h; obtain ⟨ds', e3, h3, h⟩ := h
    cases h
    refine ⟨B, G, e, x, e1, A, h1, fun v G1 H1 s1 A1 r1 => ?_⟩
    obtain ⟨G1', s1', A1', i1, _⟩ := A1.unf r1
    exact ⟨B, G1', e1, ds', _, A1', h3, fun vs G2 H2 s2 A2 i2 => k _ G2 H2 ((s1.trans s1').trans s2) A2 (.cons (i1.mono s2) i2)⟩
theorem guard_some {b : Bool} {e : Env} {p : Unit × Env} (h : guard b e = some p) : b = true ∧ p.2 = e := by
  unfold guard at h
  split at h
  · cases h; exact ⟨by assumption, rfl⟩
  · cases h
theorem pe_lstS {es : List Expr} {er : List E} {pos : Pos} (h : PA X es (tSD mp K P (evDs c er))) : PE X (.List es pos) (tS mp K P (evE c (.lst er))) :=
  PE.weak (pe_lst h) fun σ H Q ⟨B, G, e, r, e', A, h, k⟩ => by
    simp only [evE] at h
    replace h := bd_some h; obtain ⟨ds, e1, h1, h⟩ := h
    replace h := bd_some h; obtain ⟨_, e2, h2, h⟩ := h
    replace h2 := guard_some h2; obtain ⟨h2, z2⟩ := h2
    dsimp only at z2
    subst z2
    cases h
    refine ⟨B, G, e, ds, _, A, h1, fun vs G1 H1 s1 A1 i1 => ⟨by rw [← i1.len, ← LIM_eq]; exact of_decide_eq_true h2, fun p hp => ?_⟩⟩
    obtain ⟨A', r'⟩ := A1.newList hp i1
    exact k _ G1 _ s1 A' r'
theorem pe_tupS {es : List Expr} {er : List E} {x1 : Nat} {pos : Pos} (h : PA X es (tSD mp K P (evDs c er))) : PE X (.Tuple es x1 pos) (tS mp K P (evE c (.tup er))) :=
  PE.weak (pe_tup h) fun σ H Q ⟨B, G, e, r, e', A, h, k⟩ => by
    simp only [evE] at h
    replace h := bd_some h; obtain ⟨ds, e1, h1, h⟩ := h
    replace h := bd_some h; obtain ⟨_, e2, h2, h⟩ := h
    replace h2 := guard_some h2; obtain ⟨h2, z2⟩ := h2
    dsimp only at z2
    subst z2
    cases h
    refine ⟨B, G, e, ds, _, A, h1, fun vs G1 H1 s1 A1 i1 => ⟨by rw [← i1.len, ← LIM_eq]; exact of_decide_eq_true h2, fun p hp => ?_⟩⟩
    have hg := A1.gfree hp
    exact k _ _ _ (s1.trans (same_upd hg)) (A1.laid hp) ⟨p, vs, rfl, .of upd_same, IsL.mono (same_upd hg) _ _ i1⟩
end
end MP

namespace MP
open PySem PySem.Spec L2
section
variable {mp : List Nat} {K : PySem.W.Frag} {P : Params} {X : Cx} {c : Ctx}
/-! ### subscripts -/
theorem kget_zip {G : Hp} : ∀ {ks : List Key} {ds : List D} {vs : List V} {x : Key} {d : D}, IsL K P G ds vs → kget ks ds x = some d → ∃ v, valV (ks.zip vs) x = some v ∧ Is K P G d v
  | [], _, _, _, _, _, h => by simp [kget] at h
  | k :: ks, [], _, _, _, _, h => by simp [kget] at h
  | k :: ks, d0 :: ds, _, x, d, ⟨v, r, e1, e2, e3⟩, h => by
    subst e1
    simp only [kget] at h
    rw [List.zip_cons_cons]
    split at h
    · rename_i hx
      cases h
      rw [valV_pos hx.symm]
      exact ⟨v, rfl, e2⟩
    · rename_i hx
      rw [valV_neg (fun z => hx z.symm)]
      exact kget_zip e3 h
theorem kget_none {G : Hp} : ∀ {ks : List Key} {ds : List D} {vs : List V} {x : Key}, IsL K P G ds vs → kget ks ds x = none → valV (ks.zip vs) x = none
  | [], _, _, _, _, _ => by simp [valV_nil]
  | k :: ks, [], _, x, h, _ => by cases h; simp [valV_nil]
  | k :: ks, d0 :: ds, _, x, ⟨v, r, e1, e2, e3⟩, h => by
    subst e1
    simp only [kget] at h
    rw [List.zip_cons_cons]
    split at h
    · cases h
    · rename_i hx
      rw [valV_neg (fun z => hx z.symm)]
      exact kget_none e3 h
theorem keyOf_kV {G : Hp} {d : D} {k : Key} {v : V} (h : keyOf d = some k) (i : Is K P G d v) : v = kV k := by
  cases d <;> simp only [keyOf] at h <;> first
    | (cases h; done)
    | (cases h; rw [show v = _ from i]; rfl)
def rIxK (K : PySem.W.Frag) (w : World) : R2 := fun x y H Q => (∃ a v, x = .ref a ∧ DGet H a y (some v) ∧ Q v H) ∨ rIxD K w x y H Q
def rIxS' (X : Cx) : R2 := fun x y H Q => rIx X.K x y H Q ∨ rIxK X.K X.w x y H Q
theorem ix_all (hu : X.A.units + 1 < cLine) : IxR X (rIxS' X) := ix_seq.or ((ix_dget hu).or ix_kdict)
theorem nsIn_of {K : PySem.W.Frag} {a : Addr} {es : Array DictEntry} {n : Nat} {P : Params} {ks : List Key} {vs : List V} (x : Str) (hl : K.lookup a = some ⟨.type "dict", none, .dict es n, #[]⟩) (h : EntOk P ks vs es.toList) :
    ∃ o, PySem.W.nsIn K a x = some o ∧ RelO (valV (ks.zip vs) (.inr x)) o := by
  refine ⟨(es.toList.find? fun e => Value.isStrOf x e.key).map (·.val), ?_, ent_find h⟩
  have noref : ∀ {ks : List Key} {vs : List V} {es : List DictEntry}, EntOk P ks vs es → es.any (·.refKey) = false := by
    intro ks vs es h
    induction h with
    | nil => rfl
    | cons h1 h2 h3 h4 ih => rw [List.any_cons, ih, Bool.or_false]; simp [DictEntry.refKey, h1]
  obtain ⟨l⟩ := es
  unfold PySem.W.nsIn
  rw [hl]
  dsimp only
  have q : (fun d : DictEntry => d.key.isStr x) = fun d => Value.isStrOf x d.key := funext fun d => PySem.W.isStr_of x d.key
  rw [q]
  split
  · rename_i y hy; rw [hy]; rfl
  · rename_i hy
    rw [noref h, hy]
    rfl
theorem sp_idx (hu : X.A.units + 1 < cLine) : OpSpec X.K X.w.params (rIxS' X) (fun a b => (idxD a b).map fun d => R.d d) := by
  intro mp B G H σ e d1 d2 v1 v2 res Q A i1 i2 h k
  obtain ⟨d, hd, rfl⟩ := Option.map_eq_some_iff.mp h
  unfold idxD at hd
  split at hd
  · obtain ⟨p, vs, e1, e2, e3⟩ := i1
    obtain ⟨v, q1, q2⟩ := e3.atD hd
    exact .inl (.inl ⟨p, vs, _, v, e1, i2, .of e2, q1, k v G H (.refl _) A q2⟩)
  · obtain ⟨p, vs, e1, e2, e3⟩ := i1
    obtain ⟨v, q1, q2⟩ := e3.atD hd
    exact .inl (.inr (.inl ⟨p, vs, _, v, e1, i2, Same.seqT A.same e2, q1, k v G H (.refl _) A q2⟩))
  · obtain ⟨p, vs, e1, e2, e3⟩ := i1
    obtain ⟨v, q1, q2⟩ := e3.atD hd
    exact .inl (.inl ⟨p, vs, _, v, e1, i2, Same.seq A.same e2, q1, k v G H (.refl _) A q2⟩)
  · split at hd
    · rename_i s i hz
      obtain ⟨cc, hc, rfl⟩ := Option.map_eq_some_iff.mp hd
      refine .inl (.inr (.inr ⟨mkS s, i, cc, i1, i2, by rw [mkS_len, ← LIM_eq]; exact hz, ?_, ?_⟩))
      · rw [mkS_list]; exact atD_atI _ _ _ hc
      · exact k _ G H (.refl _) A rfl
    · cases hd
  · split at hd
    · rename_i ks vs kd key hk
      have hv2 := keyOf_kV hk (i2.is A.same)
      obtain ⟨a, ws, e1, e2, e3, e4⟩ := i1
      obtain ⟨v, q1, q2⟩ := kget_zip e2 hd
      refine .inr (.inl ⟨a, v, e1, ?_, k v G H (.refl _) A q2⟩)
      subst hv2
      rw [← q1]
      exact DGet.k (A.same _ _ e4)
    · cases hd
  · rename_i ks vs s
    obtain ⟨a, ws, e1, e2, e3, es, n, hl, low, ent⟩ := i1
    obtain ⟨v, q1, q2⟩ := kget_zip e2 hd
    obtain ⟨o, ho, hr⟩ := nsIn_of ⟨s.toArray⟩ hl ent
    rw [q1] at hr
    obtain ⟨u, rfl, ru⟩ := RelO.some_of hr
    exact .inr (.inr ⟨a, ⟨s.toArray⟩, v, e1, i2, ⟨es, n, u, hl, keysLit_of ent, ho, ru⟩, k v G H (.refl _) A q2⟩)
  · cases hd
theorem pe_idxS {a b : Expr} {pos : Pos} {ea eb : E} (hu : X.A.units + 1 < cLine) (ha : PE X a (tS mp X.K X.w.params (evE c ea))) (hb : PE X b (tS mp X.K X.w.params (evE c eb))) (hs : PlainIx b) : PE X (.Subscript a b pos) (tS mp X.K X.w.params (evE c (.idx ea eb))) :=
  PE.weak (pe_ix (ix_all hu) ha hb hs) fun σ H Q h => op2 (g := fun a b => (idxD a b).map fun d => R.d d) (sp_idx hu) σ H Q (by simpa only [evE] using h)

/-! ### slices -/
theorem sixD_eq (n d : Nat) (o : Option Int) : sixD n d o = HT.sIx n d o := by
  cases o with
  | none => rfl
  | some v =>
    have h1 := HT.sIx_nat n d
    show (if v < 0 then (v + (n : Int)).toNat else min v.toNat n) = HT.sIx n d (some v)
    by_cases hv : v < 0
    · rw [if_pos hv]
      have := HT.clip_eq v n d
      rw [if_pos hv] at this
      omega
    · rw [if_neg hv]
      have := HT.clip_eq v n d
      rw [if_neg hv] at this
      omega
theorem IsL.cut {G : Hp} {xs : List D} {vs : List V} (lo hi : Option Int) (h : IsL K P G xs vs) : IsL K P G (cutL xs lo hi) (cutV vs lo hi) := by
  unfold cutL cutV
  rw [sixD_eq, sixD_eq, h.len]
  exact (h.drop _).take _
theorem cutS_mkS (l : List Nat) (lo hi : Option Int) : cutS (mkS l) lo hi = mkS (cutL l lo hi) := by
  unfold cutS cutL
  rw [mkS_list, mkS_len, sixD_eq, sixD_eq]
  rfl
def rSlA' (K : PySem.W.Frag) : V → Option Int → Option Int → Hp → VK → Prop := fun x lo hi H Q => rSlS x lo hi H Q ∨ rSlL K x lo hi H Q
theorem sl_all : SlR X (rSlA' X.K) := sl_str.or sl_list
theorem po_noneS : PO X none (tSP mp K P (evP c none)) := PO.weak po_none fun σ H Q ⟨B, G, e, b, e', A, h, k⟩ => by
  simp only [evP] at h
  cases h
  exact k G H (.refl _) A
theorem po_someS {a : Expr} {ea : E} (ha : PE X a (tS mp K P (evE c ea))) : PO X (some a) (tSP mp K P (evP c (some ea))) := PO.weak (po_some ha) fun σ H Q ⟨B, G, e, b, e', A, h, k⟩ => by
  simp only [evP] at h
  replace h := bd_some h; obtain ⟨x, e1, h1, h⟩ := h
  replace h := bd_some h; obtain ⟨dx, e2, h2, h⟩ := h
  replace h2 := lk_some h2; obtain ⟨h2, z2⟩ := h2
  replace h := lift_some h; obtain ⟨h3, z3⟩ := h
  dsimp only at z2 z3 h2 h3
  subst z2 z3
  refine ⟨B, G, e, x, _, A, h1, fun v G' H' s A' r' => ?_⟩
  split at h3
  · rename_i i
    cases h3
    exact ⟨i, A'.look r' h2, k G' H' s A'⟩
  · cases h3
theorem pe_sliS {a : Expr} {lo hi : Option Expr} {p2 pos : Pos} {ea : E} {el eh : Option E} (ha : PE X a (tS mp X.K P (evE c ea))) (hl : PO X lo (tSP mp X.K P (evP c el))) (hh : PO X hi (tSP mp X.K P (evP c eh))) :
    PE X (.Subscript a (.Slice lo hi none p2) pos) (tS mp X.K P (evE c (.sli ea el eh))) :=
  PE.weak (pe_slice sl_all ha hl hh) fun σ H Q ⟨B, G, e, r, e', A, h, k⟩ => by
    simp only [evE] at h
    replace h := bd_some h; obtain ⟨x, e1, h1, h⟩ := h
    replace h := bd_some h; obtain ⟨l, e2, h2, h⟩ := h
    replace h := bd_some h; obtain ⟨u, e3, h3, h⟩ := h
    replace h := bd_some h; obtain ⟨dx, e4, h4, h⟩ := h
    replace h4 := lk_some h4; obtain ⟨h4, z4⟩ := h4
    replace h := lift_some h; obtain ⟨h5, z5⟩ := h
    dsimp only at z4 z5 h4 h5
    subst z4 z5
    refine ⟨B, G, e, x, e1, A, h1, fun v G1 H1 s1 A1 r1 => ?_⟩
    obtain ⟨G1', s1', A1', i1, _⟩ := A1.unf r1
    refine ⟨B, G1', e1, l, e2, A1', h2, fun G2 H2 s2 A2 => ⟨B, G2, e2, u, _, A2, h3, fun G3 H3 s3 A3 => ?_⟩⟩
    have s123 := s1.trans (s1'.trans (s2.trans s3))
    have bi := A3.lookS (i1.mono (s2.trans s3)) h4
    unfold sliD at h5
    split at h5
    · rename_i s
      split at h5
      · rename_i hz
        cases h5
        refine .inl ⟨mkS s, bi, by rw [mkS_len, ← LIM_eq]; exact hz, ?_⟩
        rw [cutS_mkS]
        exact k _ G3 H3 s123 A3 rfl
      · cases h5
    · rename_i xs
      cases h5
      obtain ⟨p, vs, e1', e2', e3'⟩ := bi
      refine .inr ⟨p, vs, e1', .of e2', fun p' hp => ?_⟩
      obtain ⟨A', r'⟩ := A3.newList hp (e3'.cut l u)
      exact k _ G3 _ s123 A' r'
    · cases h5
end
end MP

namespace MP
open PySem PySem.Spec L2
section
variable {mp : List Nat} {K : PySem.W.Frag} {P : Params} {X : Cx} {c : Ctx}
/-! ### built-in functions -/
inductive BIsL (K : PySem.W.Frag) (P : Params) (G H : Hp) : List D → List V → Prop
  | nil : BIsL K P G H [] []
  | cons {d : D} {v : V} {ds : List D} {vs : List V} : BIs K P G H d v → BIsL K P G H ds vs → BIsL K P G H (d :: ds) (v :: vs)
theorem Agree.lks {B : Base mp} {G H : Hp} {σ : St} {e : Env} (A : Agree K P B G H σ e) : ∀ {rs : List R} {vs : List V} {p : List D × Env}, SIsL K P G σ vs rs → MP.lks rs e = some p → BIsL K P G H p.1 vs ∧ p.2 = e
  | [], _, p, h, q => by
    cases h
    simp only [MP.lks] at q
    cases q
    exact ⟨.nil, rfl⟩
  | r :: rs, _, p, h, q => by
    cases h with
    | cons h1 h2 =>
      simp only [MP.lks] at q
      replace q := bd_some q; obtain ⟨d, e1, q1, q⟩ := q
      replace q1 := lk_some q1; obtain ⟨q1, z1⟩ := q1
      dsimp only at z1 q1
      subst z1
      replace q := bd_some q; obtain ⟨ds, e2, q2, q⟩ := q
      obtain ⟨i2, z2⟩ := A.lks h2 q2
      cases q
      exact ⟨.cons (A.lookS h1 q1) i2, z2⟩
/-- what a rule of a call by values gives -/
def CallSpec (K : PySem.W.Frag) (P : Params) (r : List V → Hp → VK → Prop) (g : List D → Option R) : Prop := ∀ (mp : List Nat) (B : Base mp) G H σ e ds vs res (Q : VK), Agree K P B G H σ e → BIsL K P G H ds vs → g ds = some res →
  (∀ v G' H', Same G G' → Agree K P B G' H' σ e → RIs K P B G' H' σ e v res → Q v H') → r vs H Q
theorem pe_bltB {x : Str} {id : String} {r : List V → Hp → VK → Prop} {p pos : Pos} {a : Expr} {es : List Expr} {f : String} {er : List E} (hc : CallR X (.builtin id) r) (sp : CallSpec X.K P r (bltD f)) (hg : Gl X x) (hm : X.mg x = none) (hv : bootBuiltins x = some (.builtin id))
    (ha : PA X (a :: es) (tSO mp X.K P (evOs c er))) (hn : x ≠ "__name__") (hdb : (x == ("__debug__" : Str)) = false)
    (he : starEach (a :: es) X.env = (false, eval a X.env) :: starEach es X.env) (hpl : (backTo pos (starEach es X.env)).any (·.1) = false) : PE X (.Call (.Name x p) (a :: es) [] pos) (tS mp X.K P (evE c (.blt f er))) :=
  PE.weak (pe_callB hc hg hm hv ha hn hdb he hpl) fun σ H Q ⟨B, G, e, r, e', A, h, k⟩ => by
    simp only [evE] at h
    replace h := bd_some h; obtain ⟨rs, e1, h1, h⟩ := h
    replace h := bd_some h; obtain ⟨ds, e2, h2, h⟩ := h
    replace h := lift_some h; obtain ⟨h3, z3⟩ := h
    dsimp only at z3 h3
    subst z3
    refine ⟨B, G, e, rs, e1, A, h1, fun vs G1 H1 s1 A1 i1 => ?_⟩
    obtain ⟨i2, z2⟩ := A1.lks i1 h2
    dsimp only at z2 i2
    subst z2
    exact sp _ B G1 H1 σ _ ds vs r Q A1 i2 h3 fun v G' H' s A' r' => k v G' H' (s1.trans s) A' r'
theorem pe_bltT {x : Str} {id : String} {r : List V → Hp → VK → Prop} {p pos : Pos} {a : Expr} {es : List Expr} {f : String} {er : List E} (hc : CallR X (.type id) r) (sp : CallSpec X.K P r (bltD f)) (hg : Gl X x) (hm : X.mg x = none) (hv : bootBuiltins x = some (.type id))
    (ha : PA X (a :: es) (tSO mp X.K P (evOs c er))) (hn : x ≠ "__name__") (hdb : (x == ("__debug__" : Str)) = false)
    (he : starEach (a :: es) X.env = (false, eval a X.env) :: starEach es X.env) (hpl : (backTo pos (starEach es X.env)).any (·.1) = false) : PE X (.Call (.Name x p) (a :: es) [] pos) (tS mp X.K P (evE c (.blt f er))) :=
  PE.weak (pe_callTy hc hg hm hv ha hn hdb he hpl) fun σ H Q ⟨B, G, e, r, e', A, h, k⟩ => by
    simp only [evE] at h
    replace h := bd_some h; obtain ⟨rs, e1, h1, h⟩ := h
    replace h := bd_some h; obtain ⟨ds, e2, h2, h⟩ := h
    replace h := lift_some h; obtain ⟨h3, z3⟩ := h
    dsimp only at z3 h3
    subst z3
    refine ⟨B, G, e, rs, e1, A, h1, fun vs G1 H1 s1 A1 i1 => ?_⟩
    obtain ⟨i2, z2⟩ := A1.lks i1 h2
    dsimp only at z2 i2
    subst z2
    exact sp _ B G1 H1 σ _ ds vs r Q A1 i2 h3 fun v G' H' s A' r' => k v G' H' (s1.trans s) A' r'

theorem seq_of {G H : Hp} {d : D} {v : V} {xs : List D} (s : Same G H) (h : (d = .lst xs) ∨ (d = .tup xs) ∨ d = .frz xs) (i : BIs K P G H d v) : ∃ p vs, v = .ref p ∧ (SqL K H p vs ∨ SqT K H p vs) ∧ IsL K P G xs vs := by
  rcases h with rfl | rfl | rfl
  · obtain ⟨p, vs, e1, e2, e3⟩ := i; exact ⟨p, vs, e1, .inl (.of e2), e3⟩
  · obtain ⟨p, vs, e1, e2, e3⟩ := i; exact ⟨p, vs, e1, .inr (Same.seqT s e2), e3⟩
  · obtain ⟨p, vs, e1, e2, e3⟩ := i; exact ⟨p, vs, e1, .inl (Same.seq s e2), e3⟩
theorem sp_len : CallSpec K P (fun xs H Q => ∃ x n, xs = [x] ∧ LenV K x H n ∧ Q (.int n) H) (bltD "len") := by
  intro mp B G H σ e ds vs res Q A i h k
  simp only [bltD, if_true] at h
  split at h
  · rename_i s
    split at h
    · rename_i hz
      cases h
      cases i with
      | cons i1 i2 =>
        cases i2
        rw [show _ = V.str (mkS s) from i1]
        exact ⟨_, s.length, rfl, ⟨by rw [mkS_len, ← LIM_eq]; exact hz, (mkS_len s).symm⟩, k _ G H (.refl _) A rfl⟩
    · cases h
  all_goals first
    | (cases h; done)
    | (rename_i xs
       cases h
       cases i with
       | cons i1 i2 =>
         cases i2
         obtain ⟨p, ws, rfl, e2, e3⟩ := seq_of (xs := xs) A.same (by first | exact .inl rfl | exact .inr (.inl rfl) | exact .inr (.inr rfl)) i1
         refine ⟨_, ws.length, rfl, e2.imp (fun q => ⟨ws, q, rfl⟩) (fun q => ⟨ws, q, rfl⟩), ?_⟩
         rw [← e3.len]
         exact k _ G H (.refl _) A rfl)
theorem sp_int1 : CallSpec K P (fun xs H Q => (∃ i, xs = [.int i] ∧ Q (.int i) H) ∨ ∃ k, xs = [.bl k] ∧ Q (.int (if k then 1 else 0)) H) (bltD "int") := by
  intro mp B G H σ e ds vs res Q A i h k
  simp only [bltD, show ¬ ("int" : String) = "len" from by decide, if_true, if_false] at h
  split at h
  · cases h
    cases i with
    | cons i1 i2 => cases i2; rw [show _ = V.int _ from i1]; exact .inl ⟨_, rfl, k _ G H (.refl _) A rfl⟩
  · cases h
    cases i with
    | cons i1 i2 => cases i2; rw [show _ = V.bl _ from i1]; exact .inr ⟨_, rfl, k _ G H (.refl _) A rfl⟩
  · cases h
theorem sp_sum : CallSpec K P (rSum K) (bltD "sum") := by
  intro mp B G H σ e ds vs res Q A i h k
  simp only [bltD, show ¬ ("sum" : String) = "len" from by decide, show ¬ ("sum" : String) = "int" from by decide, if_true, if_false] at h
  split at h
  · rename_i xs
    obtain ⟨ns, hn, hr⟩ := Option.map_eq_some_iff.mp h
    subst hr
    cases i with
    | cons i1 i2 =>
      cases i2
      obtain ⟨p, ws, rfl, e2, e3⟩ := i1
      have := e3.ints hn
      subst this
      exact ⟨p, ns, rfl, .of e2, k _ G H (.refl _) A rfl⟩
  · cases h
theorem sp_list : CallSpec K P (fun xs H Q => ∃ p ys, xs = [.ref p] ∧ (SqL K H p ys ∨ SqT K H p ys) ∧ ∀ l, H l = none → Q (.ref l) (upd H l (.lst ys))) (bltD "list") := by
  intro mp B G H σ e ds vs res Q A i h k
  simp only [bltD, show ¬ ("list" : String) = "len" from by decide, show ¬ ("list" : String) = "int" from by decide, show ¬ ("list" : String) = "sum" from by decide, if_true, if_false] at h
  split at h
  all_goals first
    | (cases h; done)
    | (rename_i xs
       cases h
       cases i with
       | cons i1 i2 =>
         cases i2
         obtain ⟨p, ws, rfl, e2, e3⟩ := seq_of (xs := xs) A.same (by first | exact .inl rfl | exact .inr (.inl rfl) | exact .inr (.inr rfl)) i1
         refine ⟨p, ws, rfl, e2, fun l hl => ?_⟩
         obtain ⟨A', r'⟩ := A.newList hl e3
         exact k _ G _ (.refl _) A' r')

/-! ### methods -/
/-- of that type, a dict of the written part too -/
def tyW (K : PySem.W.Frag) (T : String) (x : V) (H : Hp) : Prop := tyV K T x H ∨ (T = "dict" ∧ ∃ p es n, x = .ref p ∧ K.lookup p = some ⟨.type "dict", none, .dict es n, #[]⟩)
theorem tyW_is {pins : List (Addr × Obj)} {σ : St} {H : Hp} {s : Shared} {T : String} {x : V} {v : Value} (I : Inv X pins σ H s) (r : RelV x v) (ty : tyW X.K T x H) :
    s.TypeIs v T ∧ ∀ a, v = .ref a → ∃ ob, s.heap.get? a = some ob ∧ ob.dict = none := by
  rcases ty with ty | ⟨rfl, p, es, n, rfl, hl⟩
  · exact tyV_is I r ty
  · cases r
    have h := I.kIn p _ hl
    refine ⟨⟨_, h, rfl⟩, fun a e => ?_⟩
    cases e
    exact ⟨_, h, rfl⟩
theorem pe_bmW {o e : Expr} {es : List Expr} {to : TE} {t : TA} {name : Str} {apos cpos : Pos} {T id : String} {r : V → List V → Hp → VK → Prop} (pa : PlainAttrs T) (slot : Slot T name id) (hty : typeOf (.builtin id) = pure (.type "method_descriptor")) (hm : MtR X id r) (ho : PE X o to) (ha : PA X (e :: es) t)
    (hbase : attributeBase o name X.env (eval o X.env) = eval o X.env)
    (hfew : ((backTo cpos (starEach (e :: es) X.env)).all (fun x => !x.1) && (backToKw cpos (keywordEach [] X.env)).all (fun x => x.1.isSome)
      && decide ((e :: es).length + ([] : List Keyword).length + (if ([] : List Keyword).isEmpty then 0 else 1) < 30)) = true)
    (hline : (apos.endLine == cpos.line) = true) (hs : starEach (e :: es) X.env = (false, eval e X.env) :: starEach es X.env) (hplain : (backTo cpos (starEach es X.env)).any (·.1) = false) :
    PE X (.Call (.Attribute o name apos) (e :: es) [] cpos) (fun σ H Q => to σ H fun x H1 => tyW X.K T x H1 ∧ t σ H1 fun xs H2 => r x xs H2 Q) := by
  refine ⟨fun pins s σ H Q I h => ?_⟩
  refine wpAny_Call_method_late hbase hfew hline rfl (thn (ho.run pins s σ H _ I h) fun v s1 ⟨x, H1, I1, r1, ty, q1⟩ => ?_)
  obtain ⟨h1, h2⟩ := tyW_is I1 r1 ty
  refine ⟨T, id, pa, slot, hty, h1, h2, ?_⟩
  have hA := ha.run cpos pins s1 σ H1 _ I1 q1
  rw [hs] at hA ⊢
  refine Calls.callWith_builtin (by show (false || (backTo cpos (starEach es X.env)).any (·.1)) = false; rw [hplain] <;> rfl) (Calls.evalArgs_plain ?_)
  exact thn hA fun us s2 ⟨vs, H2, I2, r2, q2⟩ => hm pins s2 σ H2 x vs v us Q I2 r1 r2 q2
end
end MP

namespace MP
open PySem PySem.Spec L2
section
variable {mp : List Nat} {K : PySem.W.Frag} {P : Params} {X : Cx} {c : Ctx}
/-- what a rule of a method by values gives -/
def MetSpec (K : PySem.W.Frag) (P : Params) (T : String) (r : V → List V → Hp → VK → Prop) (g : D → List D → Option R) : Prop := ∀ (mp : List Nat) (B : Base mp) G H σ e d ds v vs res (Q : VK), Agree K P B G H σ e → BIs K P G H d v → BIsL K P G H ds vs → g d ds = some res →
  (∀ v G' H', Same G G' → Agree K P B G' H' σ e → RIs K P B G' H' σ e v res → Q v H') → r v vs H Q
/-- the receiver's type is known by its value ahead of the arguments -/
def TyOk (K : PySem.W.Frag) (P : Params) (T : String) (g : D → List D → Option R) : Prop := ∀ d ds res, g d ds = some res → ∀ G H v, Same G H → BIs K P G H d v → tyW K T v H
theorem pe_metS {o a : Expr} {es : List Expr} {name : Str} {apos cpos : Pos} {T id : String} {r : V → List V → Hp → VK → Prop} {m : String} {eo : E} {er : List E} (pa : PlainAttrs T) (slot : Slot T name id) (hty : typeOf (.builtin id) = pure (.type "method_descriptor"))
    (hm : MtR X id r) (sp : MetSpec X.K P T r (metD m)) (ty : TyOk X.K P T (metD m)) (ho : PE X o (tS mp X.K P (evE c eo))) (ha : PA X (a :: es) (tSO mp X.K P (evOs c er)))
    (hbase : attributeBase o name X.env (eval o X.env) = eval o X.env)
    (hfew : ((backTo cpos (starEach (a :: es) X.env)).all (fun x => !x.1) && (backToKw cpos (keywordEach [] X.env)).all (fun x => x.1.isSome)
      && decide ((a :: es).length + ([] : List Keyword).length + (if ([] : List Keyword).isEmpty then 0 else 1) < 30)) = true)
    (hline : (apos.endLine == cpos.line) = true) (hs : starEach (a :: es) X.env = (false, eval a X.env) :: starEach es X.env) (hplain : (backTo cpos (starEach es X.env)).any (·.1) = false) :
    PE X (.Call (.Attribute o name apos) (a :: es) [] cpos) (tS mp X.K P (evE c (.met m eo er))) :=
  PE.weak (pe_bmW pa slot hty hm ho ha hbase hfew hline hs hplain) fun σ H Q ⟨B, G, e, res, e', A, h, k⟩ => by
    simp only [evE] at h
    replace h := bd_some h; obtain ⟨x, e1, h1, h⟩ := h
    replace h := bd_some h; obtain ⟨dx, e2, h2, h⟩ := h
    replace h := bd_some h; obtain ⟨rs, e3, h3, h⟩ := h
    replace h := bd_some h; obtain ⟨ds, e4, h4, h⟩ := h
    replace h := lift_some h; obtain ⟨h5, z5⟩ := h
    dsimp only at z5 h5
    subst z5
    refine ⟨B, G, e, x, e1, A, h1, fun v G1 H1 s1 A1 r1 => ?_⟩
    obtain ⟨G1', s1', A1', i1⟩ := A1.cap r1 h2
    refine ⟨ty _ _ _ h5 G1' H1 v A1'.same (BIs.of A1'.same i1), B, G1', e2, rs, _, A1', h3, fun vs G2 H2 s2 A2 i2 => ?_⟩
    obtain ⟨i3, z4⟩ := A2.lks i2 h4
    dsimp only at z4 i3
    subst z4
    exact sp _ B G2 H2 σ _ dx ds v vs res Q A2 (BIs.of A2.same (Is.mono s2 _ _ i1)) i3 h5 fun v G' H' s A' r' => k v G' H' (s1.trans (s1'.trans (s2.trans s))) A' r'

/-! dict.get with a default -/
def rGet2 (X : Cx) : V → List V → Hp → VK → Prop := fun x xs H Q => (∃ a y z o, x = .ref a ∧ xs = [y, z] ∧ DGet H a y o ∧ Q (o.getD z) H) ∨
  ∃ a y z es n u, x = .ref a ∧ xs = [.str y, z] ∧ X.K.lookup a = some ⟨.type "dict", none, .dict es n, #[]⟩ ∧ PySem.W.KeysLit X.w.params es.toList ∧ (a == sysModules) = false ∧ PySem.W.nsIn X.K a y = some u ∧ ∃ o, RelO o u ∧ Q (o.getD z) H
theorem mt_get2 (hu : X.A.units + 1 < cLine) : MtR X "dict.get" (rGet2 X) := by
  intro pins s σ H x xs v us Q I rx rs h
  rcases h with ⟨a, y, z, o, rfl, rfl, g, q⟩ | ⟨a, y, z, es, n, u0, rfl, rfl, hl, hk, low, hn, o, ho, q⟩
  · cases rx
    obtain ⟨u, u', rfl, ru, ru'⟩ := rs.two
    exact d_get2 hu I g ru ru' fun w' s' I' rw' => ⟨_, H, I', rw', q⟩
  · cases rx
    obtain ⟨u, u', rfl, ru, ru'⟩ := rs.two
    obtain ⟨t, rfl⟩ := ru
    have hm := PySem.W.mapOf_K (prog := X.prog) (w := X.w) I.kIn hl hk
    refine call_meetsIn PySem.F.slot_dict_get hm.typeIs PySem.F.entry_dict_get (PySem.F.args_dict_get_3 _ _ _) (meets_dict_get_default (strKind X.prog X.w) a (strKind_is X.prog X.w y t) low u') ⟨_, hm, ?_⟩
    rw [PySem.W.find_K hl hn]
    refine ⟨_, H, I.tok _, ?_, q⟩
    cases o with
    | none => rw [RelO.none_of ho]; exact ru'
    | some z0 => obtain ⟨w0, e0, r0⟩ := RelO.some_of ho; rw [e0]; exact r0
theorem BIs.frozen {G H : Hp} {d : D} {v : V} (h : BIs K P G H d v) (n : ∀ xs, d ≠ .lst xs) : Is K P G d v := by
  cases d with
  | lst xs => exact absurd rfl (n xs)
  | _ => exact h
theorem noLst_ne {d : D} (h : noLst d = true) : ∀ xs, d ≠ .lst xs := fun xs e => by subst e; cases h
theorem sp_get2 : MetSpec X.K X.w.params "dict" (rGet2 X) (metD "dict.get") := by
  intro mp B G H σ e d ds v vs res Q A i j h k
  simp only [metD, if_true] at h
  split at h
  · rename_i ks ws y z
    split at h
    · rename_i key hkey
      split at h
      case isFalse => cases h
      rename_i hz
      cases h
      cases j with
      | cons j1 j =>
        cases j with
        | cons j2 j =>
          cases j
          obtain ⟨a, us, rfl, e2, e3, e4⟩ := i
          rw [keyOf_kV hkey (j1.is A.same)]
          cases hq : kget ks ws key with
          | some d =>
            obtain ⟨u, q1, q2⟩ := kget_zip e2 hq
            refine .inl ⟨a, _, _, some u, rfl, rfl, ?_, k _ G H (.refl _) A (by rw [hq]; exact q2)⟩
            rw [← q1]
            exact DGet.k (A.same _ _ e4)
          | none =>
            have q1 := kget_none e2 hq
            refine .inl ⟨a, _, _, none, rfl, rfl, ?_, k _ G H (.refl _) A (by rw [hq]; exact j2.frozen (noLst_ne hz))⟩
            rw [← q1]
            exact DGet.k (A.same _ _ e4)
    · cases h
  · rename_i ks ws s z
    split at h
    case isFalse => cases h
    rename_i hz
    cases h
    cases j with
    | cons j1 j =>
      cases j with
      | cons j2 j =>
        cases j
        obtain ⟨a, us, rfl, e2, e3, es, n, hl, low, ent⟩ := i
        obtain ⟨o, ho, hr⟩ := nsIn_of ⟨s.toArray⟩ hl ent
        rw [show _ = V.str (mkS s) from j1]
        cases hq : kget ks ws (.inr ⟨s.toArray⟩) with
        | some d =>
          obtain ⟨u, q1, q2⟩ := kget_zip e2 hq
          rw [q1] at hr
          exact .inr ⟨a, mkS s, _, es, n, o, rfl, rfl, hl, keysLit_of ent, low, ho, some u, hr, k _ G H (.refl _) A (by rw [hq]; exact q2)⟩
        | none =>
          have q1 := kget_none e2 hq
          rw [q1] at hr
          exact .inr ⟨a, mkS s, _, es, n, o, rfl, rfl, hl, keysLit_of ent, low, ho, none, hr, k _ G H (.refl _) A (by rw [hq]; exact j2.frozen (noLst_ne hz))⟩
  · cases h
theorem ty_get2 : TyOk K P "dict" (metD "dict.get") := by
  intro d ds res h G H v s i
  simp only [metD, if_true] at h
  split at h
  · obtain ⟨a, us, rfl, e2, e3, e4⟩ := i
    exact .inl (.inr (.inr (.inl ⟨rfl, .inl ⟨_, s _ _ e4⟩⟩)))
  · obtain ⟨a, us, rfl, e2, e3, es, n, hl, low, ent⟩ := i
    exact .inr ⟨rfl, a, es, n, rfl, hl⟩
  · cases h
end
end MP

/-! The call of a def. -/
namespace MP
open PySem PySem.Spec L2
section
variable {mp : List Nat} {K : PySem.W.Frag} {P : Params} {X : Cx} {c : Ctx}
/-- the argument v is a: a frozen value, or an owned list -/
def AgI (K : PySem.W.Frag) (P : Params) (G H : Hp) : Ag → V → Prop
  | .d d, v => Is K P G d v
  | .m xs, v => ∃ p ws, v = .ref p ∧ H p = some (.lst ws) ∧ G p = none ∧ IsL K P G xs ws
inductive AgL (K : PySem.W.Frag) (P : Params) (G H : Hp) : List Ag → List V → Prop
  | nil : AgL K P G H [] []
  | cons {a : Ag} {v : V} {as : List Ag} {vs : List V} : AgI K P G H a v → AgL K P G H as vs → AgL K P G H (a :: as) (v :: vs)
theorem AgL.len {G H : Hp} {as : List Ag} {vs : List V} (h : AgL K P G H as vs) : as.length = vs.length := by
  induction h with
  | nil => rfl
  | cons _ _ ih => simp [ih]
theorem AgL.get {G H : Hp} {as : List Ag} {vs : List V} (h : AgL K P G H as vs) : ∀ {i : Nat} {a : Ag}, as[i]? = some a → ∃ v, vs[i]? = some v ∧ AgI K P G H a v := by
  induction h with
  | nil => intro i a e; simp at e
  | cons h1 h2 ih =>
    intro i a e
    cases i with
    | zero => simp at e; subst e; exact ⟨_, rfl, h1⟩
    | succ i => simpa using ih (by simpa using e)
/-- what may be changed by the call -/
def MutA (as : List Ag) (vs : List V) (a : Addr) : Prop := ∃ (i : Nat) (xs : List D), as[i]? = some (Ag.m xs) ∧ vs[i]? = some (V.ref a)
/-- behind a call -/
structure Post (K : PySem.W.Frag) (P : Params) (G H : Hp) (as : List Ag) (vs : List V) (r : R) (outs : List Ag) (v : V) (G' H' : Hp) : Prop where
  g : Same G G'
  same : Same G' H'
  frame : ∀ a o, H a = some o → ¬ MutA as vs a → H' a = some o
  new : ∀ a o, G' a = some o → (∃ o', G a = some o') ∨ MutA as vs a ∨ H a = none
  len : outs.length = as.length
  outs : ∀ (i : Nat) (p : Addr) (xs : List D), as[i]? = some (Ag.m xs) → vs[i]? = some (V.ref p) → (∃ ys ws, outs[i]? = some (Ag.m ys) ∧ H' p = some (.lst ws) ∧ G' p = none ∧ IsL K P G' ys ws) ∨ ∃ d, outs[i]? = some (Ag.d d) ∧ Is K P G' d (.ref p)
  res : match r with
    | .d d => Is K P G' d v
    | .fresh xs => ∃ p ws, v = .ref p ∧ H' p = some (.lst ws) ∧ G' p = none ∧ IsL K P G' xs ws ∧ H p = none
    | .slot _ => False
/-- a def's promise -/
def SpF (K : PySem.W.Frag) (P : Params) (call : List Ag → Option (R × List Ag)) : Sp := fun vs H Q _ => ∃ (G : Hp) (as : List Ag) (r : R) (outs : List Ag), Same G H ∧ AgL K P G H as vs ∧
  (∀ (i j : Nat) (p : Addr) (xs ys : List D), as[i]? = some (Ag.m xs) → as[j]? = some (Ag.m ys) → vs[i]? = some (V.ref p) → vs[j]? = some (V.ref p) → i = j) ∧ call as = some (r, outs) ∧
  ∀ v G' H', Post K P G H as vs r outs v G' H' → Q v H'

/-- arguments in the caller's frame -/
inductive ArgsOk (K : PySem.W.Frag) (P : Params) (G : Hp) (σ : St) (e : Env) : List (Option Nat) → List Ag → List V → Prop
  | nil : ArgsOk K P G σ e [] [] []
  | d {d : D} {v : V} {ms : List (Option Nat)} {as : List Ag} {vs : List V} : Is K P G d v → ArgsOk K P G σ e ms as vs → ArgsOk K P G σ e (none :: ms) (.d d :: as) (v :: vs)
  | m {j : Nat} {xs : List D} {v : V} {ms : List (Option Nat)} {as : List Ag} {vs : List V} : σ[j]? = some (some v) → sv e j = .own xs → ArgsOk K P G σ e ms as vs → ArgsOk K P G σ e (some j :: ms) (.m xs :: as) (v :: vs)
theorem ArgsOk.agl {B : Base mp} {G H : Hp} {σ : St} {e : Env} (A : Agree K P B G H σ e) {ms : List (Option Nat)} {as : List Ag} {vs : List V} (h : ArgsOk K P G σ e ms as vs) : AgL K P G H as vs := by
  induction h with
  | nil => exact .nil
  | d h1 _ ih => exact .cons h1 ih
  | m h1 h2 _ ih =>
    obtain ⟨p, ws, e1, e2, e3, e4, _⟩ := A.own _ _ h2
    rw [h1] at e1
    injection e1 with e1; injection e1 with e1
    exact .cons ⟨p, ws, e1, e2, e3, e4⟩ ih
theorem ArgsOk.at {G : Hp} {σ : St} {e : Env} {ms : List (Option Nat)} {as : List Ag} {vs : List V} (h : ArgsOk K P G σ e ms as vs) : ∀ {i : Nat} {xs : List D}, as[i]? = some (Ag.m xs) → ∃ j v, ms[i]? = some (some j) ∧ vs[i]? = some v ∧ σ[j]? = some (some v) ∧ sv e j = .own xs := by
  induction h with
  | nil => intro i xs e; simp at e
  | d _ _ ih =>
    intro i xs e
    cases i with
    | zero => simp at e
    | succ i => simpa using ih (by simpa using e)
  | m h1 h2 _ ih =>
    intro i xs e
    cases i with
    | zero => simp at e; subst e; exact ⟨_, _, rfl, rfl, h1, h2⟩
    | succ i => simpa using ih (by simpa using e)
theorem ArgsOk.back {G : Hp} {σ : St} {e : Env} {ms : List (Option Nat)} {as : List Ag} {vs : List V} (h : ArgsOk K P G σ e ms as vs) : ∀ {i j : Nat}, ms[i]? = some (some j) → ∃ xs v, as[i]? = some (Ag.m xs) ∧ vs[i]? = some v ∧ σ[j]? = some (some v) ∧ sv e j = .own xs := by
  induction h with
  | nil => intro i j e; simp at e
  | d _ _ ih =>
    intro i j e
    cases i with
    | zero => simp at e
    | succ i => simpa using ih (by simpa using e)
  | m h1 h2 _ ih =>
    intro i j e
    cases i with
    | zero => simp at e; subst e; exact ⟨_, _, rfl, rfl, h1, h2⟩
    | succ i => simpa using ih (by simpa using e)
theorem ArgsOk.mono {G G' : Hp} {σ : St} {e : Env} (s : Same G G') {ms : List (Option Nat)} {as : List Ag} {vs : List V} (h : ArgsOk K P G σ e ms as vs) : ArgsOk K P G' σ e ms as vs := by
  induction h with
  | nil => exact .nil
  | d h1 _ ih => exact .d (Is.mono s _ _ h1) ih
  | m h1 h2 _ ih => exact .m h1 h2 ih
theorem mem_slotsOf : ∀ {ms : List (Option Nat)} {i j : Nat}, ms[i]? = some (some j) → j ∈ slotsOf ms
  | [], _, _, h => by simp at h
  | none :: ms, 0, _, h => by simp at h
  | none :: ms, i + 1, j, h => by simp only [slotsOf]; exact mem_slotsOf (i := i) (by simpa using h)
  | some k :: ms, 0, j, h => by simp at h; subst h; simp [slotsOf]
  | some k :: ms, i + 1, j, h => by simp only [slotsOf]; exact List.mem_cons_of_mem _ (mem_slotsOf (i := i) (by simpa using h))
theorem of_slotsOf : ∀ {ms : List (Option Nat)} {j : Nat}, j ∈ slotsOf ms → ∃ i : Nat, ms[i]? = some (some j)
  | [], _, h => by simp [slotsOf] at h
  | none :: ms, j, h => by simp only [slotsOf] at h; obtain ⟨i, hi⟩ := of_slotsOf h; exact ⟨i + 1, by simpa using hi⟩
  | some k :: ms, j, h => by
    simp only [slotsOf, List.mem_cons] at h
    rcases h with rfl | h
    · exact ⟨0, rfl⟩
    · obtain ⟨i, hi⟩ := of_slotsOf h; exact ⟨i + 1, by simpa using hi⟩
theorem slots_inj : ∀ {ms : List (Option Nat)}, (slotsOf ms).Nodup → ∀ {i i' j : Nat}, ms[i]? = some (some j) → ms[i']? = some (some j) → i = i'
  | [], _, _, _, _, h, _ => by simp at h
  | none :: ms, nd, 0, _, _, h, _ => by simp at h
  | none :: ms, nd, i + 1, 0, _, _, h => by simp at h
  | none :: ms, nd, i + 1, i' + 1, j, h, h' => by rw [slots_inj (ms := ms) nd (i := i) (i' := i') (j := j) (by simpa using h) (by simpa using h')]
  | some k :: ms, nd, 0, 0, _, _, _ => rfl
  | some k :: ms, nd, 0, i' + 1, j, h, h' => by
    simp at h; subst h
    simp only [slotsOf, List.nodup_cons] at nd
    exact absurd (mem_slotsOf (i := i') (by simpa using h')) nd.1
  | some k :: ms, nd, i + 1, 0, j, h, h' => by
    simp at h'; subst h'
    simp only [slotsOf, List.nodup_cons] at nd
    exact absurd (mem_slotsOf (i := i) (by simpa using h)) nd.1
  | some k :: ms, nd, i + 1, i' + 1, j, h, h' => by
    simp only [slotsOf, List.nodup_cons] at nd
    rw [slots_inj (ms := ms) nd.2 (i := i) (i' := i') (j := j) (by simpa using h) (by simpa using h')]
theorem putOuts_len : ∀ {ms : List (Option Nat)} {os : List Ag} {e e' : Env}, putOuts ms os e = some e' → e'.length = e.length
  | [], [], _, _, h => by simp only [putOuts] at h; cases h; rfl
  | [], _ :: _, _, _, h => by simp [putOuts] at h
  | none :: ms, [], _, _, h => by simp [putOuts] at h
  | none :: ms, o :: os, _, _, h => by simp only [putOuts] at h; exact putOuts_len h
  | some i :: ms, [], _, _, h => by simp [putOuts] at h
  | some i :: ms, .m xs :: os, _, _, h => by simp only [putOuts] at h; rw [putOuts_len h, st_len]
  | some i :: ms, .d d :: os, _, _, h => by simp only [putOuts] at h; rw [putOuts_len h, st_len]
theorem putOuts_out : ∀ {ms : List (Option Nat)} {os : List Ag} {e e' : Env} {j : Nat}, putOuts ms os e = some e' → j ∉ slotsOf ms → sv e' j = sv e j
  | [], [], _, _, _, h, _ => by simp only [putOuts] at h; cases h; rfl
  | [], _ :: _, _, _, _, h, _ => by simp [putOuts] at h
  | none :: ms, [], _, _, _, h, _ => by simp [putOuts] at h
  | none :: ms, o :: os, _, _, _, h, hj => by simp only [putOuts] at h; exact putOuts_out h (by simpa only [slotsOf] using hj)
  | some i :: ms, [], _, _, _, h, _ => by simp [putOuts] at h
  | some i :: ms, .m xs :: os, _, _, j, h, hj => by
    simp only [putOuts] at h
    simp only [slotsOf, List.mem_cons, not_or] at hj
    rw [putOuts_out h hj.2, sv_st, if_neg (fun z => hj.1 z.1)]
  | some i :: ms, .d d :: os, _, _, j, h, hj => by
    simp only [putOuts] at h
    simp only [slotsOf, List.mem_cons, not_or] at hj
    rw [putOuts_out h hj.2, sv_st, if_neg (fun z => hj.1 z.1)]
def svOf : Ag → SV
  | .d d => .val d
  | .m xs => .own xs
theorem putOuts_in : ∀ {ms : List (Option Nat)} {os : List Ag} {e e' : Env} {i j : Nat}, putOuts ms os e = some e' → (slotsOf ms).Nodup → ms[i]? = some (some j) → j < e.length → ∃ o, os[i]? = some o ∧ sv e' j = svOf o
  | [], _, _, _, _, _, _, _, h, _ => by simp at h
  | none :: ms, [], _, _, _, _, h, _, _, _ => by simp [putOuts] at h
  | none :: ms, o :: os, _, _, 0, _, h, _, hi, _ => by simp at hi
  | none :: ms, o :: os, _, _, i + 1, j, h, nd, hi, hl => by simp only [putOuts] at h; simpa using putOuts_in (i := i) h nd (by simpa using hi) hl
  | some k :: ms, [], _, _, _, _, h, _, _, _ => by simp [putOuts] at h
  | some k :: ms, .m xs :: os, e, _, 0, j, h, nd, hi, hl => by
    simp at hi; subst hi
    simp only [putOuts] at h
    simp only [slotsOf, List.nodup_cons] at nd
    exact ⟨.m xs, rfl, by rw [putOuts_out h nd.1, sv_st, if_pos ⟨rfl, hl⟩]; rfl⟩
  | some k :: ms, .d d :: os, e, _, 0, j, h, nd, hi, hl => by
    simp at hi; subst hi
    simp only [putOuts] at h
    simp only [slotsOf, List.nodup_cons] at nd
    exact ⟨.d d, rfl, by rw [putOuts_out h nd.1, sv_st, if_pos ⟨rfl, hl⟩]; rfl⟩
  | some k :: ms, .m xs :: os, e, _, i + 1, j, h, nd, hi, hl => by
    simp only [putOuts] at h
    simp only [slotsOf, List.nodup_cons] at nd
    simpa using putOuts_in (i := i) h nd.2 (by simpa using hi) (by rw [st_len]; exact hl)
  | some k :: ms, .d d :: os, e, _, i + 1, j, h, nd, hi, hl => by
    simp only [putOuts] at h
    simp only [slotsOf, List.nodup_cons] at nd
    simpa using putOuts_in (i := i) h nd.2 (by simpa using hi) (by rw [st_len]; exact hl)
/-- the caller's frame behind a call -/
theorem Agree.after {B : Base mp} {G H G' H' : Hp} {σ : St} {e e' : Env} {ms : List (Option Nat)} {as outs : List Ag} {vs : List V} {r : R} {v : V} (A : Agree K P B G H σ e) (ok : ArgsOk K P G σ e ms as vs) (nd : (slotsOf ms).Nodup)
    (hp : putOuts ms outs e = some e') (po : Post K P G H as vs r outs v G' H') : Agree K P B G' H' σ e' ∧ RIs K P B G' H' σ e' v r := by
  have mutOwn : ∀ a, MutA as vs a → ∃ j xs, j ∈ slotsOf ms ∧ sv e j = .own xs ∧ σ[j]? = some (some (.ref a)) := fun a ⟨i, xs, h1, h2⟩ => by
    obtain ⟨j, v, q1, q2, q3, q4⟩ := ok.at h1
    rw [h2] at q2; cases q2
    exact ⟨j, xs, mem_slotsOf q1, q4, q3⟩
  -- an owned list that wasn't handed over
  have keep : ∀ j xs p, j ∉ slotsOf ms → sv e j = .own xs → σ[j]? = some (some (.ref p)) → ¬ MutA as vs p := fun j xs p hj h1 h2 hm => by
    obtain ⟨j', ys, q1, q2, q3⟩ := mutOwn p hm
    exact hj (by rw [A.dis j j' p xs ys h1 q2 h2 q3]; exact q1)
  have mb : ∀ a, MutA as vs a → B.M0 a ∨ B.H0 a = none := fun a hm => by
    obtain ⟨j, xs, _, q2, q3⟩ := mutOwn a hm
    obtain ⟨p, ws, e1, _, _, _, e5⟩ := A.own j xs q2
    rw [ref_inj (e1.symm.trans q3)] at e5
    exact e5
  have inS : ∀ j, j ∈ slotsOf ms → ∃ xs p o, sv e j = .own xs ∧ σ[j]? = some (some (.ref p)) ∧ sv e' j = svOf o ∧
      ((∃ ys ws, o = .m ys ∧ H' p = some (.lst ws) ∧ G' p = none ∧ IsL K P G' ys ws) ∨ ∃ d, o = .d d ∧ Is K P G' d (.ref p)) ∧ (B.M0 p ∨ B.H0 p = none) := fun j hj => by
    obtain ⟨i, hi⟩ := of_slotsOf hj
    obtain ⟨xs, v, q1, q2, q3, q4⟩ := ok.back hi
    obtain ⟨p, ws, e1, e2, e3, e4, e5⟩ := A.own j xs q4
    rw [q3] at e1
    injection e1 with e1; injection e1 with e1
    subst e1
    obtain ⟨o, o1, o2⟩ := putOuts_in hp nd hi (sv_lt (by rw [q4]; exact fun z => nomatch z))
    refine ⟨xs, p, o, q4, q3, o2, ?_, e5⟩
    rcases po.outs i p xs q1 q2 with ⟨ys, ws', r1, r2⟩ | ⟨d, r1, r2⟩
    · rw [o1] at r1; cases r1; exact .inl ⟨ys, ws', rfl, r2⟩
    · rw [o1] at r1; cases r1; exact .inr ⟨d, rfl, r2⟩
  have ag : Agree K P B G' H' σ e' := by
    refine ⟨po.same, by rw [putOuts_len hp]; exact A.len, fun j d h => ?_, fun j xs h => ?_, fun j k p xs ys h1 h2 h3 h4 => ?_, A.g0.trans po.g, fun a o h m => ?_, fun a o h => ?_, A.pins⟩
    · by_cases hj : j ∈ slotsOf ms
      · obtain ⟨xs, p, o, q1, q2, q3, q4, _⟩ := inS j hj
        rw [q3] at h
        rcases q4 with ⟨ys, ws, rfl, _⟩ | ⟨d', rfl, r2⟩
        · cases h
        · cases h; exact ⟨_, q2, r2⟩
      · rw [putOuts_out hp hj] at h
        obtain ⟨v, q1, q2⟩ := A.val j d h
        exact ⟨v, q1, Is.mono po.g _ _ q2⟩
    · by_cases hj : j ∈ slotsOf ms
      · obtain ⟨xs, p, o, q1, q2, q3, q4, q5⟩ := inS j hj
        rw [q3] at h
        rcases q4 with ⟨ys, ws, rfl, r1, r2, r3⟩ | ⟨d', rfl, r2⟩
        · cases h; exact ⟨p, ws, q2, r1, r2, r3, q5⟩
        · cases h
      · rw [putOuts_out hp hj] at h
        obtain ⟨p, ws, q1, q2, q3, q4, q5⟩ := A.own j xs h
        have nm := keep j xs p hj h q1
        refine ⟨p, ws, q1, po.frame p _ q2 nm, ?_, IsL.mono po.g _ _ q4, q5⟩
        cases hg : G' p with
        | none => rfl
        | some o =>
          rcases po.new p o hg with ⟨o', z⟩ | z | z
          · rw [q3] at z; cases z
          · exact absurd z nm
          · rw [q2] at z; cases z
    · have own1 : ∀ j xs, sv e' j = .own xs → ∃ ys, sv e j = .own ys := fun j xs h => by
        by_cases hj : j ∈ slotsOf ms
        · obtain ⟨xs, p, o, q1, _⟩ := inS j hj
          exact ⟨xs, q1⟩
        · rw [putOuts_out hp hj] at h; exact ⟨xs, h⟩
      obtain ⟨xs', g1⟩ := own1 j xs h1
      obtain ⟨ys', g2⟩ := own1 k ys h2
      exact A.dis j k p xs' ys' g1 g2 h3 h4
    · have h' := A.frame a o h m
      refine po.frame a o h' fun z => ?_
      rcases mb a z with z | z
      · exact m z
      · rw [z] at h; cases h
    · rcases po.new a o h with ⟨o', z⟩ | z | z
      · exact A.new a o' z
      · exact .inr (mb a z)
      · exact .inr (A.fresh0 z)
  refine ⟨ag, ?_⟩
  have res := po.res
  cases r with
  | d d => exact res
  | fresh xs =>
    obtain ⟨p, ws, r1, r2, r3, r4, r5⟩ := res
    refine ⟨p, ws, r1, r2, r3, r4, A.fresh0 r5, fun i ys h z => ?_⟩
    by_cases hj : i ∈ slotsOf ms
    · obtain ⟨xs, p', o, q1, q2, _⟩ := inS i hj
      obtain ⟨p2, ws2, e1, e2, _⟩ := A.own i xs q1
      rw [← ref_inj (e1.symm.trans z), e2] at r5; cases r5
    · rw [putOuts_out hp hj] at h
      obtain ⟨p2, ws2, e1, e2, _⟩ := A.own i ys h
      rw [← ref_inj (e1.symm.trans z), e2] at r5; cases r5
  | slot i => exact res.elim

/-! the arguments, the call -/
def tSG (mp : List Nat) (K : PySem.W.Frag) (P : Params) (ms : List (Option Nat)) (f : M (List Ag)) : TA := fun σ H Q => ∃ B : Base mp, ∃ G e as e', Agree K P B G H σ e ∧ f e = some (as, e') ∧ ∀ vs G' H', Same G G' → Agree K P B G' H' σ e' → ArgsOk K P G' σ e' ms as vs → Q vs H'
theorem pa_nilG : PA X [] (tSG mp K P [] (evAs c [] [])) := PA.weak pa_nil fun σ H Q ⟨B, G, e, ds, e', A, h, k⟩ => by
  simp only [evAs] at h
  cases h
  exact k [] G H (.refl _) A .nil
theorem pa_consG {a : Expr} {es : List Expr} {ea : E} {er : List E} {ms : List (Option Nat)} (ha : PE X a (tS mp K P (evE c ea))) (hr : PA X es (tSG mp K P ms (evAs c ms er))) (hs : starEach (a :: es) X.env = (false, eval a X.env) :: starEach es X.env) : PA X (a :: es) (tSG mp K P (none :: ms) (evAs c (none :: ms) (ea :: er))) :=
  PA.weak (pa_cons ha hr hs) fun σ H Q ⟨B, G, e, ds, e', A, h, k⟩ => by
    simp only [evAs] at h
    replace h := bd_some h; obtain ⟨x, e1, h1, h⟩ := h
    replace h := bd_some h; obtain ⟨d, e2, h2, h⟩ := h
    replace h := bd_some h; obtain ⟨as, e3, h3, h⟩ := h
    cases h
    refine ⟨B, G, e, x, e1, A, h1, fun v G1 H1 s1 A1 r1 => ?_⟩
    obtain ⟨G1', s1', A1', i1⟩ := A1.cap r1 h2
    exact ⟨B, G1', e2, as, _, A1', h3, fun vs G2 H2 s2 A2 i2 => k _ G2 H2 ((s1.trans s1').trans s2) A2 (.d (Is.mono s2 _ _ i1) i2)⟩
theorem pa_consGm {a : Expr} {es : List Expr} {i : Nat} {ea : E} {er : List E} {ms : List (Option Nat)} (ha : PE X a (tVar i)) (hr : PA X es (tSG mp K P ms (evAs c ms er))) (hs : starEach (a :: es) X.env = (false, eval a X.env) :: starEach es X.env) : PA X (a :: es) (tSG mp K P (some i :: ms) (evAs c (some i :: ms) (ea :: er))) :=
  PA.weak (pa_cons ha hr hs) fun σ H Q ⟨B, G, e, ds, e', A, h, k⟩ => by
    simp only [evAs] at h
    split at h
    case h_2 => cases h
    rename_i xs0 hx0
    obtain ⟨p, ws, hv, _⟩ := A.own i xs0 hx0
    replace h := bd_some h; obtain ⟨as, e1, h1, h⟩ := h
    split at h
    · rename_i xs hx
      cases h
      exact ⟨_, hv, B, G, e, as, _, A, h1, fun vs G2 H2 s2 A2 i2 => k _ G2 H2 s2 A2 (.m hv hx i2)⟩
    · cases h
theorem pe_calS {x : Str} {p pos : Pos} {a : Expr} {es : List Expr} {fa : Addr} {fd : FuncData} {ps : List Str} {k : Nat} {ms : List (Option Nat)} {er : List E}
    (F : FnOk X.prog X.w X.K X.mg X.base CX0 k fa fd ps (SpF X.K P (c.call x))) (hr : Room k X.A) (hg : Gl X x) (hm : X.mg x = some (.ref fa)) (hk : PySem.W.keepIn X.K (.ref fa) = true) (hb : Binds X.K fd ps []) (nd : (slotsOf ms).Nodup)
    (ha : PA X (a :: es) (tSG mp X.K P ms (evAs c ms er))) (hdb : (x == ("__debug__" : Str)) = false) (he : starEach (a :: es) X.env = (false, eval a X.env) :: starEach es X.env) (hpl : (backTo pos (starEach es X.env)).any (·.1) = false) :
    PE X (.Call (.Name x p) (a :: es) [] pos) (tS mp X.K P (evE c (.cal x ms er))) :=
  PE.weak (pe_call F hr hg hm hk hb .nil pass0 ha hdb he hpl) fun σ H Q ⟨B, G, e, r, e', A, h, q⟩ => by
    simp only [evE] at h
    replace h := bd_some h; obtain ⟨as, e1, h1, h⟩ := h
    split at h
    · cases h
    · rename_i r' outs hc
      split at h
      · cases h
      · rename_i e2 hp
        cases h
        refine ⟨B, G, e, as, e1, A, h1, fun vs G1 H1 s1 A1 ok => ?_⟩
        show SpF X.K P (c.call x) (vs ++ []) H1 Q E0
        rw [List.append_nil]
        refine ⟨G1, as, r, outs, A1.same, ok.agl A1, fun i j p xs ys h1 h2 h3 h4 => ?_, hc, fun v G' H' po => ?_⟩
        · obtain ⟨j1, v1, a1, a2, a3, a4⟩ := ok.at h1
          obtain ⟨j2, v2, b1, b2, b3, b4⟩ := ok.at h2
          rw [h3] at a2; cases a2
          rw [h4] at b2; cases b2
          have := A1.dis j1 j2 p xs ys a4 b4 a3 b3
          subst this
          exact slots_inj nd a1 b1
        · obtain ⟨A', r'⟩ := A1.after ok nd hp po
          exact q v G' H' (s1.trans po.g) A' r'
end
end MP

/-! Targets, what is walked, comprehensions. -/
namespace MP
open PySem PySem.Spec L2
mutual
def slotsT : T → List Nat
  | .nam i => [i]
  | .tup ts => slotsTs ts
def slotsTs : List T → List Nat
  | [] => []
  | t :: ts => slotsT t ++ slotsTs ts
end
section
variable {mp : List Nat} {K : PySem.W.Frag} {P : Params} {X : Cx} {c : Ctx}
def tGT (mp : List Nat) (K : PySem.W.Frag) (P : Params) (t : T) : TG := fun v σ H Q => ∃ B : Base mp, ∃ G e d e', Agree K P B G H σ e ∧ Is K P G d v ∧ bindT t d e = some e' ∧
  ∀ σ', σ'.length = σ.length → (∀ i, i ∉ slotsT t → σ'[i]? = σ[i]?) → Agree K P B G H σ' e' → Q σ' H
def tGTs (mp : List Nat) (K : PySem.W.Frag) (P : Params) (ts : List T) : TGs := fun vs σ H Q => ∃ B : Base mp, ∃ G e ds e', Agree K P B G H σ e ∧ IsL K P G ds vs ∧ bindTs ts ds e = some e' ∧
  ∀ σ', σ'.length = σ.length → (∀ i, i ∉ slotsTs ts → σ'[i]? = σ[i]?) → Agree K P B G H σ' e' → Q σ' H
theorem PGs.weak {X : Cx} {e : List Expr} {t t' : TGs} (h : PGs X e t) (k : ∀ v σ H Q, t' v σ H Q → t v σ H Q) : PGs X e t' := ⟨fun pins s σ H v u Q I r q => h.run pins s σ H v u Q I r (k v σ H Q q)⟩
theorem pg_namS {i : Nat} {x : Str} {pos : Pos} (hN : X.N.Nodup) (hi : X.N[i]? = some x) (hx : Loc X.env.scope x) (hf : X.fn x = true ∨ X.env.scope.names.lookup x = some .local) (hp : i ∉ mp) : PG X (.Name x pos) (tGT mp K P (.nam i)) :=
  PG.weak (pg_name hN hi hx hf) fun v σ H Q ⟨B, G, e, d, e', A, is, h, k⟩ => by
    simp only [bindT] at h
    cases h
    refine k _ (by rw [List.length_set]) (fun j hj => ?_) (A.store hp is)
    simp only [slotsT, List.mem_singleton] at hj
    exact List.getElem?_set_ne (Ne.symm hj)
theorem pgs_nilS : PGs X [] (tGTs mp K P []) := PGs.weak pgs_nil fun vs σ H Q ⟨B, G, e, ds, e', A, is, h, k⟩ => by
  cases ds with
  | nil =>
    simp only [bindTs] at h
    cases h
    cases is
    exact ⟨rfl, k σ rfl (fun _ _ => rfl) A⟩
  | cons d ds => simp [bindTs] at h
theorem pgs_consS {a : Expr} {es : List Expr} {t : T} {ts : List T} (h1 : PG X a (tGT mp K P t)) (h2 : PGs X es (tGTs mp K P ts)) (hs : (assignEach (a :: es) X.env).map (·.2) = assign a X.env :: (assignEach es X.env).map (·.2)) : PGs X (a :: es) (tGTs mp K P (t :: ts)) :=
  PGs.weak (pgs_cons h1 h2 hs) fun vs σ H Q ⟨B, G, e, ds, e', A, is, h, k⟩ => by
    cases ds with
    | nil => simp [bindTs] at h
    | cons d ds =>
      obtain ⟨v, r, e1, i1, i2⟩ := is
      simp only [bindTs] at h
      split at h
      · cases h
      · rename_i e1' hb
        refine ⟨v, r, e1, B, G, e, d, e1', A, i1, hb, fun σ1 l1 f1 A1 => ?_⟩
        refine ⟨B, G, e1', ds, e', A1, i2, h, fun σ2 l2 f2 A2 => k σ2 (l2.trans l1) (fun i hi => ?_) A2⟩
        simp only [slotsTs, List.mem_append, not_or] at hi
        rw [f2 i hi.2, f1 i hi.1]
theorem pg_tupS {es : List Expr} {k : Nat} {pos : Pos} {ts : List T} (hc : X.calm = true) (h : PGs X es (tGTs mp X.K P ts)) (hn : (assignEach es X.env).length = ts.length) (hst : (assignEach es X.env).findIdx? (·.1) = none) : PG X (.Tuple es k pos) (tGT mp X.K P (.tup ts)) :=
  PG.weak (pg_tup hc h hn hst) fun v σ H Q ⟨B, G, e, d, e', A, is, h, q⟩ => by
    cases d with
    | tup ds =>
      simp only [bindT] at h
      obtain ⟨a, vs, rfl, hs, il⟩ := is
      refine ⟨a, vs, rfl, Same.seqT A.same hs, ?_, B, G, e, ds, e', A, il, h, q⟩
      rw [← il.len]
      have : ∀ {ts : List T} {ds : List D} {e e' : Env}, bindTs ts ds e = some e' → ds.length = ts.length := by
        intro ts
        induction ts with
        | nil => intro ds e e' h; cases ds with
          | nil => rfl
          | cons _ _ => simp [bindTs] at h
        | cons t ts ih => intro ds e e' h; cases ds with
          | nil => simp [bindTs] at h
          | cons d ds =>
            simp only [bindTs] at h
            split at h
            · cases h
            · simp [ih h]
      exact this h
    | _ => simp [bindT] at h

/-! ### what is walked -/
structure ItOk (K : PySem.W.Frag) (P : Params) (G : Hp) (ds : List D) (J : It) : Prop where
  go : ∀ i G2 H2, Same G G2 → Same G2 H2 → i < ds.length → J.go i H2
  stop : ∀ i G2 H2, Same G G2 → Same G2 H2 → ds.length ≤ i → J.stop i H2
  yld : ∀ (i : Nat) (mp : List Nat) (B : Base mp) σ e G2 H2 x H3 d, Same G G2 → Agree K P B G2 H2 σ e → ds[i]? = some d → J.yld i H2 x H3 → ∃ G3, Same G2 G3 ∧ Agree K P B G3 H3 σ e ∧ Is K P G3 d x
theorem ItOk.mono {G G' : Hp} {ds : List D} {J : It} (h : ItOk K P G ds J) (s : Same G G') : ItOk K P G' ds J :=
  ⟨fun i G2 H2 a b => h.go i G2 H2 (s.trans a) b, fun i G2 H2 a b => h.stop i G2 H2 (s.trans a) b, fun i mp B σ e G2 H2 x H3 d a => h.yld i mp B σ e G2 H2 x H3 d (s.trans a)⟩
def tSI (mp : List Nat) (K : PySem.W.Frag) (P : Params) (f : M (List D)) : TI := fun σ H R => ∃ B : Base mp, ∃ G e ds e', Agree K P B G H σ e ∧ f e = some (ds, e') ∧ ∀ J G' H', Same G G' → Agree K P B G' H' σ e' → ItOk K P G' ds J → R J H'
theorem PI.or {tg e : Expr} {t t' : TI} (h : PI X tg e t) (h' : PI X tg e t') : PI X tg e (fun σ H R => t σ H R ∨ t' σ H R) := ⟨fun pins s σ H R I q => q.elim (h.run pins s σ H R I) (h'.run pins s σ H R I)⟩
theorem it_list {G : Hp} {xs : List D} {vs : List V} {a : Addr} (h : ∀ G2 H2, Same G G2 → Same G2 H2 → SqL K H2 a vs) (il : IsL K P G xs vs) : ItOk K P G xs (Itl K a) where
  go := fun i G2 H2 s s2 hi => by
    obtain ⟨v, e1, _⟩ := il.get (List.getElem?_eq_getElem hi)
    exact ⟨vs, v, h G2 H2 s s2, e1⟩
  stop := fun i G2 H2 s s2 hi => ⟨vs, h G2 H2 s s2, by rw [← il.len]; exact hi⟩
  yld := fun i mp B σ e G2 H2 x H3 d s A hd y => by
    obtain ⟨rfl, y⟩ := y
    obtain ⟨v, e1, e2⟩ := il.get hd
    have := y vs (h G2 H3 s A.same)
    rw [this] at e1; cases e1
    exact ⟨G2, .refl _, A, Is.mono s _ _ e2⟩
theorem it_tup {G : Hp} {xs : List D} {vs : List V} {a : Addr} (h : SqT K G a vs) (il : IsL K P G xs vs) : ItOk K P G xs (Itt K a) where
  go := fun i G2 H2 s s2 hi => by
    obtain ⟨v, e1, _⟩ := il.get (List.getElem?_eq_getElem hi)
    exact ⟨vs, v, Same.seqT (s.trans s2) h, e1⟩
  stop := fun i G2 H2 s s2 hi => ⟨vs, Same.seqT (s.trans s2) h, by rw [← il.len]; exact hi⟩
  yld := fun i mp B σ e G2 H2 x H3 d s A hd y => by
    obtain ⟨rfl, y⟩ := y
    obtain ⟨v, e1, e2⟩ := il.get hd
    have := y vs (Same.seqT (s.trans A.same) h)
    rw [this] at e1; cases e1
    exact ⟨G2, .refl _, A, Is.mono s _ _ e2⟩
theorem it_str {G : Hp} (l : List Nat) : ItOk K P G (l.map fun c => D.str [c]) (Its (mkS l)) where
  go := fun i G2 H2 s s2 hi => by
    show i < (mkS l).cps.size
    have : (mkS l).cps.size = l.length := mkS_len l
    rw [this]; simpa using hi
  stop := fun i G2 H2 s s2 hi => by
    show (mkS l).cps.size ≤ i
    have : (mkS l).cps.size = l.length := mkS_len l
    rw [this]; simpa using hi
  yld := fun i mp B σ e G2 H2 x H3 d s A hd y => by
    obtain ⟨rfl, cc, y1, rfl⟩ := y
    refine ⟨G2, .refl _, A, ?_⟩
    rw [List.getElem?_map] at hd
    obtain ⟨c', hc, rfl⟩ := Option.map_eq_some_iff.mp hd
    have : (mkS l).cps[i]? = l[i]? := by show l.toArray[i]? = _; simp
    rw [this, hc] at y1
    cases y1
    rfl
theorem it_rng {G : Hp} (a b : Int) : ItOk K P G (rngI a b) (Itr a (b - a).toNat) where
  go := fun i G2 H2 s s2 hi => by
    show i < (b - a).toNat
    simpa [rngI] using hi
  stop := fun i G2 H2 s s2 hi => by
    show (b - a).toNat ≤ i
    simpa [rngI] using hi
  yld := fun i mp B σ e G2 H2 x H3 d s A hd y => by
    obtain ⟨rfl, rfl⟩ := y
    refine ⟨G2, .refl _, A, ?_⟩
    unfold rngI at hd
    rw [List.getElem?_map] at hd
    obtain ⟨k, hk, rfl⟩ := Option.map_eq_some_iff.mp hd
    obtain ⟨h1, h2⟩ := List.getElem?_eq_some_iff.mp hk
    rw [List.getElem_range] at h2
    subst h2
    rfl
theorem enmGo_get : ∀ (xs : List D) (i k : Nat), (enmGo k xs)[i]? = (xs[i]?).map fun x => D.tup [.int ((k + i : Nat) : Int), x]
  | [], i, k => by simp [enmGo]
  | x :: xs, 0, k => by simp [enmGo]
  | x :: xs, i + 1, k => by
    simp only [enmGo, List.getElem?_cons_succ, enmGo_get xs i (k + 1)]
    rw [show k + 1 + i = k + (i + 1) by omega]
theorem enmGo_len : ∀ (xs : List D) (k : Nat), (enmGo k xs).length = xs.length
  | [], k => rfl
  | x :: xs, k => by simp [enmGo, enmGo_len xs (k + 1)]
theorem it_enm {G : Hp} {xs : List D} {vs : List V} {a : Addr} (h : G a = some (.lst vs)) (il : IsL K P G xs vs) : ItOk K P G (enmGo 0 xs) (Ite K a) where
  go := fun i G2 H2 s s2 hi => by
    rw [enmGo_len] at hi
    obtain ⟨v, e1, _⟩ := il.get (List.getElem?_eq_getElem hi)
    exact ⟨vs, v, .of (s2 _ _ (s _ _ h)), e1⟩
  stop := fun i G2 H2 s s2 hi => ⟨vs, .of (s2 _ _ (s _ _ h)), by rw [← il.len, ← enmGo_len xs 0]; exact hi⟩
  yld := fun i mp B σ e G2 H2 x H3 d s A hd y => by
    obtain ⟨T, z, rfl, y1, rfl, y2⟩ := y
    rw [enmGo_get] at hd
    obtain ⟨d', hd', rfl⟩ := Option.map_eq_some_iff.mp hd
    obtain ⟨v, e1, e2⟩ := il.get hd'
    have := y2 vs (.of (A.same _ _ (s _ _ h)))
    rw [this] at e1; cases e1
    have hg := A.gfree y1
    refine ⟨_, same_upd hg, A.laid y1, T, _, rfl, .of upd_same, _, _, rfl, ?_, _, _, rfl, Is.mono (s.trans (same_upd hg)) _ _ e2, rfl⟩
    rw [Nat.zero_add]
    rfl
theorem zipGo_get : ∀ (xs ys : List D) (i : Nat) (d : D), (zipGo xs ys)[i]? = some d → ∃ x y, xs[i]? = some x ∧ ys[i]? = some y ∧ d = .tup [x, y]
  | [], _, i, d, h => by simp [zipGo] at h
  | _ :: _, [], i, d, h => by simp [zipGo] at h
  | x :: xs, y :: ys, 0, d, h => by simp [zipGo] at h; exact ⟨x, y, rfl, rfl, h.symm⟩
  | x :: xs, y :: ys, i + 1, d, h => by simpa using zipGo_get xs ys i d (by simpa [zipGo] using h)
theorem zipGo_len : ∀ (xs ys : List D), (zipGo xs ys).length = min xs.length ys.length
  | [], _ => by simp [zipGo]
  | _ :: _, [] => by simp [zipGo]
  | x :: xs, y :: ys => by simp [zipGo, zipGo_len xs ys]
theorem it_zip {G : Hp} {xs ys : List D} {vs ws : List V} {a b : Addr} (h : G a = some (.lst vs)) (h' : G b = some (.lst ws)) (il : IsL K P G xs vs) (il' : IsL K P G ys ws) : ItOk K P G (zipGo xs ys) (Itz K a b) where
  go := fun i G2 H2 s s2 hi => by
    rw [zipGo_len] at hi
    obtain ⟨v, e1, _⟩ := il.get (List.getElem?_eq_getElem (show i < xs.length by omega))
    obtain ⟨w, e2, _⟩ := il'.get (List.getElem?_eq_getElem (show i < ys.length by omega))
    exact ⟨vs, ws, v, w, .of (s2 _ _ (s _ _ h)), .of (s2 _ _ (s _ _ h')), e1, e2⟩
  stop := fun i G2 H2 s s2 hi => ⟨vs, ws, .of (s2 _ _ (s _ _ h)), .of (s2 _ _ (s _ _ h')), by rw [← il.len, ← il'.len]; rw [zipGo_len] at hi; omega⟩
  yld := fun i mp B σ e G2 H2 x H3 d s A hd y => by
    obtain ⟨T, z, z', rfl, y1, rfl, y2, y3⟩ := y
    obtain ⟨d1, d2, g1, g2, rfl⟩ := zipGo_get xs ys i d hd
    obtain ⟨v, e1, e2⟩ := il.get g1
    obtain ⟨w, f1, f2⟩ := il'.get g2
    have q1 := y2 vs (.of (A.same _ _ (s _ _ h)))
    have q2 := y3 ws (.of (A.same _ _ (s _ _ h')))
    rw [q1] at e1; cases e1
    rw [q2] at f1; cases f1
    have hg := A.gfree y1
    exact ⟨_, same_upd hg, A.laid y1, T, _, rfl, .of upd_same, _, _, rfl, Is.mono (s.trans (same_upd hg)) _ _ e2, _, _, rfl, Is.mono (s.trans (same_upd hg)) _ _ f2, rfl⟩

theorem pi_seqS {tg l : Expr} {el : E} (hl : PE X l (tS mp X.K P (evE c el))) : PI X tg l (tSI mp X.K P (evI c (.seq el))) :=
  PI.weak (PI.or (pi_list hl) (PI.or (pi_tup hl) (pi_str hl))) fun σ H R ⟨B, G, e, ds, e', A, h, k⟩ => by
    simp only [evI] at h
    replace h := bd_some h; obtain ⟨x, e1, h1, h⟩ := h
    replace h := bd_some h; obtain ⟨d, e2, h2, h⟩ := h
    replace h := lift_some h; obtain ⟨h3, z3⟩ := h
    dsimp only at z3 h3
    subst z3
    unfold seqD at h3
    split at h3
    · cases h3
      refine .inl ⟨B, G, e, x, e1, A, h1, fun v G1 H1 s1 A1 r1 => ?_⟩
      obtain ⟨G2, s2, A2, i2⟩ := A1.cap r1 h2
      obtain ⟨a, vs, rfl, q1, q2⟩ := i2
      exact ⟨a, rfl, ⟨vs, .of (A2.same _ _ q1)⟩, k _ G2 H1 (s1.trans s2) A2 (it_list (fun G3 H3 a b => .of (b _ _ (a _ _ q1))) q2)⟩
    · cases h3
      refine .inr (.inl ⟨B, G, e, x, e1, A, h1, fun v G1 H1 s1 A1 r1 => ?_⟩)
      obtain ⟨G2, s2, A2, i2⟩ := A1.cap r1 h2
      obtain ⟨a, vs, rfl, q1, q2⟩ := i2
      exact ⟨a, rfl, ⟨vs, Same.seqT A2.same q1⟩, k _ G2 H1 (s1.trans s2) A2 (it_tup q1 q2)⟩
    · cases h3
      refine .inl ⟨B, G, e, x, e1, A, h1, fun v G1 H1 s1 A1 r1 => ?_⟩
      obtain ⟨G2, s2, A2, i2⟩ := A1.cap r1 h2
      obtain ⟨a, vs, rfl, q1, q2⟩ := i2
      exact ⟨a, rfl, ⟨vs, Same.seq A2.same q1⟩, k _ G2 H1 (s1.trans s2) A2 (it_list (fun G3 H3 a b => Same.seq (a.trans b) q1) q2)⟩
    · cases h3
      refine .inr (.inr ⟨B, G, e, x, e1, A, h1, fun v G1 H1 s1 A1 r1 => ?_⟩)
      obtain ⟨G2, s2, A2, i2⟩ := A1.cap r1 h2
      rename_i l
      exact ⟨mkS l, i2, k _ G2 H1 (s1.trans s2) A2 (it_str l)⟩
    · cases h3
theorem okR_of {i : Int} (h : okR i = true) : -(2 ^ 62) ≤ i ∧ i < 2 ^ 62 := by
  have := Nat.le_of_ble_eq_true h
  have e : ((2 : Int) ^ 62) = 4611686018427387904 := by decide
  rw [e]
  omega
theorem pi_rng1S {tg a : Expr} {p pos : Pos} {ea : E} (hg : Gl X "range") (hm : X.mg "range" = none) (ha : PA X [a] (tSO mp X.K P (evOs c [ea]))) (hs : starEach [a] X.env = [(false, eval a X.env)]) : PI X tg (.Call (.Name "range" p) [a] [] pos) (tSI mp X.K P (evI c (.rng [ea]))) :=
  PI.weak (pi_range1 hg hm ha hs) fun σ H R ⟨B, G, e, ds, e', A, h, k⟩ => by
    simp only [evI] at h
    replace h := bd_some h; obtain ⟨rs, e1, h1, h⟩ := h
    replace h := bd_some h; obtain ⟨dd, e2, h2, h⟩ := h
    replace h := lift_some h; obtain ⟨h3, z3⟩ := h
    dsimp only at z3 h3
    subst z3
    refine ⟨B, G, e, rs, e1, A, h1, fun vs G1 H1 s1 A1 i1 => ?_⟩
    obtain ⟨i2, z2⟩ := A1.lks i1 h2
    dsimp only at z2 i2
    subst z2
    unfold rngD at h3
    split at h3
    · split at h3
      · rename_i b hb
        cases h3
        cases i2 with
        | cons q1 q2 =>
          cases q2
          rw [show _ = V.int b from q1]
          obtain ⟨w1, w2⟩ := okR_of hb
          refine ⟨b, rfl, w1, w2, k _ G1 H1 s1 A1 ?_⟩
          have := it_rng (K := X.K) (P := P) (G := G1) 0 b
          rw [Int.sub_zero] at this
          exact this
      · cases h3
    · split at h3
      · rename_i a b hb
        cases i2 with
        | cons q1 q2 => cases q2 with
          | cons q2 q3 =>
            exfalso
            simp only [evOs] at h1
            replace h1 := bd_some h1; obtain ⟨x, e3, h4, h1⟩ := h1
            replace h1 := bd_some h1; obtain ⟨ys, e4, h5, h1⟩ := h1
            cases h5
            cases h1
            cases i1 with
            | cons _ i1 => cases i1
      · cases h3
    · cases h3
theorem pi_rng2S {tg a b : Expr} {p pos : Pos} {ea eb : E} (hg : Gl X "range") (hm : X.mg "range" = none) (ha : PA X [a, b] (tSO mp X.K P (evOs c [ea, eb]))) (hs : starEach [a, b] X.env = [(false, eval a X.env), (false, eval b X.env)]) (hs2 : starEach [b] X.env = [(false, eval b X.env)]) :
    PI X tg (.Call (.Name "range" p) [a, b] [] pos) (tSI mp X.K P (evI c (.rng [ea, eb]))) :=
  PI.weak (pi_range2 hg hm ha hs hs2) fun σ H R ⟨B, G, e, ds, e', A, h, k⟩ => by
    simp only [evI] at h
    replace h := bd_some h; obtain ⟨rs, e1, h1, h⟩ := h
    replace h := bd_some h; obtain ⟨dd, e2, h2, h⟩ := h
    replace h := lift_some h; obtain ⟨h3, z3⟩ := h
    dsimp only at z3 h3
    subst z3
    refine ⟨B, G, e, rs, e1, A, h1, fun vs G1 H1 s1 A1 i1 => ?_⟩
    obtain ⟨i2, z2⟩ := A1.lks i1 h2
    dsimp only at z2 i2
    subst z2
    unfold rngD at h3
    split at h3
    · exfalso
      cases i2 with
      | cons q1 q2 =>
        cases q2
        simp only [evOs] at h1
        replace h1 := bd_some h1; obtain ⟨x, e3, h4, h1⟩ := h1
        replace h1 := bd_some h1; obtain ⟨ys, e4, h5, h1⟩ := h1
        replace h5 := bd_some h5; obtain ⟨y, e5, h6, h5⟩ := h5
        replace h5 := bd_some h5; obtain ⟨zs, e6, h7, h5⟩ := h5
        cases h7
        cases h5
        cases h1
        cases i1 with
        | cons _ i1 => cases i1
    · split at h3
      · rename_i a b hb
        cases h3
        simp only [Bool.and_eq_true] at hb
        cases i2 with
        | cons q1 q2 => cases q2 with
          | cons q2 q3 =>
            cases q3
            rw [show _ = V.int a from q1, show _ = V.int b from q2]
            obtain ⟨w1, w2⟩ := okR_of hb.1
            obtain ⟨w3, w4⟩ := okR_of hb.2
            exact ⟨a, b, rfl, ⟨w1, w2, w3, w4⟩, k _ G1 H1 s1 A1 (it_rng a b)⟩
      · cases h3
    · cases h3
end
end MP

namespace MP
open PySem PySem.Spec L2
section
variable {mp : List Nat} {K : PySem.W.Frag} {P : Params} {X : Cx} {c : Ctx}
theorem pi_enmS {a : Expr} {p pos tpos : Pos} {elts : List Expr} {kk : Nat} {ea : E} (hg : Gl X "enumerate") (hm : X.mg "enumerate" = none) (ha : PA X [a] (tSD mp X.K P (evDs c [ea]))) (hs : starEach [a] X.env = [(false, eval a X.env)]) :
    PI X (.Tuple elts kk tpos) (.Call (.Name "enumerate" p) [a] [] pos) (tSI mp X.K P (evI c (.enm ea))) :=
  PI.weak (pi_enum hg hm ha hs) fun σ H R ⟨B, G, e, ds, e', A, h, k⟩ => by
    simp only [evI] at h
    replace h := bd_some h; obtain ⟨x, e1, h1, h⟩ := h
    replace h := bd_some h; obtain ⟨d, e2, h2, h⟩ := h
    replace h := lift_some h; obtain ⟨h3, z3⟩ := h
    dsimp only at z3 h3
    subst z3
    unfold enmD at h3
    split at h3
    · rename_i xs
      cases h3
      refine ⟨B, G, e, [.lst xs], e', A, ?_, fun vs G1 H1 s1 A1 i1 => ?_⟩
      · simp only [evDs, M.bd, h1, h2, M.ret]
      · obtain ⟨v, r, rfl, i1, i2⟩ := i1
        cases i2
        obtain ⟨a, vs, rfl, q1, q2⟩ := i1
        exact ⟨a, vs, rfl, .of (A1.same _ _ q1), k _ G1 H1 s1 A1 (it_enm q1 q2)⟩
    · cases h3
theorem pi_zipS {a b : Expr} {p pos tpos : Pos} {elts : List Expr} {kk : Nat} {ea eb : E} (hg : Gl X "zip") (hm : X.mg "zip" = none) (ha : PA X [a, b] (tSD mp X.K P (evDs c [ea, eb]))) (hs : starEach [a, b] X.env = (false, eval a X.env) :: starEach [b] X.env) (hs2 : starEach [b] X.env = [(false, eval b X.env)]) :
    PI X (.Tuple elts kk tpos) (.Call (.Name "zip" p) [a, b] [] pos) (tSI mp X.K P (evI c (.zip ea eb))) :=
  PI.weak (pi_zip hg hm ha hs (by rw [hs2]; rfl)) fun σ H R ⟨B, G, e, ds, e', A, h, k⟩ => by
    simp only [evI] at h
    replace h := bd_some h; obtain ⟨x, e1, h1, h⟩ := h
    replace h := bd_some h; obtain ⟨d, e2, h2, h⟩ := h
    replace h := bd_some h; obtain ⟨y, e3, h3, h⟩ := h
    replace h := bd_some h; obtain ⟨d', e4, h4, h⟩ := h
    replace h := lift_some h; obtain ⟨h5, z5⟩ := h
    dsimp only at z5 h5
    subst z5
    unfold zipD at h5
    split at h5
    · rename_i xs ys
      cases h5
      refine ⟨B, G, e, [.lst xs, .lst ys], e', A, ?_, fun vs G1 H1 s1 A1 i1 => ?_⟩
      · simp only [evDs, M.bd, h1, h2, h3, h4, M.ret]
      · obtain ⟨v, r, rfl, i1, i2⟩ := i1
        obtain ⟨v', r', rfl, i2, i3⟩ := i2
        cases i3
        obtain ⟨a, vs, rfl, q1, q2⟩ := i1
        obtain ⟨b, ws, rfl, q3, q4⟩ := i2
        exact ⟨a, b, vs, ws, rfl, .of (A1.same _ _ q1), .of (A1.same _ _ q3), k _ G1 H1 s1 A1 (it_zip q1 q3 q2 q4)⟩
    · cases h5

/-! ### comprehensions -/
theorem sv_wipeE (e : Env) : ∀ (vs : List Nat) (i : Nat), sv (wipeE e vs) i = if i ∈ vs then .no else sv e i
  | [], i => by simp [wipeE]
  | v :: vs, i => by
    simp only [wipeE, sv_st, sv_wipeE e vs i, List.mem_cons]
    by_cases h1 : i = v
    · subst h1
      by_cases h2 : i < (wipeE e vs).length
      · simp [h2]
      · simp only [h2, and_false, if_false, true_or, if_true]
        split
        · rfl
        · have : (wipeE e vs).length = e.length := by
            clear h2
            induction vs with
            | nil => rfl
            | cons w ws ih => simp [wipeE, st_len]; exact ih (fun z => by rename_i q; exact q (List.mem_cons_of_mem _ z))
          exact sv_ge e i (by omega)
    · simp [h1]
theorem wipeE_len (e : Env) : ∀ vs : List Nat, (wipeE e vs).length = e.length
  | [] => rfl
  | v :: vs => by simp [wipeE, st_len, wipeE_len e vs]
theorem backE_len (e0 e : Env) : ∀ vs : List Nat, (backE e0 e vs).length = e.length
  | [] => rfl
  | v :: vs => by simp [backE, st_len, backE_len e0 e vs]
theorem sv_backE (e0 e : Env) (hl : e0.length = e.length) : ∀ (vs : List Nat) (i : Nat), sv (backE e0 e vs) i = if i ∈ vs then sv e0 i else sv e i
  | [], i => by simp [backE]
  | v :: vs, i => by
    simp only [backE, sv_st, sv_backE e0 e hl vs i, List.mem_cons, backE_len]
    by_cases h1 : i = v
    · subst h1
      by_cases h2 : i < e.length
      · simp [h2]
      · simp only [h2, and_false, if_false, true_or, if_true]
        split
        · rfl
        · rw [sv_ge e i (by omega), sv_ge e0 i (by omega)]
    · simp [h1]
theorem wipe_get (σ : St) : ∀ (vs : List Nat) (i : Nat), (wipe σ vs)[i]? = if i ∈ vs ∧ i < σ.length then some none else σ[i]?
  | [], i => by simp [wipe]
  | v :: vs, i => by
    unfold wipe
    rw [List.getElem?_set, wipe_get σ vs i, wipe_length]
    by_cases h1 : v = i
    · subst h1
      by_cases h2 : v < σ.length
      · simp [h2]
      · simp [h2]
    · simp [h1, Ne.symm h1]
theorem wipe_eq {σ σ' : St} {vs : List Nat} (hl : σ'.length = σ.length) (h : ∀ i, i ∉ vs → σ'[i]? = (wipe σ vs)[i]?) : wipe σ' vs = wipe σ vs := by
  apply List.ext_getElem?
  intro i
  by_cases hi : i ∈ vs
  · rw [wipe_get, wipe_get, hl]
    by_cases h2 : i < σ.length
    · simp [hi, h2]
    · simp only [hi, h2, and_false, if_false]
      rw [List.getElem?_eq_none (by omega), List.getElem?_eq_none (by omega)]
  · rw [← h i hi, wipe_get]
    simp [hi]
theorem Agree.wipe {B : Base mp} {G H : Hp} {σ : St} {e : Env} (A : Agree K P B G H σ e) {vs : List Nat} (hm : ∀ v ∈ vs, v ∉ mp) : Agree K P B G H (L2.wipe σ vs) (wipeE e vs) := by
  have key : ∀ ws : List Nat, Agree K P B G H σ (wipeE e ws) := by
    intro ws
    induction ws with
    | nil => exact A
    | cons w ws ih => exact ih.forget w
  refine (key vs).slots (wipe_length σ vs) (fun i hi => ?_) (fun q hq => ?_)
  · rw [sv_wipeE] at hi
    split at hi
    · exact absurd rfl hi
    · rename_i h; exact wipe_out h
  · exact wipe_out fun z => hm _ z (B.pm q hq)
/-- another's list is written -/
theorem Agree.other {B : Base mp} {G H : Hp} {σ : St} {e : Env} (A : Agree K P B G H σ e) {p : Addr} {o : HO} (g : G p = none) (m : B.M0 p ∨ B.H0 p = none) (no : ∀ i ys, sv e i = .own ys → σ[i]? ≠ some (some (.ref p))) : Agree K P B G (upd H p o) σ e where
  same := fun b x q => by
    have ne : b ≠ p := fun z => by rw [z, g] at q; cases q
    rw [upd_ne ne]; exact A.same b x q
  len := A.len
  val := A.val
  own := fun i xs h => by
    obtain ⟨q, vs, e1, e2, e3, e4, e5⟩ := A.own i xs h
    have ne : q ≠ p := fun z => no i xs h (by rw [e1, z])
    exact ⟨q, vs, e1, by rw [upd_ne ne]; exact e2, e3, e4, e5⟩
  dis := A.dis
  g0 := A.g0
  frame := fun a u q n => by
    have ne : a ≠ p := fun z => by
      rcases m with m | m
      · rw [z] at n; exact n m
      · rw [z, m] at q; cases q
    rw [upd_ne ne]; exact A.frame a u q n
  new := A.new
  pins := A.pins
theorem pts_nilS : PTs X [] (tST mp K P (evTs c [])) := PTs.weak pts_nil fun σ H Q ⟨B, G, e, b, e', A, h, k⟩ => by
  simp only [evTs] at h
  cases h
  exact k G H (.refl _) A
theorem pts_oneS {a : Expr} {ea : E} (h : PT X a (tST mp K P (evT c ea))) : PTs X [a] (tST mp K P (evTs c [ea])) := PTs.weak (pts_one h) fun σ H Q h => by simpa only [evTs] using h
theorem lc_of {own : List (Str × Nat)} {t : T} {it : I} {ifs : List E} {elt : E} (hm : ∀ v ∈ own.map (·.2), v ∉ mp) (ht : ∀ i ∈ slotsT t, i ∈ own.map (·.2)) (σ : St) (H : Hp) (Q : VK) (h : tS mp K P (evE c (.lc own t it ifs elt)) σ H Q) :
    tLc (tSI mp K P (evI c it)) (tGT mp K P t) (tST mp K P (evTs c ifs)) (tS mp K P (evE c elt)) (own.map (·.2)) σ H Q := by
  obtain ⟨B, G, e, r, e', A, h, k⟩ := h
  simp only [evE] at h
  replace h := bd_some h; obtain ⟨xs, e1, h1, h⟩ := h
  generalize hvs : own.map (·.2) = vs at *
  split at h
  case isFalse => cases h
  rename_i hg
  simp only [Bool.and_eq_true, decide_eq_true_eq] at hg
  obtain ⟨hz, hno⟩ := hg
  split at h
  · cases h
  rename_i ys e2 hgo
  cases h
  refine ⟨B, G, e, xs, e1, A, h1, fun J G1 H1 s1 A1 it1 D hD => ?_⟩
  have mD : B.M0 D ∨ B.H0 D = none := A1.fresh0 hD
  refine ⟨fun i m H => m = xs.length - i ∧ i ≤ xs.length ∧ ∃ G e' acc vacc zs, Same G1 G ∧ Agree K P B G H (wipe σ vs) e' ∧ H D = some (.lst vacc) ∧ G D = none ∧ IsL K P G acc vacc ∧ acc.length ≤ i ∧
      lcGo vs t (evTs c ifs) (M.bd (evE c elt) cap) (xs.drop i) e' = some (zs, e2) ∧ ys = acc ++ zs ∧ ¬ Owns (wipe σ vs) e' D,
    ⟨_, rfl, Nat.zero_le _, G1, _, [], [], ys, .refl _, (A1.wipe hm).made hD, upd_same, A1.gfree hD, rfl, Nat.le_refl _, hgo, rfl, ?_⟩, ?_⟩
  · rintro ⟨i, zs, q1, q2⟩
    obtain ⟨p, ws, a1, a2, _⟩ := (A1.wipe hm).own i zs q1
    rw [← ref_inj (a1.symm.trans q2), a2] at hD
    cases hD
  rintro i m H2 ⟨rfl, hi, G2, e3, acc, vacc, zs, s2, A2, hD2, gD2, il, hacc, hgo2, hys, nown⟩
  by_cases hlt : i < xs.length
  · right
    refine ⟨it1.go i G2 H2 s2 A2.same hlt, fun H' => i + 1 ≤ xs.length ∧ ∃ G e' acc vacc zs, Same G1 G ∧ Agree K P B G H' (wipe σ vs) e' ∧ H' D = some (.lst vacc) ∧ G D = none ∧ IsL K P G acc vacc ∧ acc.length ≤ i + 1 ∧
      lcGo vs t (evTs c ifs) (M.bd (evE c elt) cap) (xs.drop (i + 1)) e' = some (zs, e2) ∧ ys = acc ++ zs ∧ ¬ Owns (wipe σ vs) e' D, fun H' q => ⟨xs.length - (i + 1), by omega, rfl, q⟩, fun x H3 hy => ?_⟩
    have Ab := A2.rebase
    obtain ⟨G3, s3, A3, ix⟩ := it1.yld i mp _ _ _ G2 H2 x H3 xs[i] s2 Ab (List.getElem?_eq_getElem hlt) hy
    rw [List.drop_eq_getElem_cons hlt] at hgo2
    simp only [lcGo] at hgo2
    split at hgo2
    · cases hgo2
    rename_i e4 hb
    refine ⟨_, G3, e3, xs[i], e4, A3, ix, hb, fun σ2 l2 f2 A4 => ?_⟩
    have hw : wipe σ2 vs = wipe σ vs := wipe_eq (by rw [l2, wipe_length]) fun j hj => f2 j fun z => hj (ht j z)
    refine ⟨hw, ?_⟩
    -- what a turn's end needs
    have keepD : ∀ {G' H' : Hp} {e' : Env}, Agree K P ⟨G2, H2, Owns (wipe σ vs) e3, B.pa, B.pm⟩ G' H' σ2 e' → H' D = some (.lst vacc) ∧ G' D = none ∧ (∀ j zs, sv e' j = .own zs → σ2[j]? ≠ some (some (.ref D))) := fun {G' H' e'} A' => by
      refine ⟨A'.frame D _ hD2 nown, ?_, fun j zs q1 q2 => ?_⟩
      · cases q : G' D with
        | none => rfl
        | some o =>
          rcases A'.new D o q with ⟨o', z⟩ | z | z
          · have z : G2 D = some o' := z
            rw [gD2] at z; cases z
          · exact absurd z nown
          · have z : H2 D = none := z
            rw [hD2] at z; cases z
      · obtain ⟨p, ws, a1, _, _, _, a5⟩ := A'.own j zs q1
        rw [ref_inj (a1.symm.trans q2)] at a5
        rcases a5 with z | z
        · exact nown z
        · have z : H2 D = none := z
          rw [hD2] at z; cases z
    have wiped : ∀ {G' H' : Hp} {e' : Env}, Agree K P ⟨G2, H2, Owns (wipe σ vs) e3, B.pa, B.pm⟩ G' H' σ2 e' → Agree K P B G' H' (wipe σ vs) (wipeE e' vs) ∧ ¬ Owns (wipe σ vs) (wipeE e' vs) D := fun {G' H' e'} A' => by
      have q := (A2.unbase A').wipe hm
      rw [hw] at q
      refine ⟨q, ?_⟩
      rintro ⟨j, zs, q1, q2⟩
      rw [sv_wipeE] at q1
      split at q1
      · cases q1
      · rename_i hj
        rw [← hw, wipe_out hj] at q2
        exact (keepD A').2.2 j zs q1 q2
    split at hgo2
    · cases hgo2
    rename_i b e5 htst
    refine ⟨_, G3, e4, b, e5, A4, htst, fun G5 H5 s5 A5 => ?_⟩
    cases b with
    | false =>
      rw [if_neg Bool.false_ne_true] at hgo2 ⊢
      obtain ⟨q1, q2⟩ := wiped A5
      obtain ⟨q3, q4, _⟩ := keepD A5
      exact ⟨hlt, G5, _, acc, vacc, zs, s2.trans (s3.trans s5), q1, q3, q4, IsL.mono (s3.trans s5) _ _ il, Nat.le_succ_of_le hacc, hgo2, hys, q2⟩
    | true =>
      rw [if_pos rfl] at hgo2 ⊢
      split at hgo2
      · cases hgo2
      rename_i y e6 helt
      replace helt := bd_some helt; obtain ⟨ry, e7, he1, he2⟩ := helt
      refine ⟨_, G5, e5, ry, e7, A5, he1, fun v G6 H6 s6 A6 r6 => ?_⟩
      obtain ⟨G7, s7, A7, i7⟩ := A6.cap r6 he2
      obtain ⟨q3, q4, q5⟩ := keepD A7
      obtain ⟨q1, q2⟩ := wiped A7
      split at hgo2
      · cases hgo2
      rename_i zs' e8 hrest
      cases hgo2
      have hl := il.len
      refine ⟨vacc, q3, by rw [← hl, ← LIM_eq]; omega, hlt, G7, _, acc ++ [y], vacc ++ [v], zs', s2.trans (s3.trans (s5.trans (s6.trans s7))), q1.other q4 mD fun j zs a b => q2 ⟨j, zs, a, b⟩, upd_same, q4,
        (IsL.mono (s3.trans (s5.trans (s6.trans s7))) _ _ il).app (IsL.one i7), by rw [List.length_append]; simp; omega, hrest, by rw [hys]; simp, q2⟩
  · left
    have e : i = xs.length := by omega
    subst e
    rw [List.drop_length] at hgo2
    simp only [lcGo] at hgo2
    cases hgo2
    rw [List.append_nil] at hys
    subst hys
    refine ⟨it1.stop _ G2 H2 s2 A2.same (Nat.le_refl _), ?_⟩
    have hle : e1.length = e2.length := by rw [A1.len, A2.len, wipe_length]
    have Aend : Agree K P B G2 H2 σ (backE e1 e2 vs) := by
      have sB := sv_backE e1 e2 hle vs
      have own2 : ∀ j zs, sv (backE e1 e2 vs) j = .own zs → j ∉ vs ∧ sv e2 j = .own zs := fun j zs q => by
        rw [sB] at q
        split at q
        · rename_i hj
          have := List.all_eq_true.mp hno j hj
          rw [q] at this
          exact absurd this Bool.false_ne_true
        · rename_i hj; exact ⟨hj, q⟩
      refine ⟨A2.same, by rw [backE_len, A2.len, wipe_length], fun j d q => ?_, fun j zs q => ?_, fun j j' p zs zs' q1 q2 q3 q4 => ?_, A2.g0, A2.frame, A2.new, A1.pins⟩
      · rw [sB] at q
        split at q
        · obtain ⟨v, a1, a2⟩ := A1.val j d q
          exact ⟨v, a1, Is.mono s2 _ _ a2⟩
        · rename_i hj
          obtain ⟨v, a1, a2⟩ := A2.val j d q
          rw [wipe_out hj] at a1
          exact ⟨v, a1, a2⟩
      · obtain ⟨hj, q⟩ := own2 j zs q
        obtain ⟨p, ws, a1, a2⟩ := A2.own j zs q
        rw [wipe_out hj] at a1
        exact ⟨p, ws, a1, a2⟩
      · obtain ⟨hj, q1⟩ := own2 j zs q1
        obtain ⟨hj', q2⟩ := own2 j' zs' q2
        exact A2.dis j j' p zs zs' q1 q2 (by rw [wipe_out hj]; exact q3) (by rw [wipe_out hj']; exact q4)
    refine k _ G2 H2 (s1.trans s2) Aend ⟨D, vacc, rfl, hD2, gD2, il, mD, fun j zs q z => ?_⟩
    rw [sv_backE e1 e2 hle] at q
    split at q
    · rename_i hj
      have := List.all_eq_true.mp hno j hj
      rw [q] at this
      exact absurd this Bool.false_ne_true
    · rename_i hj
      exact nown ⟨j, zs, q, by rw [wipe_out hj]; exact z⟩
end
end MP

/-! Statements. -/
namespace MP
open PySem PySem.Spec L2
section
variable {mp : List Nat} {K : PySem.W.Frag} {P : Params} {X : Cx} {c : Ctx}
/-! ### how a comprehension's value is stored -/
def swB (sc : Scope) (value : Expr) (t : Str) (pos : Pos) : Bool :=
  match value with
  | .ListComp _ _ s _ => decide (sc.names.lookup t = some .local) && pos.line == value.pos.line && !(s.names.any fun (n, k) => n == t && (k == .local || k == .cell))
  | .SetComp _ _ _ _ => true
  | .DictComp _ _ _ _ _ => true
  | _ => false
theorem swB_false {env : PySem.Env} {value : Expr} {t : Str} {pos : Pos} {l : Nat} (hk : env.scope.kind = .function) (h : swB env.scope value t pos = false) : swapsWith value (some (.Name t pos)) l env = pure false := by
  have hb : env.blockKind = .function := by unfold PySem.Env.blockKind; rw [hk]; rfl
  cases value <;> first
    | rfl
    | (cases h; done)
    | skip
  rename_i elt gs s vpos
  unfold swapsWith
  simp only [hb]
  simp only [swB] at h
  have e : (env.kindOf t == some NameKind.local) = decide (env.scope.names.lookup t = some .local) := by
    show (env.scope.names.lookup t == some NameKind.local) = _
    rw [Bool.eq_iff_iff]; simp
  have e2 : (ScopeKind.function == ScopeKind.function) = true := rfl
  rw [e, e2, Bool.true_and, h]
theorem sw_sub {value o i : Expr} {p : Pos} {l : Nat} {env : PySem.Env} : swapsWith value (some (.Subscript o i p)) l env = pure false := by
  unfold swapsWith
  cases value <;> rfl
theorem sw_tup {value : Expr} {es : List Expr} {k : Nat} {p : Pos} {l : Nat} {env : PySem.Env} : swapsWith value (some (.Tuple es k p)) l env = pure false := by
  unfold swapsWith
  cases value <;> rfl
/-- no comprehension -/
def noComp : Expr → Bool
  | .ListComp _ _ _ _ => false
  | .SetComp _ _ _ _ => false
  | .DictComp _ _ _ _ _ => false
  | _ => true
theorem sw_none {value : Expr} {l : Nat} {env : PySem.Env} (h : noComp value = true) : swapsWith value none l env = pure false := by
  unfold swapsWith
  cases value <;> first
    | rfl
    | (cases h; done)
/-- the names that are stored from the right, where the stores are exchanged -/
def swNames (sc : Scope) (ts : List Expr) : List Str := ts.filterMap fun
  | .Name id pos => if sc.names.lookup id == some .local && pos.line == (ts.head?.map (·.pos.line)).getD 0 then some id else none
  | _ => none
/-- are a target tuple's stores exchanged: false, surely not -/
def swTup (sc : Scope) (ts vs : List Expr) : Bool :=
  !(!(ts.length == 2 || ts.length == 3) || vs.length != ts.length) && !((swNames sc ts).length != ts.length || (swNames sc ts).eraseDups.length != (swNames sc ts).length) && !(vs.all (foldedForSure 8))
def isStarred : Expr → Bool
  | .Starred _ _ => true
  | _ => false
theorem sws_eq {ts vs : List Expr} {k k2 : Nat} {p p2 : Pos} {env : PySem.Env} (hk : env.scope.kind = .function) : swappedStores [.Tuple ts k p] (.Tuple vs k2 p2) env =
    (if (!(ts.length == 2 || ts.length == 3) || vs.length != ts.length || ScopeKind.function != ScopeKind.function) = true then pure none
    else if vs.any isStarred = true then pure none
    else if ((swNames env.scope ts).length != ts.length || (swNames env.scope ts).eraseDups.length != (swNames env.scope ts).length) = true then pure none
    else if vs.all (foldedForSure 8) = true then pure none
    else if vs.all (constantsAlone 8) = true then do
      unsupported "assign.tuple-of-constant-expressions:order-of-the-stores"
      pure (some (swNames env.scope ts))
    else pure (some (swNames env.scope ts))) := by
  have hb : env.blockKind = .function := by unfold PySem.Env.blockKind; rw [hk]; rfl
  unfold swappedStores
  simp only [hb]
  rfl
theorem sws_none {ts vs : List Expr} {k k2 : Nat} {p p2 : Pos} {env : PySem.Env} (hk : env.scope.kind = .function) (h : swTup env.scope ts vs = false) : swappedStores [.Tuple ts k p] (.Tuple vs k2 p2) env = pure none := by
  rw [sws_eq hk]
  unfold swTup at h
  by_cases h1 : (!(ts.length == 2 || ts.length == 3) || vs.length != ts.length) = true
  · rw [if_pos (by rw [h1]; rfl)]
  · by_cases h0 : vs.any isStarred = true
    · split
      · rfl
      · rfl
    · by_cases h2 : ((swNames env.scope ts).length != ts.length || (swNames env.scope ts).eraseDups.length != (swNames env.scope ts).length) = true
      · split
        · rfl
        · rfl
      · by_cases h3 : vs.all (foldedForSure 8) = true
        · split
          · rfl
          · rfl
        · simp only [Bool.not_eq_true] at h1 h2 h3
          rw [h1, h2, h3] at h
          cases h
theorem sws_some {ts vs : List Expr} {k k2 : Nat} {p p2 : Pos} {env : PySem.Env} (hk : env.scope.kind = .function) (h : swTup env.scope ts vs = true) (hs : vs.any isStarred = false) (hc : vs.all (constantsAlone 8) = false) : swappedStores [.Tuple ts k p] (.Tuple vs k2 p2) env = pure (some (swNames env.scope ts)) := by
  rw [sws_eq hk]
  unfold swTup at h
  simp only [Bool.and_eq_true, Bool.not_eq_true'] at h
  obtain ⟨⟨h1, h2⟩, h3⟩ := h
  rw [if_neg (by rw [h1]; decide), if_neg (by rw [hs]; exact Bool.false_ne_true), if_neg (by rw [h2]; exact Bool.false_ne_true), if_neg (by rw [h3]; exact Bool.false_ne_true), if_neg (by rw [hc]; exact Bool.false_ne_true)]
/-- a value that is no tuple's display -/
def noTup : Expr → Bool
  | .Tuple _ _ _ => false
  | _ => true
theorem sws_plain {tg value : Expr} {env : PySem.Env} (h : noTup value = true) : swappedStores [tg] value env = pure none := by
  unfold swappedStores
  cases value <;> first
    | (cases h; done)
    | (cases tg <;> rfl)
theorem sws_sub {o i value : Expr} {p : Pos} {env : PySem.Env} : swappedStores [.Subscript o i p] value env = pure none := by
  unfold swappedStores
  cases value <;> rfl

/-! ### statements by the interpreter -/
theorem stoR_ok {B : Base mp} {G H : Hp} {σ : St} {e e' : Env} {i : Nat} {r : R} {v : V} {o : O} (A : Agree K P B G H σ e) (hi : i ∉ mp) (ri : RIs K P B G H σ e v r) (h : stoR i r e = some (o, e')) : o = .nx ∧ ∃ G', Same G G' ∧ Agree K P B G' H (σ.set i (some v)) e' := by
  cases r with
  | d d =>
    cases h
    exact ⟨rfl, G, .refl _, A.store hi ri⟩
  | fresh xs =>
    cases h
    obtain ⟨p, vs, rfl, e2, e3, e4, e5, e6⟩ := ri
    exact ⟨rfl, G, .refl _, A.storeOwn hi e2 e3 e4 e5 e6⟩
  | slot j =>
    obtain ⟨h1, xs, h2⟩ := ri
    simp only [stoR, h2] at h
    cases h
    obtain ⟨p, vs, e1, e2, e3, e4, A', q⟩ := A.freezeOwn h2
    rw [h1] at e1
    injection e1 with e1; injection e1 with e1
    subst e1
    exact ⟨rfl, _, same_upd e3, A'.store hi q⟩
theorem ps_expS {a : Expr} {pos : Pos} {ea : E} (ha : PE X a (tS mp K P (evE c ea))) (hn : noComp a = true) : PS X (.Expr a pos) (tSS mp K P (exS c (.exp ea))) :=
  PS.weak (ps_expr ha (sw_none hn)) fun D σ H ⟨B, G, e, o, e', A, h, k⟩ => by
    simp only [exS] at h
    replace h := bd_some h; obtain ⟨x, e1, h1, h⟩ := h
    cases h
    exact ⟨B, G, e, x, _, A, h1, fun v G' H' s A' _ => k σ G' H' s A'⟩
theorem asg_of {i : Nat} {ea : E} (hi : i ∉ mp) (D : Ends) (σ : St) (H : Hp) (h : tSS mp K P (exS c (.asg (.nam i) ea)) D σ H) : tAsg (tS mp K P (evE c ea)) (gName i) D σ H := by
  obtain ⟨B, G, e, o, e', A, h, k⟩ := h
  simp only [exS] at h
  replace h := bd_some h; obtain ⟨x, e1, h1, h⟩ := h
  refine ⟨B, G, e, x, e1, A, h1, fun v G' H' s A' r' => ?_⟩
  obtain ⟨rfl, G2, s2, A2⟩ := stoR_ok A' hi r' h
  exact k _ G2 H' (s.trans s2) A2
theorem ps_asgS {i : Nat} {x : Str} {a : Expr} {pos pos' : Pos} {ea : E} (hN : X.N.Nodup) (hi : X.N[i]? = some x) (hx : Loc X.env.scope x) (ha : PE X a (tS mp K P (evE c ea))) (hs : swapsWith a (some (.Name x pos')) pos.line X.env = pure false) (hf : X.fn x = true ∨ X.env.scope.names.lookup x = some .local) (hm : i ∉ mp) :
    PS X (.Assign [.Name x pos'] a pos) (tSS mp K P (exS c (.asg (.nam i) ea))) := PS.weak (ps_set hN hi hx ha hs hf) fun D σ H h => asg_of hm D σ H h
theorem ps_asgTS {ts : List T} {tes : List Expr} {k0 : Nat} {a : Expr} {pos tp : Pos} {ea : E} (ha : PE X a (tS mp K P (evE c ea))) (hg : PG X (.Tuple tes k0 tp) (tGT mp K P (.tup ts))) (hw : swappedStores [.Tuple tes k0 tp] a X.env = pure none) :
    PS X (.Assign [.Tuple tes k0 tp] a pos) (tSS mp K P (exS c (.asg (.tup ts) ea))) :=
  PS.weak (ps_asg ha hg (show swapsWith a (some (.Tuple tes k0 tp)) pos.line X.env = pure false from sw_tup) hw rfl) fun D σ H ⟨B, G, e, o, e', A, h, k⟩ => by
    simp only [exS] at h
    replace h := bd_some h; obtain ⟨x, e1, h1, h⟩ := h
    replace h := bd_some h; obtain ⟨d, e2, h2, h⟩ := h
    split at h
    · cases h
    · rename_i e3 hb
      cases h
      refine ⟨B, G, e, x, e1, A, h1, fun v G' H' s A' r' => ?_⟩
      obtain ⟨G2, s2, A2, i2⟩ := A'.cap r' h2
      exact ⟨B, G2, e2, d, e', A2, i2, hb, fun σ' _ _ A3 => k σ' G2 H' (s.trans s2) A3⟩
/-! a, b = x, y with local names -/
/-- a result that can be stored -/
def NoSlot : R → Prop
  | .slot _ => False
  | _ => True
def svR : R → SV
  | .d d => .val d
  | .fresh xs => .own xs
  | .slot _ => .no
theorem Agree.put {B : Base mp} {G H : Hp} {σ : St} {e : Env} {i : Nat} {r : R} {v : V} (A : Agree K P B G H σ e) (hi : i ∉ mp) (n : NoSlot r) (ri : RIs K P B G H σ e v r) : Agree K P B G H (σ.set i (some v)) (st e i (svR r)) := by
  cases r with
  | d d => exact A.store hi ri
  | fresh xs =>
    obtain ⟨p, vs, rfl, e2, e3, e4, e5, e6⟩ := ri
    exact A.storeOwn hi e2 e3 e4 e5 e6
  | slot j => exact n.elim
theorem par_of {i j : Nat} {ea eb : E} (hi : i ∉ mp) (hj : j ∉ mp) (D : Ends) (σ : St) (H : Hp) (h : tSS mp K P (exS c (.par i j ea eb)) D σ H) : tPar i j (tCons (tS mp K P (evE c ea)) (tCons (tS mp K P (evE c eb)) tNil)) D σ H := by
  obtain ⟨B, G, e, o, e', A, h, k⟩ := h
  simp only [exS] at h
  replace h := bd_some h; obtain ⟨x, e1, h1, h⟩ := h
  replace h := bd_some h; obtain ⟨y, e2, h2, h⟩ := h
  have hx : NoSlot x ∧ NoSlot y ∧ o = .nx ∧ e' = st (st e2 i (svR x)) j (svR y) := by
    cases x <;> cases y <;> simp only at h <;> first
      | (cases h; done)
      | (cases h; exact ⟨trivial, trivial, rfl, rfl⟩)
  obtain ⟨nx, ny, rfl, rfl⟩ := hx
  refine ⟨B, G, e, x, e1, A, h1, fun v G1 H1 s1 A1 r1 => ⟨_, G1, e1, y, e2, A1.rebase, h2, fun w G2 H2 s2 A2' r2 => ⟨v, w, rfl, ?_⟩⟩⟩
  have A2 := A1.unbase A2'
  -- the first value behind the second's making
  have r1' : RIs K P B G2 H2 σ e2 v x ∧ ∀ p, (∃ xs, x = .fresh xs) → v = .ref p → (∃ o, H1 p = some o) ∧ ¬ Owns σ e1 p := by
    cases x with
    | d d => exact ⟨Is.mono s2 _ _ r1, fun p ⟨xs, q⟩ => nomatch q⟩
    | fresh xs =>
      obtain ⟨p, vs, rfl, a2, a3, a4, a5, a6⟩ := r1
      have no : ¬ Owns σ e1 p := fun ⟨i, ys, q1, q2⟩ => a6 i ys q1 q2
      refine ⟨⟨p, vs, rfl, A2'.frame p _ a2 no, ?_, IsL.mono s2 _ _ a4, a5, fun i' ys q1 q2 => ?_⟩, fun p' _ q => ?_⟩
      · cases q : G2 p with
        | none => rfl
        | some o =>
          rcases A2'.new p o q with ⟨o', z⟩ | z | z
          · have z : G1 p = some o' := z
            rw [a3] at z; cases z
          · exact absurd z no
          · have z : H1 p = none := z
            rw [a2] at z; cases z
      · obtain ⟨p', ws, b1, _, _, _, b5⟩ := A2'.own i' ys q1
        rw [ref_inj (b1.symm.trans q2)] at b5
        rcases b5 with z | z
        · exact no z
        · have z : H1 p = none := z
          rw [a2] at z; cases z
      · cases q; exact ⟨⟨_, a2⟩, no⟩
    | slot _ => exact nx.elim
  have r2' : RIs K P B G2 H2 σ e2 w y := by
    cases y with
    | d d => exact r2
    | fresh ys =>
      obtain ⟨q, vs, rfl, a2, a3, a4, a5, a6⟩ := r2
      refine ⟨q, vs, rfl, a2, a3, a4, ?_, a6⟩
      rcases a5 with z | z
      · exact A1.owns0 z
      · exact A1.fresh0 z
    | slot _ => exact ny.elim
  have A3 := A2.put hi nx r1'.1
  refine k _ G2 H2 (s1.trans s2) (A3.put hj ny ?_)
  cases y with
  | d d => exact r2'
  | fresh ys =>
    obtain ⟨q, vs, rfl, a2, a3, a4, a5, a6⟩ := r2'
    refine ⟨q, vs, rfl, a2, a3, a4, a5, fun i' zs q1 q2 => ?_⟩
    rw [sv_st] at q1
    split at q1
    · rename_i hc
      rw [hc.1, List.getElem?_set_self (by rw [← A2.len]; exact hc.2)] at q2
      injection q2 with q2; injection q2 with q2
      have hf : ∃ xs, x = .fresh xs := by
        cases x with
        | fresh xs => exact ⟨xs, rfl⟩
        | d d => cases q1
        | slot _ => cases q1
      obtain ⟨⟨o, b1⟩, b2⟩ := r1'.2 q hf q2
      obtain ⟨q', vs', e1', _, _, _, b5, _⟩ := r2
      have : q = q' := by injection e1'
      subst this
      rcases b5 with z | z
      · exact b2 z
      · have z : H1 q = none := z
        rw [b1] at z; cases z
    · rename_i hc
      by_cases hii : i' = i
      · subst hii
        have : ¬ i' < e2.length := fun z => hc ⟨rfl, z⟩
        rw [sv_ge e2 i' (by omega)] at q1
        cases q1
      · rw [List.getElem?_set_ne (Ne.symm hii)] at q2
        exact a6 i' zs q1 q2
  | slot _ => exact ny.elim
end
end MP

namespace MP
open PySem PySem.Spec L2
section
variable {mp : List Nat} {K : PySem.W.Frag} {P : Params} {X : Cx} {c : Ctx}
theorem ps_augE {i : Nat} {x : Str} {a : Expr} {pos pos' : Pos} {ea : E} {op : Operator} (hop : iopOk op = true) (hN : X.N.Nodup) (hi : X.N[i]? = some x) (hx : Loc X.env.scope x) (ha : PE X a (tS mp X.K P (evE c ea))) (hf : X.fn x = true ∨ X.env.scope.names.lookup x = some .local) (hm : i ∉ mp) :
    PS X (.AugAssign (.Name x pos') op a pos) (tSS mp X.K P (exS c (.aug i op ea))) := by
  obtain ⟨r, ho, sp⟩ := iop_all (X := X) (K := X.K) (P := P) hop
  refine PS.weak (ps_aug (ti := r) hN hi hx ha ho hf) fun D σ H ⟨B, G, e, o, e', A, h, k⟩ => ?_
  simp only [exS] at h
  split at h
  case h_2 => cases h
  rename_i d0 hd0
  obtain ⟨v0, q1, q2⟩ := A.val i d0 hd0
  replace h := bd_some h; obtain ⟨y, e1, h1, h⟩ := h
  replace h := bd_some h; obtain ⟨dy, e2, h2, h⟩ := h
  replace h2 := lk_some h2; obtain ⟨h2, z2⟩ := h2
  dsimp only at z2 h2
  subst z2
  replace h := bd_some h; obtain ⟨res, e3, h3, h⟩ := h
  replace h3 := lift_some h3; obtain ⟨h3, z3⟩ := h3
  dsimp only at z3 h3
  subst z3
  refine ⟨v0, q1, B, G, e, y, _, A, h1, fun v G1 H1 s1 A1 r1 => ?_⟩
  refine sp _ B G1 H1 σ _ d0 dy v0 v res _ A1 (BIs.of A1.same (Is.mono s1 _ _ q2)) (A1.look r1 h2) h3 fun z G2 H2 s2 A2 r2 => ?_
  obtain ⟨rfl, G3, s3, A3⟩ := stoR_ok A2 hm r2 h
  exact k _ G3 H2 (s1.trans (s2.trans s3)) A3
theorem setAt_ix {α : Type} {xs ys : List α} {i : Int} {y : α} (h : setAt xs i y = some ys) : ∃ j, ixN xs.length i = some j ∧ ys = xs.set j y := by
  unfold setAt at h
  unfold ixN
  split at h
  · rename_i h0
    rw [if_pos h0]
    split at h
    · rename_i h1
      cases h
      exact ⟨_, by rw [if_pos (by omega)], rfl⟩
    · cases h
  · rename_i h0
    rw [if_neg h0]
    split at h
    · rename_i h1
      cases h
      exact ⟨_, by rw [if_pos (by omega)], rfl⟩
    · cases h
theorem onOwn_ok {i : Nat} {f : List D → Option (List D)} {e e' : Env} {o : O} (h : onOwn i f e = some (o, e')) : ∃ xs ys, sv e i = .own xs ∧ f xs = some ys ∧ o = .nx ∧ e' = st e i (.own ys) := by
  unfold onOwn at h
  split at h
  · rename_i xs hx
    split at h
    · rename_i ys hy
      cases h
      exact ⟨xs, ys, hx, hy, rfl, rfl⟩
    · cases h
  · cases h
/-- an index no slice -/
def noSlice : Expr → Bool
  | .Slice _ _ _ _ => false
  | _ => true
theorem ps_stoS {x : Nat} {ox ix a : Expr} {p' pos : Pos} {ei ea : E} (ho : PE X ox (tVar x)) (hi : PE X ix (tS mp X.K P (evE c ei))) (ha : PE X a (tS mp X.K P (evE c ea))) (hn : noSlice ix = true) :
    PS X (.Assign [.Subscript ox ix p'] a pos) (tSS mp X.K P (exS c (.sto x ei ea))) := by
  have hg : PG X (.Subscript ox ix p') (gSub (tVar x) (tS mp X.K P (evE c ei)) rSetL) := pg_sub ho hi set_list (by
    intro v
    cases ix <;> first
      | rfl
      | (cases hn; done))
  refine PS.weak (ps_asg ha hg (show swapsWith a (some (.Subscript ox ix p')) pos.line X.env = pure false from sw_sub) sws_sub rfl) fun D σ H ⟨B, G, e, o, e', A, h, k⟩ => ?_
  simp only [exS] at h
  replace h := bd_some h; obtain ⟨v, e1, h1, h⟩ := h
  replace h := bd_some h; obtain ⟨d, e2, h2, h⟩ := h
  split at h
  case h_2 => cases h
  rename_i xs0 hx0
  replace h := bd_some h; obtain ⟨i, e3, h3, h⟩ := h
  replace h := bd_some h; obtain ⟨dk, e4, h4, h⟩ := h
  replace h4 := lk_some h4; obtain ⟨h4, z4⟩ := h4
  dsimp only at z4 h4
  subst z4
  obtain ⟨xs, ys, g1, g2, rfl, rfl⟩ := onOwn_ok h
  refine ⟨B, G, e, v, e1, A, h1, fun w G1 H1 s1 A1 r1 => ?_⟩
  obtain ⟨G2, s2, A2, i2⟩ := A1.cap r1 h2
  obtain ⟨p, vs0, q1, _⟩ := A2.own x xs0 hx0
  refine ⟨_, q1, B, G2, e2, i, _, A2, h3, fun wi G3 H3 s3 A3 r3 => ?_⟩
  obtain ⟨p', vs, q1', q2, q3, q4, _⟩ := A3.own x xs g1
  have hpp : p = p' := ref_inj (q1.symm.trans q1')
  subst hpp
  have bi := A3.look r3 h4
  split at g2
  · rename_i kk
    obtain ⟨j, j1, j2⟩ := setAt_ix g2
    subst j2
    refine ⟨p, vs, kk, j, rfl, bi, q2, by rw [← q4.len]; exact j1, ?_⟩
    exact k σ G3 _ (s1.trans (s2.trans s3)) (A3.writeOwn g1 q1 (IsL.set j (Is.mono s3 _ _ i2) q4))
  · cases g2
theorem get_list : PGet X (rIxL X.K) := by
  intro pins s σ H o i ov iv Q I ro ri h
  obtain ⟨p, xs, k, z, rfl, rfl, hq, he, q⟩ := h
  cases ro
  obtain ⟨t, rfl⟩ := ri
  obtain ⟨its, r, pl, hz⟩ := I.list hq
  obtain ⟨j, h1, h2, h3, h4, h5⟩ := atI_get he
  obtain ⟨w, ew, rw'⟩ := r.get h2
  have hl := r.length
  have hn := line63
  have fin : EP X pins σ Q w s := ⟨z, H, I, rw', q⟩
  by_cases h0 : 0 ≤ k
  · have hj : k.toNat = j := by
      rw [PySem.seqIndex_of h0 h5] at h1
      exact Option.some.inj h1
    exact wpAny_getItem_list pl.isList h0 (by omega) (by rw [hj]; simpa using ew) fin
  · have hj : (k + (its.toArray.size : Int)).toNat = j := by
      rw [PySem.seqIndex_neg (by omega) h4] at h1
      rw [List.size_toArray, ← hl]
      exact Option.some.inj h1
    exact wpAny_getItem_list_neg pl.isList (by omega) (by rw [List.size_toArray] <;> omega) (by omega) (by rw [hj]; simpa using ew) fin
theorem onSlot_ok {i : Nat} {f : List D → Option D} {e : Env} {p : D × Env} (h : onSlot i f e = some p) : ∃ xs, sv e i = .own xs ∧ f xs = some p.1 ∧ p.2 = e := by
  unfold onSlot at h
  split at h
  · rename_i xs hx
    split at h
    · rename_i d hd
      cases h
      exact ⟨xs, hx, hd, rfl⟩
    · cases h
  · cases h
theorem augV_ok {op : Operator} {old dy d : D} (h : augV op old dy = some d) : ∃ i, old = .int i ∧ ipD op old dy = some (.d d) := by
  unfold augV at h
  split at h
  · rename_i i
    split at h
    · rename_i d' hd
      cases h
      exact ⟨i, rfl, hd⟩
    · cases h
  · cases h
theorem ps_augSS {x : Nat} {ox ix a : Expr} {p' pos : Pos} {ei ea : E} {op : Operator} (hop : iopOk op = true) (ho : PE X ox (tVar x)) (hi : PE X ix (tS mp X.K P (evE c ei))) (ha : PE X a (tS mp X.K P (evE c ea))) (hn : noSlice ix = true) :
    PS X (.AugAssign (.Subscript ox ix p') op a pos) (tSS mp X.K P (exS c (.augS x ei op ea))) := by
  obtain ⟨r, hr, sp⟩ := iop_all (X := X) (K := X.K) (P := P) hop
  refine PS.weak (ps_augS (tip := r) ho hi get_list ha hr set_list (by
    intro ov iv new
    cases ix <;> first
      | rfl
      | (cases hn; done))) fun D σ H ⟨B, G, e, o, e', A, h, k⟩ => ?_
  simp only [exS] at h
  split at h
  case h_2 => cases h
  rename_i xs0 hx0
  obtain ⟨p, vs0, q1, _⟩ := A.own x xs0 hx0
  replace h := bd_some h; obtain ⟨i, e1, h1, h⟩ := h
  replace h := bd_some h; obtain ⟨dk, e2, h2, h⟩ := h
  replace h2 := lk_some h2; obtain ⟨h2, z2⟩ := h2
  dsimp only at z2 h2
  subst z2
  replace h := bd_some h; obtain ⟨old, e3, h3, h⟩ := h
  obtain ⟨xs, g1, g2, z3⟩ := onSlot_ok h3
  dsimp only at z3 g2
  subst z3
  replace h := bd_some h; obtain ⟨y, e4, h4, h⟩ := h
  replace h := bd_some h; obtain ⟨dy, e5, h5, h⟩ := h
  replace h5 := lk_some h5; obtain ⟨h5, z5⟩ := h5
  dsimp only at z5 h5
  subst z5
  replace h := bd_some h; obtain ⟨d, e6, h6, h⟩ := h
  replace h6 := lift_some h6; obtain ⟨h6, z6⟩ := h6
  dsimp only at z6 h6
  subst z6
  obtain ⟨xs', ys, g3, g4, rfl, rfl⟩ := onOwn_ok h
  obtain ⟨io, rfl, hip⟩ := augV_ok h6
  refine ⟨_, q1, B, G, e, i, _, A, h1, fun wi G1 H1 s1 A1 r1 => ?_⟩
  obtain ⟨p1, vs1, a1, a2, a3, a4, _⟩ := A1.own x xs g1
  have hpp : p = p1 := ref_inj (q1.symm.trans a1)
  subst hpp
  have bi := A1.look r1 h2
  unfold idxD at g2
  split at g2
  case h_1 =>
    rename_i xs2 kk heq
    cases heq
    obtain ⟨vo, b1, b2⟩ := a4.atD g2
    have hvo : vo = .int io := b2
    subst hvo
    refine ⟨p, vs1, kk, .int io, rfl, bi, .of a2, b1, B, G1, _, y, _, A1, h4, fun wy G2 H2 s2 A2 r2 => ?_⟩
    refine sp _ B G2 H2 σ _ (.int io) dy (.int io) wy (.d d) _ A2 rfl (A2.look r2 h5) hip fun z G3 H3 s3 A3 r3 => ?_
    obtain ⟨p2, vs2, c1, c2, c3, c4, _⟩ := A3.own x xs' g3
    have hpp : p = p2 := ref_inj (q1.symm.trans c1)
    subst hpp
    obtain ⟨j, j1, j2⟩ := setAt_ix g4
    subst j2
    refine ⟨p, vs2, kk, j, rfl, bi, c2, by rw [← c4.len]; exact j1, ?_⟩
    exact k σ G3 _ (s1.trans (s2.trans s3)) (A3.writeOwn g3 q1 (IsL.set j r3 c4))
  all_goals first
    | (rename_i heq; cases heq; done)
    | (rename_i heq _; cases heq; done)
    | (cases g2; done)
theorem ps_appS {x : Nat} {ox a : Expr} {apos cpos pos : Pos} {ea : E} (ho : PE X ox (tVar x)) (ha : PE X a (tS mp X.K P (evE c ea))) (hbase : attributeBase ox "append" X.env (eval ox X.env) = eval ox X.env)
    (hfew : ((backTo cpos (starEach [a] X.env)).all (fun x => !x.1) && (backToKw cpos (keywordEach [] X.env)).all (fun x => x.1.isSome)
      && decide (([a] : List Expr).length + ([] : List Keyword).length + (if ([] : List Keyword).isEmpty then 0 else 1) < 30)) = true)
    (hline : (apos.endLine == cpos.line) = true) (hs : starEach [a] X.env = (false, eval a X.env) :: starEach [] X.env) :
    PS X (.Expr (.Call (.Attribute ox "append" apos) [a] [] cpos) pos) (tSS mp X.K P (exS c (.app x ea))) :=
  PS.weak (ps_expr (pe_bm PySem.F.plainAttrs_list PySem.F.slot_list_append PySem.F.type_list_append mt_append ho (pa_cons ha pa_nil hs) hbase hfew hline hs rfl) (sw_none rfl)) fun D σ H ⟨B, G, e, o, e', A, h, k⟩ => by
    simp only [exS] at h
    split at h
    case h_2 => cases h
    rename_i xs0 hx0
    obtain ⟨p, vs0, q1, q2, _⟩ := A.own x xs0 hx0
    replace h := bd_some h; obtain ⟨v, e1, h1, h⟩ := h
    replace h := bd_some h; obtain ⟨d, e2, h2, h⟩ := h
    obtain ⟨xs, ys, g1, g2, rfl, rfl⟩ := onOwn_ok h
    split at g2
    case isFalse => cases g2
    rename_i hz
    cases g2
    refine ⟨_, q1, .inl ⟨rfl, vs0, .of q2⟩, B, G, e, v, e1, A, h1, fun w G1 H1 s1 A1 r1 => ?_⟩
    obtain ⟨G2, s2, A2, i2⟩ := A1.cap r1 h2
    obtain ⟨p2, vs2, c1, c2, c3, c4, _⟩ := A2.own x xs g1
    have hpp : p = p2 := ref_inj (q1.symm.trans c1)
    subst hpp
    refine ⟨p, vs2, w, rfl, rfl, c2, by rw [← c4.len, ← LIM_eq]; exact hz, ?_⟩
    exact k σ G2 _ (s1.trans s2) (A2.writeOwn g1 q1 (c4.app (IsL.one i2)))
theorem ps_retS {a : Expr} {pos : Pos} {ea : E} (ha : PE X a (tS mp K P (evE c ea))) : PS X (.Return (some a) pos) (tSS mp K P (exS c (.ret (some ea)))) :=
  PS.weak (ps_ret ha) fun D σ H ⟨B, G, e, o, e', A, h, k⟩ => by
    simp only [exS] at h
    replace h := bd_some h; obtain ⟨x, e1, h1, h⟩ := h
    cases h
    exact ⟨B, G, e, x, _, A, h1, fun v G' H' s A' r' => k v σ G' H' s A' r'⟩
theorem ps_retNS {pos : Pos} : PS X (.Return none pos) (tSS mp K P (exS c (.ret none))) :=
  PS.weak ps_retN fun D σ H ⟨B, G, e, o, e', A, h, k⟩ => by
    simp only [exS] at h
    cases h
    exact k .non σ G H (.refl _) A rfl
theorem ps_pasS {pos : Pos} : PS X (.Pass pos) (tSS mp K P (exS c .pas)) := PS.weak ps_pass fun D σ H ⟨B, G, e, o, e', A, h, k⟩ => by
  simp only [exS] at h
  cases h
  exact k σ G H (.refl _) A
theorem ps_brkS {pos : Pos} : PS X (.Break pos) (tSS mp K P (exS c .brk)) := PS.weak ps_break fun D σ H ⟨B, G, e, o, e', A, h, k⟩ => by
  simp only [exS] at h
  cases h
  exact k σ G H (.refl _) A
theorem ps_conS {pos : Pos} : PS X (.Continue pos) (tSS mp K P (exS c .con)) := PS.weak ps_continue fun D σ H ⟨B, G, e, o, e', A, h, k⟩ => by
  simp only [exS] at h
  cases h
  exact k σ G H (.refl _) A
theorem ps_nevS {s : Stmt} : PS X s (tSS mp K P (exS c .nev)) := PS.weak ps_never fun D σ H ⟨B, G, e, o, e', A, h, k⟩ => by
  simp only [exS] at h
  cases h
theorem pss_nilS : PSs X [] (tSS mp K P (exSs c [])) := PSs.weak pss_nil fun D σ H ⟨B, G, e, o, e', A, h, k⟩ => by
  simp only [exSs] at h
  cases h
  exact k σ G H (.refl _) A
theorem pss_consS {s : Stmt} {ss : List Stmt} {a : S} {as : List S} (h1 : PS X s (tSS mp K P (exS c a))) (h2 : PSs X ss (tSS mp K P (exSs c as))) : PSs X (s :: ss) (tSS mp K P (exSs c (a :: as))) :=
  PSs.weak (pss_cons h1 h2) fun D σ H ⟨B, G, e, o, e', A, h, k⟩ => by
    simp only [exSs] at h
    split at h
    · cases h
    · rename_i e1 hs
      exact ⟨B, G, e, .nx, e1, A, hs, fun σ1 G1 H1 s1 A1 => ⟨B, G1, e1, o, e', A1, h, k.mono s1⟩⟩
    · rename_i o1 e1 hne hs
      cases h
      refine ⟨B, G, e, o, e', A, hs, ?_⟩
      cases o with
      | nx => first | exact (hne _ rfl).elim | exact (hne rfl).elim | exact (hne _).elim
      | bk => exact k
      | ct => exact k
      | rt r => exact k
theorem ps_ifS {t : Expr} {a b : List Stmt} {pos : Pos} {et : E} {ea eb : List S} (ht : PT X t (tST mp K P (evT c et))) (ha : PSs X a (tSS mp K P (exSs c ea))) (hb : PSs X b (tSS mp K P (exSs c eb))) : PS X (.If t a b pos) (tSS mp K P (exS c (.ifs et ea eb))) :=
  PS.weak (ps_if ht ha hb) fun D σ H ⟨B, G, e, o, e', A, h, k⟩ => by
    simp only [exS] at h
    replace h := bd_some h; obtain ⟨x, e1, h1, h⟩ := h
    refine ⟨B, G, e, x, e1, A, h1, fun G1 H1 s1 A1 => ?_⟩
    cases x with
    | true =>
      rw [if_pos rfl] at h ⊢
      exact ⟨B, G1, e1, o, e', A1, h, k.mono s1⟩
    | false =>
      rw [if_neg Bool.false_ne_true] at h ⊢
      exact ⟨B, G1, e1, o, e', A1, h, k.mono s1⟩
/-- how a loop goes on behind a turn that ended as o1 -/
theorem ps_forS {tg iter : Expr} {body : List Stmt} {pos : Pos} {t : T} {it : I} {eb : List S} (hp : PassesOwn (model X.prog X.w) X.A X.env X.xe) (hc : X.calm = true) (hi : PI X tg iter (tSI mp K P (evI c it))) (hg : PG X tg (tGT mp K P t)) (hb : PSs X body (tSS mp K P (exSs c eb)))
    (hs : ∀ x, foldedSetIterable iter X.env x = pure x) : PS X (.For tg iter body [] pos) (tSS mp K P (exS c (.for t it eb))) :=
  PS.weak (ps_for hp hc hi hg hb hs) fun D σ H ⟨B, G, e, o, e', A, h, k⟩ => by
    simp only [exS] at h
    replace h := bd_some h; obtain ⟨xs, e1, h1, h⟩ := h
    refine ⟨B, G, e, xs, e1, A, h1, fun J G1 H1 s1 A1 it1 => ?_⟩
    refine ⟨fun i m σ H => m = xs.length - i ∧ i ≤ xs.length ∧ ∃ G e, Same G1 G ∧ Agree K P B G H σ e ∧ forGo t (exSs c eb) (xs.drop i) e = some (o, e'), ⟨_, rfl, Nat.zero_le _, G1, e1, .refl _, A1, h⟩, ?_⟩
    rintro i m σ2 H2 ⟨rfl, hi, G2, e2, s2, A2, hgo⟩
    by_cases hlt : i < xs.length
    · right
      refine ⟨it1.go i G2 H2 s2 A2.same hlt, fun σ' H' => i + 1 ≤ xs.length ∧ ∃ G e, Same G1 G ∧ Agree K P B G H' σ' e ∧ forGo t (exSs c eb) (xs.drop (i + 1)) e = some (o, e'), fun σ' H' q => ⟨xs.length - (i + 1), by omega, rfl, q⟩, fun x H3 hy => ?_⟩
      obtain ⟨G3, s3, A3, ix⟩ := it1.yld i mp B σ2 e2 G2 H2 x H3 xs[i] s2 A2 (List.getElem?_eq_getElem hlt) hy
      rw [List.drop_eq_getElem_cons hlt] at hgo
      simp only [forGo] at hgo
      split at hgo
      · cases hgo
      rename_i e4 hb4
      refine ⟨B, G3, e2, xs[i], e4, A3, ix, hb4, fun σ4 _ _ A4 => ?_⟩
      have s13 : Same G1 G3 := s2.trans s3
      split at hgo
      · cases hgo
      · rename_i e5 hb5
        exact ⟨B, G3, e4, .nx, e5, A4, hb5, fun σ' G' H' s A' => ⟨hlt, G', e5, s13.trans s, A', hgo⟩⟩
      · rename_i e5 hb5
        exact ⟨B, G3, e4, .ct, e5, A4, hb5, fun σ' G' H' s A' => ⟨hlt, G', e5, s13.trans s, A', hgo⟩⟩
      · rename_i e5 hb5
        cases hgo
        exact ⟨B, G3, e4, .bk, _, A4, hb5, fun σ' G' H' s A' => k σ' G' H' (s1.trans (s13.trans s)) A'⟩
      · rename_i r e5 hb5
        cases hgo
        exact ⟨B, G3, e4, .rt r, _, A4, hb5, fun v σ' G' H' s A' r' => k v σ' G' H' (s1.trans (s13.trans s)) A' r'⟩
    · left
      have e : i = xs.length := by omega
      subst e
      rw [List.drop_length] at hgo
      simp only [forGo] at hgo
      cases hgo
      exact ⟨it1.stop _ G2 H2 s2 A2.same (Nat.le_refl _), k σ2 G2 H2 (s1.trans s2) A2⟩
theorem ps_whlS {t : Expr} {body : List Stmt} {pos : Pos} {et : E} {eb : List S} (hp : PassesOwn (model X.prog X.w) X.A X.env X.xe) (ht : PT X t (tST mp K P (evT c et))) (hb : PSs X body (tSS mp K P (exSs c eb))) : PS X (.While t body [] pos) (tSS mp K P (exS c (.whl et eb))) :=
  PS.weak (ps_while hp ht hb) fun D σ H ⟨B, G, e, o, e', A, h, k⟩ => by
    simp only [exS] at h
    refine ⟨fun m σ H => ∃ G2 e2, Same G G2 ∧ Agree K P B G2 H σ e2 ∧ whlGo (evT c et) (exSs c eb) m e2 = some (o, e'), ⟨c.fuel, G, e, .refl _, A, h⟩, ?_⟩
    rintro m σ2 H2 ⟨G2, e2, s2, A2, hgo⟩
    cases m with
    | zero => simp [whlGo] at hgo
    | succ m =>
      simp only [whlGo] at hgo
      split at hgo
      · cases hgo
      · rename_i e3 ht3
        cases hgo
        refine ⟨B, G2, e2, false, _, A2, ht3, fun G3 H3 s3 A3 => ?_⟩
        exact iteF (k σ2 G3 H3 (s2.trans s3) A3)
      · rename_i e3 ht3
        refine ⟨B, G2, e2, true, e3, A2, ht3, fun G3 H3 s3 A3 => ?_⟩
        refine iteT ?_
        refine ⟨fun σ' H' => ∃ G4 e4, Same G G4 ∧ Agree K P B G4 H' σ' e4 ∧ whlGo (evT c et) (exSs c eb) m e4 = some (o, e'), fun σ' H' q => ⟨m, Nat.lt_succ_self m, q⟩, ?_⟩
        have s23 := s2.trans s3
        split at hgo
        · cases hgo
        · rename_i e5 hb5
          exact ⟨B, G3, e3, .nx, e5, A3, hb5, fun σ' G' H' s A' => ⟨G', e5, s23.trans s, A', hgo⟩⟩
        · rename_i e5 hb5
          exact ⟨B, G3, e3, .ct, e5, A3, hb5, fun σ' G' H' s A' => ⟨G', e5, s23.trans s, A', hgo⟩⟩
        · rename_i e5 hb5
          cases hgo
          exact ⟨B, G3, e3, .bk, _, A3, hb5, fun σ' G' H' s A' => k σ' G' H' (s23.trans s) A'⟩
        · rename_i r e5 hb5
          cases hgo
          exact ⟨B, G3, e3, .rt r, _, A3, hb5, fun v σ' G' H' s A' r' => k v σ' G' H' (s23.trans s) A' r'⟩
end
end MP

/-! The program's text against the interpreter's words: a check, and what it gives. -/
namespace MP
open PySem PySem.Spec L2

/-- what is known of a def: its names, the slots that stay, the built-ins' names that the module leaves alone, the defs with their changing parameters -/
structure Wd where
  N : List Str
  mp : List Nat
  bn : List String
  fs : List (Str × List Bool)
def findFl (x : Str) : List (Str × List Bool) → Option (List Bool)
  | [] => none
  | p :: r => if x = p.1 then some p.2 else findFl x r

def okX : Expr → Bool
  | .Starred _ _ => false
  | .Slice _ _ _ _ => false
  | .Set _ _ _ => false
  | _ => true
def visB (sc : Scope) (x : Str) : Bool := match sc.names.lookup x with
  | some .local => true
  | some .cell => true
  | some .free => true
  | _ => false
def locB (sc : Scope) (fb : Str → Bool) (x : Str) : Bool := match sc.names.lookup x with
  | some .local => true
  | some .cell => fb x
  | _ => false
def glB (sc : Scope) (x : Str) : Bool := decide (sc.names.lookup x = some .globalImplicit) && !(x == ("__debug__" : Str)) && !decide (x = ("__name__" : Str))
def mVar (W : Wd) (sc : Scope) (i : Nat) (x : Str) : Bool := decide (W.N[i]? = some x) && visB sc x && !(x == ("__debug__" : Str)) && !(x == ("__classdict__" : Str))
def mC : D → Const → Bool
  | .non, .none => true
  | .bl b, .bool b' => b == b'
  | .int i, .int j => decide (i = j)
  | .str l, .str x => decide (x = mkS l)
  | _, _ => false
def bltOk (f : String) : Bool := f == "len" || f == "int" || f == "sum" || f == "list"
/-- no call without arguments (super()) -/
def noCall0 : Expr → Bool
  | .Call _ _ _ _ => false
  | _ => true
mutual
def mT (W : Wd) (sc : Scope) (fb : Str → Bool) : T → Expr → Bool
  | .nam i, .Name x _ => decide (W.N[i]? = some x) && locB sc fb x && !(W.mp.contains i)
  | .tup ts, .Tuple xs _ _ => mTs W sc fb ts xs
  | _, _ => false
def mTs (W : Wd) (sc : Scope) (fb : Str → Bool) : List T → List Expr → Bool
  | [], [] => true
  | t :: ts, x :: xs => okX x && mT W sc fb t x && mTs W sc fb ts xs
  | _, _ => false
end
def isTupX : Expr → Bool
  | .Tuple _ _ _ => true
  | _ => false
mutual
def mE (W : Wd) (sc : Scope) (fb : Str → Bool) : E → Expr → Bool
  | .var i, .Name x _ => mVar W sc i x
  | .cst d, .Constant k _ _ => mC d k
  | .glo x, .Name y _ => decide (x = y) && glB sc y
  | .bin op a b, .BinOp a' op' b' _ => decide (op = op') && opOk op && mE W sc fb a a' && mE W sc fb b b'
  | .neg a, .UnaryOp .USub a' _ => mE W sc fb a a'
  | .not a, .UnaryOp .Not a' _ => mE W sc fb a a'
  | .cmp op a b, .Compare a' [op'] [b'] _ => decide (op = op') && okX b' && mE W sc fb a a' && mE W sc fb b b'
  | .chn op op2 a b d, .Compare a' [op', op2'] [b', d'] _ => decide (op = op') && decide (op2 = op2') && okX d' && mE W sc fb a a' && mE W sc fb b b' && mE W sc fb d d'
  | .and es, .BoolOp .And xs _ => !es.isEmpty && mEs W sc fb es xs
  | .or es, .BoolOp .Or xs _ => !es.isEmpty && mEs W sc fb es xs
  | .ite t a b, .IfExp t' a' b' _ => mE W sc fb t t' && mE W sc fb a a' && mE W sc fb b b'
  | .lst es, .List xs _ => mEs W sc fb es xs
  | .tup es, .Tuple xs _ _ => mEs W sc fb es xs
  | .idx a b, .Subscript a' b' _ => okX b' && mE W sc fb a a' && mE W sc fb b b'
  | .sli a lo hi, .Subscript a' (.Slice lo' hi' none _) _ => mE W sc fb a a' && mO W sc fb lo lo' && mO W sc fb hi hi'
  | .cal f ms es, .Call (.Name y _) xs [] _ => decide (f = y) && glB sc y && decide (findFl f W.fs = some (ms.map (·.isSome))) && decide ((slotsOf ms).Nodup) && !xs.isEmpty && mA W sc fb ms es xs
  | .blt f es, .Call (.Name y _) xs [] _ => decide (y = Str.ofString f) && glB sc y && bltOk f && W.bn.contains f && !xs.isEmpty && mEs W sc fb es xs
  | .met m o es, .Call (.Attribute o' a apos) xs [] cpos => m == "dict.get" && decide (a = ("get" : Str)) && noCall0 o' && (apos.endLine == cpos.line) && mE W sc fb o o' && decide (xs.length = 2) && mEs W sc fb es xs
  | .lc own t it ifs elt, .ListComp elt' [⟨tg, iter, ifs', 0⟩] scope _ => blkC W.N sc scope own && (own.map (·.2)).all (fun v => !(W.mp.contains v)) && (slotsT t).all (fun v => (own.map (·.2)).contains v) && decide (ifs.length ≤ 1) && okX iter && mI W sc fb it iter (isTupX tg) &&
      mT W (relS scope sc) (fun x => scope.names.lookup x == some .cell) t tg && mEs W (relS scope sc) (fun x => scope.names.lookup x == some .cell) ifs ifs' && mE W (relS scope sc) (fun x => scope.names.lookup x == some .cell) elt elt'
  | _, _ => false
def mEs (W : Wd) (sc : Scope) (fb : Str → Bool) : List E → List Expr → Bool
  | [], [] => true
  | e :: es, x :: xs => okX x && mE W sc fb e x && mEs W sc fb es xs
  | _, _ => false
def mA (W : Wd) (sc : Scope) (fb : Str → Bool) : List (Option Nat) → List E → List Expr → Bool
  | [], [], [] => true
  | none :: ms, e :: es, x :: xs => okX x && mE W sc fb e x && mA W sc fb ms es xs
  | some i :: ms, _ :: es, .Name x _ :: xs => mVar W sc i x && mA W sc fb ms es xs
  | _, _, _ => false
def mO (W : Wd) (sc : Scope) (fb : Str → Bool) : Option E → Option Expr → Bool
  | none, none => true
  | some e, some x => mE W sc fb e x
  | _, _ => false
def mI (W : Wd) (sc : Scope) (fb : Str → Bool) : I → Expr → Bool → Bool
  | .seq e, x, _ => mE W sc fb e x
  | .rng es, .Call (.Name y _) xs [] _, _ => decide (y = ("range" : Str)) && glB sc y && W.bn.contains "range" && (decide (xs.length = 1) || decide (xs.length = 2)) && mEs W sc fb es xs
  | .enm e, .Call (.Name y _) [x] [] _, tu => decide (y = ("enumerate" : Str)) && glB sc y && W.bn.contains "enumerate" && tu && okX x && mE W sc fb e x
  | .zip a b, .Call (.Name y _) [x, z] [] _, tu => decide (y = ("zip" : Str)) && glB sc y && W.bn.contains "zip" && tu && okX x && okX z && mE W sc fb a x && mE W sc fb b z
  | _, _, _ => false
end

/-- where the code runs, and what is known there -/
structure XOk (W : Wd) (c : Ctx) (k : Nat) (X : Cx) (sc : Scope) (fb : Str → Bool) : Prop where
  N : X.N = W.N
  nd : W.N.Nodup
  scq : X.env.scope = sc
  kind : sc.kind = .function
  fn : X.fn = fb
  calm : X.calm = true
  room : Room k X.A
  xe : X.xe = fun _ _ => False
  bn : ∀ x ∈ W.bn, X.mg (Str.ofString x) = none
  glob : GlobOk X c
  call : ∀ f fl, findFl f W.fs = some fl → ∃ fa fd ps, X.mg f = some (.ref fa) ∧ PySem.W.keepIn X.K (.ref fa) = true ∧ Binds X.K fd ps [] ∧ FnOk X.prog X.w X.K X.mg X.base CX0 k fa fd ps (SpF X.K X.w.params (c.call f))
theorem XOk.blk {W : Wd} {c : Ctx} {k : Nat} {X : Cx} {sc : Scope} {fb : Str → Bool} (h : XOk W c k X sc fb) {scope : Scope} (hk : scope.kind = .function) (s : Shared) (H : Hp) (C : Addr) (cl : List (Str × Addr)) (fp : List Addr) :
    XOk W c k (X.blk s H scope (compEnvC scope cl C X.env) fp) (relS scope sc) (fun x => scope.names.lookup x == some .cell) where
  N := h.N
  nd := h.nd
  scq := by show relS scope X.env.scope = _; rw [h.scq]
  kind := hk
  fn := rfl
  calm := h.calm
  room := h.room
  xe := rfl
  bn := h.bn
  glob := h.glob
  call := h.call

theorem star_one {a : Expr} {es : List Expr} {env : PySem.Env} (h : okX a = true) : starEach (a :: es) env = (false, eval a env) :: starEach es env := by
  cases a <;> first
    | rfl
    | (cases h; done)
theorem slice_no {op : CmpOp} {b : Expr} (h : okX b = true) : behindInMarks op b = false := by
  cases b <;> first
    | rfl
    | (cases h; done)
theorem plain_ix {b : Expr} (h : okX b = true) : PlainIx b := by
  intro o i
  cases b <;> first
    | rfl
    | (cases h; done)
theorem noSlice_ok {b : Expr} (h : okX b = true) : noSlice b = true := by
  cases b <;> first
    | rfl
    | (cases h; done)
theorem folded_ok {e : Expr} {env : PySem.Env} (h : okX e = true) : ∀ x, foldedSetIterable e env x = pure x := by
  intro x
  cases e <;> first
    | rfl
    | (cases h; done)
theorem backTo_no {pos : Pos} {env : PySem.Env} : ∀ {es : List Expr}, (∀ e ∈ es, okX e = true) → (backTo pos (starEach es env)).any (·.1) = false
  | [], _ => rfl
  | a :: es, h => by
    rw [star_one (h a List.mem_cons_self)]
    show (false || (backTo pos (starEach es env)).any (·.1)) = false
    rw [backTo_no fun e he => h e (List.mem_cons_of_mem _ he)]
    rfl
theorem base_ok {o : Expr} {a : Str} {env : PySem.Env} (h : noCall0 o = true) : attributeBase o a env (eval o env) = eval o env := by
  cases o <;> first
    | rfl
    | (cases h; done)
theorem vis_of {sc : Scope} {x : Str} (h : visB sc x = true) : Vis sc x := by
  unfold visB at h
  unfold Vis
  split at h
  · rename_i q; exact .inl q
  · rename_i q; exact .inr (.inl q)
  · rename_i q; exact .inr (.inr q)
  · cases h
theorem loc_of {sc : Scope} {fb : Str → Bool} {x : Str} (h : locB sc fb x = true) : L2.Loc sc x ∧ (fb x = true ∨ sc.names.lookup x = some .local) := by
  unfold locB at h
  unfold L2.Loc
  split at h
  · rename_i q; exact ⟨.inl q, .inr q⟩
  · rename_i q; exact ⟨.inr q, .inl h⟩
  · cases h
theorem mEs_ok {W : Wd} {sc : Scope} {fb : Str → Bool} : ∀ {es : List E} {xs : List Expr}, mEs W sc fb es xs = true → es.length = xs.length ∧ ∀ x ∈ xs, okX x = true
  | [], [], _ => ⟨rfl, fun x h => nomatch h⟩
  | [], _ :: _, h => by simp [mEs] at h
  | _ :: _, [], h => by simp [mEs] at h
  | e :: es, x :: xs, h => by
    simp only [mEs, Bool.and_eq_true] at h
    obtain ⟨q1, q2⟩ := mEs_ok h.2
    refine ⟨by simp [q1], fun y hy => ?_⟩
    rcases List.mem_cons.mp hy with rfl | hy
    · exact h.1.1
    · exact q2 y hy
theorem mA_ok {W : Wd} {sc : Scope} {fb : Str → Bool} : ∀ {ms : List (Option Nat)} {es : List E} {xs : List Expr}, mA W sc fb ms es xs = true → ∀ x ∈ xs, okX x = true
  | [], [], [], _ => fun x h => nomatch h
  | none :: ms, e :: es, x :: xs, h => by
    simp only [mA, Bool.and_eq_true] at h
    intro y hy
    rcases List.mem_cons.mp hy with rfl | hy
    · exact h.1.1
    · exact mA_ok h.2 y hy
  | some i :: ms, e :: es, x :: xs, h => by
    cases x <;> first
      | (simp [mA] at h; done)
      | skip
    simp only [mA, Bool.and_eq_true] at h
    intro y hy
    rcases List.mem_cons.mp hy with rfl | hy
    · rfl
    · exact mA_ok h.2 y hy
  | [], [], _ :: _, h => by simp [mA] at h
  | [], _ :: _, _, h => by simp [mA] at h
  | none :: _, [], _, h => by simp [mA] at h
  | none :: _, _ :: _, [], h => by simp [mA] at h
  | some _ :: _, [], _, h => by simp [mA] at h
  | some _ :: _, _ :: _, [], h => by simp [mA] at h

section
variable {W : Wd} {c : Ctx} {k : Nat}
mutual
theorem sTg : ∀ (t : T) (x : Expr) {X : Cx} {sc : Scope} {fb : Str → Bool}, XOk W c k X sc fb → mT W sc fb t x = true → PG X x (tGT W.mp X.K X.w.params t)
  | .nam i, x, X, sc, fb, O, h => by
    cases x <;> first
      | (simp [mT] at h; done)
      | skip
    rename_i nm pos
    simp only [mT, Bool.and_eq_true, decide_eq_true_eq, Bool.not_eq_true'] at h
    obtain ⟨⟨h1, h2⟩, h3⟩ := h
    obtain ⟨q1, q2⟩ := loc_of h2
    refine pg_namS (by rw [O.N]; exact O.nd) (by rw [O.N]; exact h1) (by rw [O.scq]; exact q1) ?_ ?_
    · rw [O.fn, O.scq]; exact q2
    · intro z
      have := List.contains_iff_mem.mpr z
      rw [this] at h3; cases h3
  | .tup ts, x, X, sc, fb, O, h => by
    cases x <;> first
      | (simp [mT] at h; done)
      | skip
    rename_i xs k0 pos
    simp only [mT] at h
    have hok : ∀ {ts : List T} {xs : List Expr}, mTs W sc fb ts xs = true → (assignEach xs X.env).length = ts.length ∧ (assignEach xs X.env).findIdx? (·.1) = none := by
      intro ts
      induction ts with
      | nil => intro xs h; cases xs with
        | nil => exact ⟨rfl, rfl⟩
        | cons _ _ => simp [mTs] at h
      | cons t ts ih => intro xs h; cases xs with
        | nil => simp [mTs] at h
        | cons x xs =>
          simp only [mTs, Bool.and_eq_true] at h
          obtain ⟨q1, q2⟩ := ih h.2
          have e : assignEach (x :: xs) X.env = (false, assign x X.env) :: assignEach xs X.env := by
            have hx := h.1.1
            cases x <;> first
              | rfl
              | (cases hx; done)
          rw [e]
          refine ⟨by simp [q1], ?_⟩
          rw [List.findIdx?_cons, q2]
          rfl
    obtain ⟨q1, q2⟩ := hok h
    exact pg_tupS O.calm (sTgs ts xs O h) q1 q2
theorem sTgs : ∀ (ts : List T) (xs : List Expr) {X : Cx} {sc : Scope} {fb : Str → Bool}, XOk W c k X sc fb → mTs W sc fb ts xs = true → PGs X xs (tGTs W.mp X.K X.w.params ts)
  | [], xs, X, sc, fb, O, h => by
    cases xs with
    | nil => exact pgs_nilS
    | cons _ _ => simp [mTs] at h
  | t :: ts, xs, X, sc, fb, O, h => by
    cases xs with
    | nil => simp [mTs] at h
    | cons x xs =>
      simp only [mTs, Bool.and_eq_true] at h
      refine pgs_consS (sTg t x O h.1.2) (sTgs ts xs O h.2) ?_
      have hx := h.1.1
      cases x <;> first
        | rfl
        | (cases hx; done)
end
theorem mVar_ok {X : Cx} {sc : Scope} {fb : Str → Bool} (O : XOk W c k X sc fb) {i : Nat} {x : Str} (h : mVar W sc i x = true) : X.N[i]? = some x ∧ Vis X.env.scope x ∧ (x == ("__debug__" : Str)) = false ∧ (x == ("__classdict__" : Str)) = false := by
  simp only [mVar, Bool.and_eq_true, decide_eq_true_eq, Bool.not_eq_true'] at h
  exact ⟨by rw [O.N]; exact h.1.1.1, by rw [O.scq]; exact vis_of h.1.1.2, h.1.2, h.2⟩
theorem pe_name {X : Cx} {sc : Scope} {fb : Str → Bool} (O : XOk W c k X sc fb) {i : Nat} {x : Str} {pos : Pos} (h : mVar W sc i x = true) : PE X (.Name x pos) (tVar i) :=
  let ⟨a, b, d, e⟩ := mVar_ok O h
  pe_var a b d e
theorem gl_of {X : Cx} {sc : Scope} {fb : Str → Bool} (O : XOk W c k X sc fb) {x : Str} (h : glB sc x = true) : Gl X x ∧ (x == ("__debug__" : Str)) = false ∧ x ≠ ("__name__" : Str) := by
  simp only [glB, Bool.and_eq_true, decide_eq_true_eq, Bool.not_eq_true', decide_eq_false_iff_not] at h
  refine ⟨?_, h.1.2, h.2⟩
  show X.env.scope.names.lookup x = _
  rw [O.scq]; exact h.1.1
theorem PW.pt {X : Cx} {e : Expr} {t : TT} (h : PW X e t) : PT X e t := ⟨fun pins s σ H Q I q => h.run (eval e X.env) pins s σ H Q I q⟩

/-- what an expression's check gives -/
def SE (W : Wd) (c : Ctx) (X : Cx) (x : Expr) (e : E) : Prop := PE X x (tS W.mp X.K X.w.params (evE c e)) ∧ PT X x (tST W.mp X.K X.w.params (evT c e))
structure SL (W : Wd) (c : Ctx) (X : Cx) (xs : List Expr) (es : List E) : Prop where
  d : PA X xs (tSD W.mp X.K X.w.params (evDs c es))
  o : PA X xs (tSO W.mp X.K X.w.params (evOs c es))
  and : es ≠ [] → ∀ pos, PE X (.BoolOp .And xs pos) (tS W.mp X.K X.w.params (evAnd c es))
  or : es ≠ [] → ∀ pos, PE X (.BoolOp .Or xs pos) (tS W.mp X.K X.w.params (evOr c es))
  wand : es ≠ [] → ∀ pos, PW X (.BoolOp .And xs pos) (tST W.mp X.K X.w.params (evTA c es))
  wor : es ≠ [] → ∀ pos, PW X (.BoolOp .Or xs pos) (tST W.mp X.K X.w.params (evTO c es))
  ts : es.length ≤ 1 → PTs X xs (tST W.mp X.K X.w.params (evTs c es))
theorem sl_nil {X : Cx} : SL W c X [] [] := ⟨pa_nilD, pa_nilO, fun h => absurd rfl h, fun h => absurd rfl h, fun h => absurd rfl h, fun h => absurd rfl h, fun _ => pts_nilS⟩
theorem sl_cons {X : Cx} {x : Expr} {xs : List Expr} {e : E} {es : List E} (h : okX x = true) (h1 : SE W c X x e) (h2 : SL W c X xs es) (hl : es.length = xs.length) : SL W c X (x :: xs) (e :: es) where
  d := pa_consD h1.1 h2.d (star_one h)
  o := pa_consO h1.1 h2.o (star_one h)
  and := fun _ pos => by
    cases es with
    | nil => cases xs with
      | nil => exact pe_and1S h1.1
      | cons _ _ => cases hl
    | cons e2 es => cases xs with
      | nil => cases hl
      | cons x2 xs => exact pe_andS h1.1 (h2.and (by simp) pos)
  or := fun _ pos => by
    cases es with
    | nil => cases xs with
      | nil => exact pe_or1S h1.1
      | cons _ _ => cases hl
    | cons e2 es => cases xs with
      | nil => cases hl
      | cons x2 xs => exact pe_orS h1.1 (h2.or (by simp) pos)
  wand := fun _ pos => by
    cases es with
    | nil => cases xs with
      | nil => exact pw_and1S h1.2
      | cons _ _ => cases hl
    | cons e2 es => cases xs with
      | nil => cases hl
      | cons x2 xs => exact pw_andS h1.2 (h2.wand (by simp) pos)
  wor := fun _ pos => by
    cases es with
    | nil => cases xs with
      | nil => exact pw_or1S h1.2
      | cons _ _ => cases hl
    | cons e2 es => cases xs with
      | nil => cases hl
      | cons x2 xs => exact pw_orS h1.2 (h2.wor (by simp) pos)
  ts := fun h => by
    cases es with
    | nil => cases xs with
      | nil => exact pts_oneS h1.2
      | cons _ _ => cases hl
    | cons e2 es => simp at h
theorem se_plain {X : Cx} {x : Expr} {e : E} (h : PE X x (tS W.mp X.K X.w.params (evE c e))) (he : ∀ whole, isTrue x X.env whole = (do let v ← whole; standAt x.pos; holding [v] (truthy v)))
    (hev : evT c e = M.bd (evE c e) fun x => M.bd (lk x) fun dx => lift (tru dx)) : SE W c X x e := ⟨h, pt_plainS h he hev⟩
theorem hu1 {X : Cx} {sc : Scope} {fb : Str → Bool} (O : XOk W c k X sc fb) : X.A.units + 1 < cLine := by have := O.room.units; omega
theorem few2 {a b : Expr} {cpos : Pos} {env : PySem.Env} (h1 : okX a = true) (h2 : okX b = true) : ((backTo cpos (starEach (a :: [b]) env)).all (fun x => !x.1) && (backToKw cpos (keywordEach [] env)).all (fun x => x.1.isSome)
      && decide ((a :: [b]).length + ([] : List Keyword).length + (if ([] : List Keyword).isEmpty then 0 else 1) < 30)) = true := by
  rw [star_one h1, star_one h2]; rfl
theorem few1 {a : Expr} {cpos : Pos} {env : PySem.Env} (h1 : okX a = true) : ((backTo cpos (starEach [a] env)).all (fun x => !x.1) && (backToKw cpos (keywordEach [] env)).all (fun x => x.1.isSome)
      && decide (([a] : List Expr).length + ([] : List Keyword).length + (if ([] : List Keyword).isEmpty then 0 else 1) < 30)) = true := by
  rw [star_one h1]; rfl
/-- the parts of a comprehension -/
structure LcOk (W : Wd) (c : Ctx) (X : Cx) (own : List (Str × Nat)) (t : T) (it : I) (ifs : List E) (elt : E) (elt' tg iter : Expr) (ifs' : List Expr) (scope : Scope) : Prop where
  blk : BlkOk X.N X.env.scope scope own
  it : PI X tg iter (tSI W.mp X.K X.w.params (evI c it))
  g : ∀ (s : Shared) (H : Hp) (C : Addr) (cl : List (Str × Addr)) (fp : List Addr), PG (X.blk s H scope (compEnvC scope cl C X.env) fp) tg (tGT W.mp X.K X.w.params t)
  ts : ∀ (s : Shared) (H : Hp) (C : Addr) (cl : List (Str × Addr)) (fp : List Addr), PTs (X.blk s H scope (compEnvC scope cl C X.env) fp) ifs' (tST W.mp X.K X.w.params (evTs c ifs))
  e : ∀ (s : Shared) (H : Hp) (C : Addr) (cl : List (Str × Addr)) (fp : List Addr), PE (X.blk s H scope (compEnvC scope cl C X.env) fp) elt' (tS W.mp X.K X.w.params (evE c elt))
  fold : ∀ x, foldedSetIterable iter X.env x = pure x
  mp : ∀ v ∈ own.map (·.2), v ∉ W.mp
  sl : ∀ i ∈ slotsT t, i ∈ own.map (·.2)
theorem pe_lcS {X : Cx} {sc : Scope} {fb : Str → Bool} (O : XOk W c k X sc fb) {own : List (Str × Nat)} {t : T} {it : I} {ifs : List E} {elt : E} {elt' tg iter : Expr} {ifs' : List Expr} {scope : Scope} {pos : Pos} (h : LcOk W c X own t it ifs elt elt' tg iter ifs' scope) :
    PE X (.ListComp elt' [⟨tg, iter, ifs', 0⟩] scope pos) (tS W.mp X.K X.w.params (evE c (.lc own t it ifs elt))) :=
  PE.weak (pe_lc O.calm (by rw [O.N]; exact O.nd) h.it h.blk h.g h.ts h.e h.fold) fun σ H Q q => lc_of h.mp h.sl σ H Q q
end
end MP

/-! Expressions: what the check gives. -/
namespace MP
open PySem PySem.Spec L2
section
variable {W : Wd} {c : Ctx} {k : Nat}
theorem blk_kind {N : List Str} {sc scope : Scope} {own : List (Str × Nat)} (h : BlkOk N sc scope own) : scope.kind = .function := h.1
mutual
theorem sE : ∀ (e : E) (x : Expr) {X : Cx} {sc : Scope} {fb : Str → Bool}, XOk W c k X sc fb → mE W sc fb e x = true → SE W c X x e
  | .var i, x, X, sc, fb, O, h => by
    cases x <;> first
      | (simp [mE] at h; done)
      | skip
    rename_i nm pos
    simp only [mE] at h
    obtain ⟨a, b, d, e⟩ := mVar_ok O h
    exact se_plain (pe_varS a b d e) (fun _ => rfl) (by simp only [evT])
  | .cst d, x, X, sc, fb, O, h => by
    cases x <;> first
      | (simp [mE] at h; done)
      | skip
    rename_i kk j pos
    simp only [mE] at h
    refine se_plain (pe_cstS ?_) (fun _ => rfl) (by simp only [evT])
    cases d <;> cases kk <;> simp only [mC] at h <;> try (cases h; done)
    · rfl
    · simp only [beq_iff_eq] at h; show D.bl _ = D.bl _; rw [h]
    · simp only [decide_eq_true_eq] at h; show D.int _ = D.int _; rw [h]
    · simp only [decide_eq_true_eq] at h; exact ⟨_, rfl, h⟩
  | .glo y, x, X, sc, fb, O, h => by
    cases x <;> first
      | (simp [mE] at h; done)
      | skip
    rename_i nm pos
    simp only [mE, Bool.and_eq_true, decide_eq_true_eq] at h
    obtain ⟨rfl, h⟩ := h
    obtain ⟨q1, q2, _⟩ := gl_of O h
    have hs : ∀ σ H Q, tS W.mp X.K X.w.params (evE c (.glo y)) σ H Q → ∃ d, c.glob y = some d := by
      intro σ H Q ⟨B, G, e, r, e', A, h, _⟩
      simp only [evE] at h
      split at h
      · cases h
      · exact ⟨_, by assumption⟩
    refine se_plain ⟨fun pins s σ H Q I q => ?_⟩ (fun _ => rfl) (by simp only [evT])
    obtain ⟨d, hd⟩ := hs σ H Q q
    exact (pe_gloS q1 q2 O.glob hd).run pins s σ H Q I q
  | .bin op a b, x, X, sc, fb, O, h => by
    cases x <;> first
      | (simp [mE] at h; done)
      | skip
    simp only [mE, Bool.and_eq_true, decide_eq_true_eq] at h
    obtain ⟨⟨⟨rfl, h1⟩, h2⟩, h3⟩ := h
    obtain ⟨r, hr, sp⟩ := op_all h1
    refine se_plain ?_ (fun _ => rfl) (by simp only [evT])
    simp only [evE]
    exact pe_binS (mp := W.mp) hr sp (sE a _ O h2).1 (sE b _ O h3).1
  | .neg a, x, X, sc, fb, O, h => by
    cases x <;> first
      | (simp [mE] at h; done)
      | skip
    rename_i op a' pos
    cases op <;> first
      | (simp [mE] at h; done)
      | skip
    simp only [mE] at h
    exact se_plain (pe_negS (sE a _ O h).1) (fun _ => rfl) (by simp only [evT])
  | .not a, x, X, sc, fb, O, h => by
    cases x <;> first
      | (simp [mE] at h; done)
      | skip
    rename_i op a' pos
    cases op <;> first
      | (simp [mE] at h; done)
      | skip
    simp only [mE] at h
    exact ⟨pe_notS (sE a _ O h).1, pt_notS (sE a _ O h).2⟩
  | .cmp op a b, x, X, sc, fb, O, h => by
    cases x <;> first
      | (simp [mE] at h; done)
      | skip
    rename_i a' ops bs pos
    cases ops with
    | nil => simp [mE] at h
    | cons op' ops => cases ops with
      | cons _ _ => simp [mE] at h
      | nil => cases bs with
        | nil => simp [mE] at h
        | cons b' bs => cases bs with
          | cons _ _ => simp [mE] at h
          | nil =>
            simp only [mE, Bool.and_eq_true, decide_eq_true_eq] at h
            obtain ⟨⟨⟨rfl, h1⟩, h2⟩, h3⟩ := h
            exact ⟨pe_cmpS O.room.units (sE a _ O h2).1 (sE b _ O h3).1 (slice_no h1), pt_cmpS O.room.units (sE a _ O h2).1 (sE b _ O h3).1 (slice_no h1)⟩
  | .chn op op2 a b d, x, X, sc, fb, O, h => by
    cases x <;> first
      | (simp [mE] at h; done)
      | skip
    rename_i a' ops bs pos
    cases ops with
    | nil => simp [mE] at h
    | cons op' ops => cases ops with
      | nil => simp [mE] at h
      | cons op2' ops => cases ops with
        | cons _ _ => simp [mE] at h
        | nil => cases bs with
          | nil => simp [mE] at h
          | cons b' bs => cases bs with
            | nil => simp [mE] at h
            | cons d' bs => cases bs with
              | cons _ _ => simp [mE] at h
              | nil =>
                simp only [mE, Bool.and_eq_true, decide_eq_true_eq] at h
                obtain ⟨⟨⟨⟨⟨rfl, rfl⟩, h1⟩, h2⟩, h3⟩, h4⟩ := h
                have hm : lastMarks [op, op2] [b', d'] = false := by
                  show behindInMarks op2 d' = false
                  exact slice_no h1
                exact ⟨pe_chnS O.room.units (sE a _ O h2).1 (sE b _ O h3).1 (sE d _ O h4).1 hm, pt_chnS O.room.units (sE a _ O h2).1 (sE b _ O h3).1 (sE d _ O h4).1 hm⟩
  | .and es, x, X, sc, fb, O, h => by
    cases x <;> first
      | (simp [mE] at h; done)
      | skip
    rename_i op xs pos
    cases op <;> first
      | (simp [mE] at h; done)
      | skip
    simp only [mE, Bool.and_eq_true, Bool.not_eq_true'] at h
    have ne : es ≠ [] := by intro z; rw [z] at h; exact absurd h.1 (by simp)
    have q := sEs es xs O h.2
    refine ⟨?_, ?_⟩
    · simpa only [evE] using q.and ne pos
    · simpa only [evT] using (q.wand ne pos).pt
  | .or es, x, X, sc, fb, O, h => by
    cases x <;> first
      | (simp [mE] at h; done)
      | skip
    rename_i op xs pos
    cases op <;> first
      | (simp [mE] at h; done)
      | skip
    simp only [mE, Bool.and_eq_true, Bool.not_eq_true'] at h
    have ne : es ≠ [] := by intro z; rw [z] at h; exact absurd h.1 (by simp)
    have q := sEs es xs O h.2
    refine ⟨?_, ?_⟩
    · simpa only [evE] using q.or ne pos
    · simpa only [evT] using (q.wor ne pos).pt
  | .ite t a b, x, X, sc, fb, O, h => by
    cases x <;> first
      | (simp [mE] at h; done)
      | skip
    simp only [mE, Bool.and_eq_true] at h
    exact ⟨pe_iteS (sE t _ O h.1.1).2 (sE a _ O h.1.2).1 (sE b _ O h.2).1, pt_iteS (sE t _ O h.1.1).2 (sE a _ O h.1.2).2 (sE b _ O h.2).2⟩
  | .lst es, x, X, sc, fb, O, h => by
    cases x <;> first
      | (simp [mE] at h; done)
      | skip
    simp only [mE] at h
    exact se_plain (pe_lstS (sEs es _ O h).d) (fun _ => rfl) (by simp only [evT])
  | .tup es, x, X, sc, fb, O, h => by
    cases x <;> first
      | (simp [mE] at h; done)
      | skip
    simp only [mE] at h
    exact se_plain (pe_tupS (sEs es _ O h).d) (fun _ => rfl) (by simp only [evT])
  | .idx a b, x, X, sc, fb, O, h => by
    cases x <;> first
      | (simp [mE] at h; done)
      | skip
    simp only [mE, Bool.and_eq_true] at h
    exact se_plain (pe_idxS (hu1 O) (sE a _ O h.1.2).1 (sE b _ O h.2).1 (plain_ix h.1.1)) (fun _ => rfl) (by simp only [evT])
  | .sli a lo hi, x, X, sc, fb, O, h => by
    cases x <;> first
      | (simp [mE] at h; done)
      | skip
    rename_i a' ix pos
    cases ix <;> first
      | (simp [mE] at h; done)
      | skip
    rename_i lo' hi' st' p2
    cases st' <;> first
      | (simp [mE] at h; done)
      | skip
    simp only [mE, Bool.and_eq_true] at h
    exact se_plain (pe_sliS (sE a _ O h.1.1).1 (sO lo _ O h.1.2) (sO hi _ O h.2)) (fun _ => rfl) (by simp only [evT])
  | .cal f ms es, x, X, sc, fb, O, h => by
    cases x <;> first
      | (simp [mE] at h; done)
      | skip
    rename_i g xs kws pos
    cases g <;> first
      | (simp [mE] at h; done)
      | skip
    cases kws <;> first
      | (simp [mE] at h; done)
      | skip
    rename_i y py
    simp only [mE, Bool.and_eq_true, decide_eq_true_eq, Bool.not_eq_true'] at h
    obtain ⟨⟨⟨⟨⟨rfl, h1⟩, h2⟩, h3⟩, h4⟩, h5⟩ := h
    obtain ⟨q1, q2, q3⟩ := gl_of O h1
    cases xs with
    | nil => cases h4
    | cons a as =>
      have hx := mA_ok h5
      obtain ⟨fa, fd, ps, c1, c2, c3, c4⟩ := O.call _ _ h2
      exact se_plain (pe_calS c4 O.room q1 c1 c2 c3 h3 (sA es ms _ O h5) q2 (star_one (hx a List.mem_cons_self)) (backTo_no fun e he => hx e (List.mem_cons_of_mem _ he))) (fun _ => rfl) (by simp only [evT])
  | .blt f es, x, X, sc, fb, O, h => by
    cases x <;> first
      | (simp [mE] at h; done)
      | skip
    rename_i g xs kws pos
    cases g <;> first
      | (simp [mE] at h; done)
      | skip
    cases kws <;> first
      | (simp [mE] at h; done)
      | skip
    rename_i y py
    simp only [mE, Bool.and_eq_true, decide_eq_true_eq, Bool.not_eq_true'] at h
    obtain ⟨⟨⟨⟨⟨rfl, h1⟩, h2⟩, h3⟩, h4⟩, h5⟩ := h
    obtain ⟨q1, q2, q3⟩ := gl_of O h1
    have hm := O.bn f (List.contains_iff_mem.mp h3)
    cases xs with
    | nil => cases h4
    | cons a as =>
      have hx := (mEs_ok h5).2
      have he := star_one (es := as) (env := X.env) (hx a List.mem_cons_self)
      have hpl := backTo_no (pos := pos) (env := X.env) fun e he => hx e (List.mem_cons_of_mem a he)
      have ha := (sEs es _ O h5).o
      simp only [bltOk, Bool.or_eq_true, beq_iff_eq] at h2
      refine se_plain ?_ (fun _ => rfl) (by simp only [evT])
      rcases h2 with ((rfl | rfl) | rfl) | rfl
      · exact pe_bltB call_len sp_len q1 hm PySem.boot_len ha q3 q2 he hpl
      · exact pe_bltT call_int1 sp_int1 q1 hm (by decide +kernel) ha q3 q2 he hpl
      · exact pe_bltB (cr_sum O.calm) sp_sum q1 hm (by decide +kernel) ha q3 q2 he hpl
      · exact pe_bltT call_list_of sp_list q1 hm (by decide +kernel) ha q3 q2 he hpl
  | .met m o es, x, X, sc, fb, O, h => by
    cases x <;> first
      | (simp [mE] at h; done)
      | skip
    rename_i g xs kws pos
    cases g <;> first
      | (simp [mE] at h; done)
      | skip
    cases kws <;> first
      | (simp [mE] at h; done)
      | skip
    rename_i o' at' apos
    simp only [mE, Bool.and_eq_true, decide_eq_true_eq, beq_iff_eq] at h
    obtain ⟨⟨⟨⟨⟨⟨rfl, rfl⟩, h1⟩, h2⟩, h3⟩, h4⟩, h5⟩ := h
    cases xs with
    | nil => cases h4
    | cons a as => cases as with
      | nil => cases h4
      | cons b as => cases as with
        | cons _ _ => simp at h4
        | nil =>
          have hx := (mEs_ok h5).2
          have ha : okX a = true := hx a (by simp)
          have hb : okX b = true := hx b (by simp)
          exact se_plain (pe_metS PySem.F.plainAttrs_dict PySem.F.slot_dict_get PySem.F.type_dict_get (mt_get2 (hu1 O)) sp_get2 ty_get2 (sE o _ O h3).1 (sEs es _ O h5).o (base_ok h1) (few2 ha hb) (by simpa using h2) (star_one ha) (backTo_no fun e he => by simp at he; rw [he]; exact hb)) (fun _ => rfl) (by simp only [evT])
  | .lc own t it ifs elt, x, X, sc, fb, O, h => by
    cases x <;> first
      | (simp [mE] at h; done)
      | skip
    rename_i elt' gs scope pos
    cases gs with
    | nil => simp [mE] at h
    | cons g gs => cases gs with
      | cons _ _ => simp [mE] at h
      | nil =>
        obtain ⟨tg, iter, ifs', as⟩ := g
        by_cases has : as = 0
        case neg => simp [mE, has] at h
        case pos =>
          subst has
          simp only [mE, Bool.and_eq_true, List.all_eq_true, Bool.not_eq_true', decide_eq_true_eq] at h
          obtain ⟨⟨⟨⟨⟨⟨⟨⟨h1, h2⟩, h3⟩, h4⟩, h5⟩, h6⟩, h7⟩, h8⟩, h9⟩ := h
          have bo : BlkOk X.N X.env.scope scope own := by rw [O.N, O.scq]; exact blkOk_by h1
          refine se_plain (pe_lcS O ⟨bo, sI it iter tg O h6, fun s H C cl fp => sTg t tg (O.blk bo.1 s H C cl fp) h7, fun s H C cl fp => (sEs ifs ifs' (O.blk bo.1 s H C cl fp) h8).ts h4, fun s H C cl fp => (sE elt elt' (O.blk bo.1 s H C cl fp) h9).1, folded_ok h5, fun v hv z => ?_, fun i hi => ?_⟩) (fun _ => rfl) (by simp only [evT])
          · have := h2 v hv
            rw [List.contains_iff_mem.mpr z] at this; cases this
          · exact List.contains_iff_mem.mp (h3 i hi)
theorem sEs : ∀ (es : List E) (xs : List Expr) {X : Cx} {sc : Scope} {fb : Str → Bool}, XOk W c k X sc fb → mEs W sc fb es xs = true → SL W c X xs es
  | [], xs, X, sc, fb, O, h => by
    cases xs with
    | nil => exact sl_nil
    | cons _ _ => simp [mEs] at h
  | e :: es, xs, X, sc, fb, O, h => by
    cases xs with
    | nil => simp [mEs] at h
    | cons x xs =>
      simp only [mEs, Bool.and_eq_true] at h
      exact sl_cons h.1.1 (sE e x O h.1.2) (sEs es xs O h.2) (mEs_ok h.2).1
theorem sA : ∀ (es : List E) (ms : List (Option Nat)) (xs : List Expr) {X : Cx} {sc : Scope} {fb : Str → Bool}, XOk W c k X sc fb → mA W sc fb ms es xs = true → PA X xs (tSG W.mp X.K X.w.params ms (evAs c ms es))
  | [], ms, xs, X, sc, fb, O, h => by
    cases ms with
    | nil => cases xs with
      | nil => exact pa_nilG
      | cons _ _ => simp [mA] at h
    | cons m ms => cases m <;> simp [mA] at h
  | e :: es, ms, xs, X, sc, fb, O, h => by
    cases ms with
    | nil => simp [mA] at h
    | cons m ms =>
      have hx := mA_ok h
      cases xs with
      | nil => cases m <;> simp [mA] at h
      | cons x xs => cases m with
        | none =>
          simp only [mA, Bool.and_eq_true] at h
          exact pa_consG (sE e x O h.1.2).1 (sA es ms xs O h.2) (star_one (hx x List.mem_cons_self))
        | some i =>
          cases x <;> first
            | (simp [mA] at h; done)
            | skip
          simp only [mA, Bool.and_eq_true] at h
          exact pa_consGm (pe_name O h.1) (sA es ms xs O h.2) (star_one (hx _ List.mem_cons_self))
theorem sO : ∀ (eo : Option E) (xo : Option Expr) {X : Cx} {sc : Scope} {fb : Str → Bool}, XOk W c k X sc fb → mO W sc fb eo xo = true → PO X xo (tSP W.mp X.K X.w.params (evP c eo))
  | none, xo, X, sc, fb, O, h => by
    cases xo with
    | none => exact po_noneS
    | some _ => simp [mO] at h
  | some e, xo, X, sc, fb, O, h => by
    cases xo with
    | none => simp [mO] at h
    | some x =>
      simp only [mO] at h
      exact po_someS (sE e x O h).1
theorem sI : ∀ (it : I) (x tg : Expr) {X : Cx} {sc : Scope} {fb : Str → Bool}, XOk W c k X sc fb → mI W sc fb it x (isTupX tg) = true → PI X tg x (tSI W.mp X.K X.w.params (evI c it))
  | .seq e, x, tg, X, sc, fb, O, h => by
    simp only [mI] at h
    exact pi_seqS (sE e x O h).1
  | .rng es, x, tg, X, sc, fb, O, h => by
    cases x <;> first
      | (simp [mI] at h; done)
      | skip
    rename_i g xs kws pos
    cases g <;> first
      | (simp [mI] at h; done)
      | skip
    cases kws <;> first
      | (simp [mI] at h; done)
      | skip
    rename_i y py
    simp only [mI, Bool.and_eq_true, decide_eq_true_eq, Bool.or_eq_true] at h
    obtain ⟨⟨⟨⟨rfl, h1⟩, h2⟩, h3⟩, h4⟩ := h
    obtain ⟨q1, q2, q3⟩ := gl_of O h1
    have hm := O.bn "range" (List.contains_iff_mem.mp h2)
    have hx := (mEs_ok h4)
    have ha := (sEs es xs O h4).o
    rcases h3 with h3 | h3
    · match xs, es, h3, hx, ha with
      | [x], [e], _, hx, ha => exact pi_rng1S q1 hm ha (star_one (hx.2 x (by simp)))
      | [x], [], _, hx, _ => exact absurd hx.1 (by simp)
      | [x], _ :: _ :: _, _, hx, _ => exact absurd hx.1 (by simp)
    · match xs, es, h3, hx, ha with
      | [x, y], [e, e2], _, hx, ha => exact pi_rng2S q1 hm ha ((star_one (hx.2 x (by simp))).trans (congrArg _ (star_one (hx.2 y (by simp))))) (star_one (hx.2 y (by simp)))
      | [x, y], [], _, hx, _ => exact absurd hx.1 (by simp)
      | [x, y], [_], _, hx, _ => exact absurd hx.1 (by simp)
      | [x, y], _ :: _ :: _ :: _, _, hx, _ => exact absurd hx.1 (by simp)
  | .enm e, x, tg, X, sc, fb, O, h => by
    cases x <;> first
      | (simp [mI] at h; done)
      | skip
    rename_i g xs kws pos
    cases g <;> first
      | (simp [mI] at h; done)
      | skip
    rename_i y py
    match xs, kws, pos, h with
    | [x], [], _, h =>
      simp only [mI, Bool.and_eq_true, decide_eq_true_eq] at h
      obtain ⟨⟨⟨⟨⟨rfl, h1⟩, h2⟩, h3⟩, h4⟩, h5⟩ := h
      obtain ⟨q1, q2, q3⟩ := gl_of O h1
      have hm := O.bn "enumerate" (List.contains_iff_mem.mp h2)
      cases tg <;> first
        | (cases h3; done)
        | skip
      exact pi_enmS q1 hm (pa_consD (sE e x O h5).1 pa_nilD (star_one h4)) (star_one h4)
    | [x], _ :: _, _, h => simp [mI] at h
    | [], [], _, h => simp [mI] at h
    | [], _ :: _, _, h => simp [mI] at h
    | _ :: _ :: _, [], _, h => simp [mI] at h
    | _ :: _ :: _, _ :: _, _, h => simp [mI] at h
  | .zip a b, x, tg, X, sc, fb, O, h => by
    cases x <;> first
      | (simp [mI] at h; done)
      | skip
    rename_i g xs kws pos
    cases g <;> first
      | (simp [mI] at h; done)
      | skip
    rename_i y py
    match xs, kws, pos, h with
    | [x, z], [], _, h =>
      simp only [mI, Bool.and_eq_true, decide_eq_true_eq] at h
      obtain ⟨⟨⟨⟨⟨⟨⟨rfl, h1⟩, h2⟩, h3⟩, h4⟩, h5⟩, h6⟩, h7⟩ := h
      obtain ⟨q1, q2, q3⟩ := gl_of O h1
      have hm := O.bn "zip" (List.contains_iff_mem.mp h2)
      cases tg <;> first
        | (cases h3; done)
        | skip
      exact pi_zipS q1 hm (pa_consD (sE a x O h6).1 (pa_consD (sE b z O h7).1 pa_nilD (star_one h5)) (star_one h4)) (star_one h4) (star_one h5)
    | [x, z], _ :: _, _, h => simp [mI] at h
    | [], [], _, h => simp [mI] at h
    | [], _ :: _, _, h => simp [mI] at h
    | [_], [], _, h => simp [mI] at h
    | [_], _ :: _, _, h => simp [mI] at h
    | _ :: _ :: _ :: _, [], _, h => simp [mI] at h
    | _ :: _ :: _ :: _, _ :: _, _, h => simp [mI] at h
end
end
end MP

/-! Statements: the check, and what it gives. -/
namespace MP
open PySem PySem.Spec L2
/-- a local name of the def that is no changing parameter -/
def mLoc (W : Wd) (sc : Scope) (fb : Str → Bool) (i : Nat) (x : Str) : Bool := decide (W.N[i]? = some x) && locB sc fb x && !(W.mp.contains i)
/-- a comprehension whose list a name takes at once -/
def swLc (sc : Scope) (a : Expr) (y : Str) (py : Pos) : Bool := match a with
  | .ListComp _ _ scope pos => decide (sc.names.lookup y = some .local) && (py.line == pos.line) && !(scope.names.any fun (n, k) => n == y && (k == .local || k == .cell))
  | _ => false
def tupFree (sc : Scope) (tes : List Expr) (a : Expr) : Bool := match a with
  | .Tuple vs _ _ => !swTup sc tes vs
  | _ => true
def mApp (W : Wd) (sc : Scope) (fb : Str → Bool) (x : Nat) (e : E) : Stmt → Bool
  | .Expr (.Call (.Attribute (.Name y _) at' apos) [a] [] cpos) _ => mVar W sc x y && decide (at' = ("append" : Str)) && (apos.endLine == cpos.line) && okX a && mE W sc fb e a
  | _ => false
def mAsgN (W : Wd) (sc : Scope) (fb : Str → Bool) (i : Nat) (e : E) : Stmt → Bool
  | .Assign [.Name x px] a _ => mLoc W sc fb i x && mE W sc fb e a && (!(swB sc a x px) || swLc sc a x px)
  | _ => false
def mAsgT (W : Wd) (sc : Scope) (fb : Str → Bool) (ts : List T) (e : E) : Stmt → Bool
  | .Assign [.Tuple tes _ _] a _ => mTs W sc fb ts tes && mE W sc fb e a && tupFree sc tes a
  | _ => false
def mPar (W : Wd) (sc : Scope) (fb : Str → Bool) (i j : Nat) (a b : E) : Stmt → Bool
  | .Assign [.Tuple [.Name x px, .Name y py] k0 p0] (.Tuple [a', b'] _ _) _ => mLoc W sc fb i x && mLoc W sc fb j y && !decide (i = j) && okX a' && okX b' && mE W sc fb a a' && mE W sc fb b b' &&
      ((decide (sc.names.lookup x = some .local) && decide (sc.names.lookup y = some .local) && swTup sc [.Name x px, .Name y py] [a', b'] &&
      decide (swNames sc [.Name x px, .Name y py] = [x, y]) && !([a', b'].all (constantsAlone 8))) || !swTup sc [.Name x px, .Name y py] [a', b'])
  | _ => false
def mAug (W : Wd) (sc : Scope) (fb : Str → Bool) (i : Nat) (op : Operator) (e : E) : Stmt → Bool
  | .AugAssign (.Name x _) op' a _ => decide (op = op') && iopOk op && mLoc W sc fb i x && mE W sc fb e a
  | _ => false
def mSto (W : Wd) (sc : Scope) (fb : Str → Bool) (x : Nat) (i e : E) : Stmt → Bool
  | .Assign [.Subscript (.Name y _) ix _] a _ => mVar W sc x y && noSlice ix && mE W sc fb i ix && mE W sc fb e a
  | _ => false
def mAugS (W : Wd) (sc : Scope) (fb : Str → Bool) (x : Nat) (i : E) (op : Operator) (e : E) : Stmt → Bool
  | .AugAssign (.Subscript (.Name y _) ix _) op' a _ => decide (op = op') && iopOk op && mVar W sc x y && noSlice ix && mE W sc fb i ix && mE W sc fb e a
  | _ => false
mutual
def mS (W : Wd) (sc : Scope) (fb : Str → Bool) : S → Stmt → Bool
  | .exp e, .Expr a _ => noComp a && mE W sc fb e a
  | .app x e, s => mApp W sc fb x e s
  | .asg (.nam i) e, s => mAsgN W sc fb i e s
  | .asg (.tup ts) e, s => mAsgT W sc fb ts e s
  | .par i j a b, s => mPar W sc fb i j a b s
  | .aug i op e, s => mAug W sc fb i op e s
  | .sto x i e, s => mSto W sc fb x i e s
  | .augS x i op e, s => mAugS W sc fb x i op e s
  | .for t it b, .For tg iter body [] _ => okX iter && mI W sc fb it iter (isTupX tg) && mT W sc fb t tg && mSs W sc fb b body
  | .whl t b, .While t' body [] _ => mE W sc fb t t' && mSs W sc fb b body
  | .ifs t a b, .If t' a' b' _ => mE W sc fb t t' && mSs W sc fb a a' && mSs W sc fb b b'
  | .ret none, .Return none _ => true
  | .ret (some e), .Return (some a) _ => mE W sc fb e a
  | .pas, .Pass _ => true
  | .brk, .Break _ => true
  | .con, .Continue _ => true
  | .nev, _ => true
  | _, _ => false
def mSs (W : Wd) (sc : Scope) (fb : Str → Bool) : List S → List Stmt → Bool
  | [], [] => true
  | s :: ss, x :: xs => mS W sc fb s x && mSs W sc fb ss xs
  | _, _ => false
end
section
variable {W : Wd} {c : Ctx} {k : Nat}
theorem mLoc_ok {X : Cx} {sc : Scope} {fb : Str → Bool} (O : XOk W c k X sc fb) {i : Nat} {x : Str} (h : mLoc W sc fb i x = true) : X.N[i]? = some x ∧ L2.Loc X.env.scope x ∧ (X.fn x = true ∨ X.env.scope.names.lookup x = some .local) ∧ i ∉ W.mp := by
  simp only [mLoc, Bool.and_eq_true, decide_eq_true_eq, Bool.not_eq_true'] at h
  obtain ⟨⟨h1, h2⟩, h3⟩ := h
  obtain ⟨q1, q2⟩ := loc_of h2
  refine ⟨by rw [O.N]; exact h1, by rw [O.scq]; exact q1, by rw [O.fn, O.scq]; exact q2, fun z => ?_⟩
  rw [List.contains_iff_mem.mpr z] at h3; cases h3
theorem nd_ok {X : Cx} {sc : Scope} {fb : Str → Bool} (O : XOk W c k X sc fb) : X.N.Nodup := by rw [O.N]; exact O.nd
theorem passes_ok {X : Cx} {sc : Scope} {fb : Str → Bool} (O : XOk W c k X sc fb) : PassesOwn (model X.prog X.w) X.A X.env X.xe := by rw [O.xe]; exact PassesOwn.never
/-- the parts of a checked comprehension -/
theorem lc_parts {own : List (Str × Nat)} {t : T} {it : I} {ifs : List E} {elt : E} {elt' : Expr} {gs : List Comprehension} {scope : Scope} {pos : Pos} {X : Cx} {sc : Scope} {fb : Str → Bool} (O : XOk W c k X sc fb) (h : mE W sc fb (.lc own t it ifs elt) (.ListComp elt' gs scope pos) = true) :
    ∃ tg iter ifs', gs = [⟨tg, iter, ifs', 0⟩] ∧ LcOk W c X own t it ifs elt elt' tg iter ifs' scope := by
  cases gs with
  | nil => simp [mE] at h
  | cons g gs => cases gs with
    | cons _ _ => simp [mE] at h
    | nil =>
      obtain ⟨tg, iter, ifs', as⟩ := g
      by_cases has : as = 0
      case neg => simp [mE, has] at h
      case pos =>
        subst has
        simp only [mE, Bool.and_eq_true, List.all_eq_true, Bool.not_eq_true', decide_eq_true_eq] at h
        obtain ⟨⟨⟨⟨⟨⟨⟨⟨h1, h2⟩, h3⟩, h4⟩, h5⟩, h6⟩, h7⟩, h8⟩, h9⟩ := h
        have bo : BlkOk X.N X.env.scope scope own := by rw [O.N, O.scq]; exact blkOk_by h1
        refine ⟨tg, iter, ifs', rfl, bo, sI it iter tg O h6, fun s H C cl fp => sTg t tg (O.blk bo.1 s H C cl fp) h7, fun s H C cl fp => (sEs ifs ifs' (O.blk bo.1 s H C cl fp) h8).ts h4, fun s H C cl fp => (sE elt elt' (O.blk bo.1 s H C cl fp) h9).1, folded_ok h5, fun v hv z => ?_, fun i hi => ?_⟩
        · have := h2 v hv
          rw [List.contains_iff_mem.mpr z] at this; cases this
        · exact List.contains_iff_mem.mp (h3 i hi)
theorem ps_asgN {X : Cx} {sc : Scope} {fb : Str → Bool} (O : XOk W c k X sc fb) {i : Nat} {e : E} {x : Str} {px : Pos} {a : Expr} {pos : Pos} (h1 : mLoc W sc fb i x = true) (h2 : mE W sc fb e a = true) (h3 : (!(swB sc a x px) || swLc sc a x px) = true) :
    PS X (.Assign [.Name x px] a pos) (tSS W.mp X.K X.w.params (exS c (.asg (.nam i) e))) := by
  obtain ⟨q1, q2, q3, q4⟩ := mLoc_ok O h1
  have hk : X.env.scope.kind = .function := by rw [O.scq]; exact O.kind
  by_cases hb : swB sc a x px = false
  · exact ps_asgS (nd_ok O) q1 q2 (sE e a O h2).1 (swB_false hk (by rw [O.scq]; exact hb)) q3 q4
  · rw [Bool.not_eq_false] at hb
    rw [hb] at h3
    replace h3 : swLc sc a x px = true := h3
    cases a <;> first
      | (cases h3; done)
      | skip
    rename_i elt' gs scope lpos
    simp only [swLc, Bool.and_eq_true, decide_eq_true_eq, Bool.not_eq_true'] at h3
    cases e <;> first
      | (simp [mE] at h2; done)
      | skip
    rename_i own t it ifs elt
    obtain ⟨tg, iter, ifs', rfl, L⟩ := lc_parts O h2
    have hl : X.env.scope.names.lookup x = some .local := by rw [O.scq]; exact h3.1.1
    exact PS.weak (ps_setLc O.calm (nd_ok O) q1 hl (sw_true hk hl h3.1.2 h3.2) L.it L.blk L.g L.ts L.e L.fold) fun D σ H q => by
      have := asg_of q4 D σ H q
      exact lc_of L.mp L.sl σ H _ this
theorem ps_asgT {X : Cx} {sc : Scope} {fb : Str → Bool} (O : XOk W c k X sc fb) {ts : List T} {e : E} {tes : List Expr} {k0 : Nat} {p0 : Pos} {a : Expr} {pos : Pos} (h1 : mTs W sc fb ts tes = true) (h2 : mE W sc fb e a = true) (h3 : tupFree sc tes a = true) :
    PS X (.Assign [.Tuple tes k0 p0] a pos) (tSS W.mp X.K X.w.params (exS c (.asg (.tup ts) e))) := by
  have hk : X.env.scope.kind = .function := by rw [O.scq]; exact O.kind
  refine ps_asgTS (sE e a O h2).1 (sTg (.tup ts) (.Tuple tes k0 p0) O (by simpa only [mT] using h1)) ?_
  by_cases hn : noTup a = true
  · exact sws_plain hn
  · cases a <;> first
      | exact absurd rfl hn
      | skip
    rename_i vs k2 p2
    simp only [tupFree, Bool.not_eq_true'] at h3
    exact sws_none hk (by rw [O.scq]; exact h3)
theorem tS_mono {mp : List Nat} {K : PySem.W.Frag} {P : Params} {f : M R} {σ : St} {H : Hp} {Q Q' : VK} (h : tS mp K P f σ H Q) (k : ∀ v H', Q v H' → Q' v H') : tS mp K P f σ H Q' := by
  obtain ⟨B, G, e, r, e', A, h, q⟩ := h
  exact ⟨B, G, e, r, e', A, h, fun v G' H' s A' ri => k _ _ (q v G' H' s A' ri)⟩
theorem par_tup {mp : List Nat} {K : PySem.W.Frag} {P : Params} {i j : Nat} {ea eb : E} (hi : i ∉ mp) (hj : j ∉ mp) (D : Ends) (σ : St) (H : Hp) (h : tSS mp K P (exS c (.par i j ea eb)) D σ H) :
    tAsg (tTup (tCons (tS mp K P (evE c ea)) (tCons (tS mp K P (evE c eb)) tNil))) (gTup K 2 (gCons (gName i) (gCons (gName j) gNil))) D σ H := by
  have h' : tSS mp K P (exS c (.par i j ea eb)) { D with nx := fun σ' H' => ∀ p o, H' p = none → D.nx σ' (upd H' p o) } σ H := by
    obtain ⟨B, G, e, o, e', A, h, k⟩ := h
    refine ⟨B, G, e, o, e', A, h, ?_⟩
    cases o with
    | nx => exact fun σ' G' H' s A' p o hp => k σ' G' _ s (A'.made hp)
    | bk => exact k
    | ct => exact k
    | rt r => exact k
  have q := par_of hi hj _ σ H h'
  refine tS_mono q fun v H1 q => tS_mono q fun w H2 q => ?_
  obtain ⟨v', w', e, q⟩ := q
  cases e
  exact ⟨by show 2 ≤ sizeLine; decide, fun p hp => ⟨p, [v, w], rfl, .inl (.inl upd_same), rfl, v, [w], rfl, w, [], rfl, rfl, q p _ hp⟩⟩
mutual
theorem sS : ∀ (s : S) (x : Stmt) {X : Cx} {sc : Scope} {fb : Str → Bool}, XOk W c k X sc fb → mS W sc fb s x = true → PS X x (tSS W.mp X.K X.w.params (exS c s))
  | .exp e, x, X, sc, fb, O, h => by
    cases x <;> first
      | (simp [mS] at h; done)
      | skip
    simp only [mS, Bool.and_eq_true] at h
    exact ps_expS (sE e _ O h.2).1 h.1
  | .app v e, x, X, sc, fb, O, h => by
    simp only [mS] at h
    unfold mApp at h
    split at h
    case h_2 => cases h
    case h_1 =>
      simp only [Bool.and_eq_true, decide_eq_true_eq] at h
      obtain ⟨⟨⟨⟨h1, rfl⟩, h3⟩, h4⟩, h5⟩ := h
      exact ps_appS (pe_name O h1) (sE _ _ O h5).1 (base_ok rfl) (few1 h4) h3 (star_one h4)
  | .asg (.nam i) e, x, X, sc, fb, O, h => by
    simp only [mS] at h
    unfold mAsgN at h
    split at h
    case h_2 => cases h
    case h_1 =>
      simp only [Bool.and_eq_true] at h
      exact ps_asgN O h.1.1 h.1.2 h.2
  | .asg (.tup ts) e, x, X, sc, fb, O, h => by
    simp only [mS] at h
    unfold mAsgT at h
    split at h
    case h_2 => cases h
    case h_1 =>
      simp only [Bool.and_eq_true] at h
      exact ps_asgT O h.1.1 h.1.2 h.2
  | .par i j a b, x, X, sc, fb, O, h => by
    simp only [mS] at h
    unfold mPar at h
    split at h
    case h_2 => cases h
    case h_1 =>
      simp only [Bool.and_eq_true, decide_eq_true_eq, Bool.not_eq_true', decide_eq_false_iff_not, Bool.or_eq_true] at h
      obtain ⟨⟨⟨⟨⟨⟨⟨h1, h2⟩, h3⟩, h8⟩, h9⟩, h11⟩, h12⟩, h⟩ := h
      obtain ⟨a1, a2, a3, a4⟩ := mLoc_ok O h1
      obtain ⟨b1, b2, b3, b4⟩ := mLoc_ok O h2
      have hk : X.env.scope.kind = .function := by rw [O.scq]; exact O.kind
      rcases h with ⟨⟨⟨⟨h4, h5⟩, h6⟩, h7⟩, h10⟩ | h6
      · refine PS.weak (ps_par O.calm (nd_ok O) a1 b1 h3 (by rw [O.scq]; exact h4) (by rw [O.scq]; exact h5) (pa_cons (sE _ _ O h11).1 (pa_cons (sE _ _ O h12).1 pa_nil (star_one h9)) (star_one h8)) ?_ ?_) fun D σ H q => par_of a4 b4 D σ H q
        · rw [sws_some hk (by rw [O.scq]; exact h6) ?_ h10, O.scq, h7]
          show (isStarred _ || (isStarred _ || false)) = false
          have e : ∀ {y : Expr}, okX y = true → isStarred y = false := fun {y} q => by
            cases y <;> first
              | rfl
              | (cases q; done)
          rw [e h8, e h9]; rfl
        · rfl
      · exact PS.weak (ps_asg (pe_tup (pa_cons (sE _ _ O h11).1 (pa_cons (sE _ _ O h12).1 pa_nil (star_one h9)) (star_one h8))) (pg_tup (n := 2) O.calm (pgs_cons (pg_name (nd_ok O) a1 a2 a3) (pgs_cons (pg_name (nd_ok O) b1 b2 b3) pgs_nil))) rfl (sws_none hk (by rw [O.scq]; exact h6))) fun D σ H q => par_tup a4 b4 D σ H q
  | .aug i op e, x, X, sc, fb, O, h => by
    simp only [mS] at h
    unfold mAug at h
    split at h
    case h_2 => cases h
    case h_1 =>
      simp only [Bool.and_eq_true, decide_eq_true_eq] at h
      obtain ⟨⟨⟨rfl, h1⟩, h2⟩, h3⟩ := h
      obtain ⟨a1, a2, a3, a4⟩ := mLoc_ok O h2
      exact ps_augE h1 (nd_ok O) a1 a2 (sE _ _ O h3).1 a3 a4
  | .sto v i e, x, X, sc, fb, O, h => by
    simp only [mS] at h
    unfold mSto at h
    split at h
    case h_2 => cases h
    case h_1 =>
      simp only [Bool.and_eq_true] at h
      obtain ⟨⟨⟨h1, h2⟩, h3⟩, h4⟩ := h
      exact ps_stoS (pe_name O h1) (sE _ _ O h3).1 (sE _ _ O h4).1 h2
  | .augS v i op e, x, X, sc, fb, O, h => by
    simp only [mS] at h
    unfold mAugS at h
    split at h
    case h_2 => cases h
    case h_1 =>
      simp only [Bool.and_eq_true, decide_eq_true_eq] at h
      obtain ⟨⟨⟨⟨⟨rfl, h0⟩, h1⟩, h2⟩, h3⟩, h4⟩ := h
      exact ps_augSS h0 (pe_name O h1) (sE _ _ O h3).1 (sE _ _ O h4).1 h2
  | .for t it b, x, X, sc, fb, O, h => by
    cases x <;> first
      | (simp [mS] at h; done)
      | skip
    rename_i tg iter body els pos
    cases els with
    | cons _ _ => simp [mS] at h
    | nil =>
      simp only [mS, Bool.and_eq_true] at h
      exact ps_forS (passes_ok O) O.calm (sI it iter tg O h.1.1.2) (sTg t tg O h.1.2) (sSs b body O h.2) (folded_ok h.1.1.1)
  | .whl t b, x, X, sc, fb, O, h => by
    cases x <;> first
      | (simp [mS] at h; done)
      | skip
    rename_i t' body els pos
    cases els with
    | cons _ _ => simp [mS] at h
    | nil =>
      simp only [mS, Bool.and_eq_true] at h
      exact ps_whlS (passes_ok O) (sE t t' O h.1).2 (sSs b body O h.2)
  | .ifs t a b, x, X, sc, fb, O, h => by
    cases x <;> first
      | (simp [mS] at h; done)
      | skip
    simp only [mS, Bool.and_eq_true] at h
    exact ps_ifS (sE t _ O h.1.1).2 (sSs a _ O h.1.2) (sSs b _ O h.2)
  | .ret none, x, X, sc, fb, O, h => by
    cases x <;> first
      | (simp [mS] at h; done)
      | skip
    rename_i v pos
    cases v with
    | none => exact ps_retNS
    | some _ => simp [mS] at h
  | .ret (some e), x, X, sc, fb, O, h => by
    cases x <;> first
      | (simp [mS] at h; done)
      | skip
    rename_i v pos
    cases v with
    | none => simp [mS] at h
    | some a =>
      simp only [mS] at h
      exact ps_retS (sE e a O h).1
  | .pas, x, X, sc, fb, O, h => by
    cases x <;> first
      | (simp [mS] at h; done)
      | exact ps_pasS
  | .brk, x, X, sc, fb, O, h => by
    cases x <;> first
      | (simp [mS] at h; done)
      | exact ps_brkS
  | .con, x, X, sc, fb, O, h => by
    cases x <;> first
      | (simp [mS] at h; done)
      | exact ps_conS
  | .nev, x, X, sc, fb, O, h => ps_nevS
theorem sSs : ∀ (ss : List S) (xs : List Stmt) {X : Cx} {sc : Scope} {fb : Str → Bool}, XOk W c k X sc fb → mSs W sc fb ss xs = true → PSs X xs (tSS W.mp X.K X.w.params (exSs c ss))
  | [], xs, X, sc, fb, O, h => by
    cases xs with
    | nil => exact pss_nilS
    | cons _ _ => simp [mSs] at h
  | s :: ss, xs, X, sc, fb, O, h => by
    cases xs with
    | nil => simp [mSs] at h
    | cons x xs =>
      simp only [mSs, Bool.and_eq_true] at h
      exact pss_consS (sS s x O h.1) (sSs ss xs O h.2)
end
end
end MP

/-! A def by its body, the program by its defs. -/
namespace MP
open PySem PySem.Spec L2
def mpOf : List Bool → Nat → List Nat
  | [], _ => []
  | true :: r, i => i :: mpOf r (i + 1)
  | false :: r, i => mpOf r (i + 1)
theorem mem_mpOf : ∀ {mu : List Bool} {i t : Nat}, mu[t]? = some true → i + t ∈ mpOf mu i
  | [], _, _, h => by simp at h
  | true :: r, i, 0, h => by simp [mpOf]
  | false :: r, i, 0, h => by simp at h
  | true :: r, i, t + 1, h => by
    have := mem_mpOf (mu := r) (i := i + 1) (t := t) (by simpa using h)
    simp only [mpOf]
    exact List.mem_cons_of_mem _ (by rw [show i + (t + 1) = i + 1 + t by omega]; exact this)
  | false :: r, i, t + 1, h => by
    have := mem_mpOf (mu := r) (i := i + 1) (t := t) (by simpa using h)
    simp only [mpOf]
    rw [show i + (t + 1) = i + 1 + t by omega]; exact this
def paOf : List Ag → List V → Nat → List (Nat × Addr)
  | .m _ :: as, .ref p :: vs, i => (i, p) :: paOf as vs (i + 1)
  | _ :: as, _ :: vs, i => paOf as vs (i + 1)
  | _, _, _ => []
theorem paOf_mem : ∀ {as : List Ag} {vs : List V} {i : Nat} {q : Nat × Addr}, q ∈ paOf as vs i → ∃ t xs, q.1 = i + t ∧ as[t]? = some (Ag.m xs) ∧ vs[t]? = some (V.ref q.2)
  | [], vs, i, q, h => by simp [paOf] at h
  | a :: as, [], i, q, h => by cases a <;> simp [paOf] at h
  | .d d :: as, v :: vs, i, q, h => by
    simp only [paOf] at h
    obtain ⟨t, xs, h1, h2, h3⟩ := paOf_mem h
    exact ⟨t + 1, xs, by omega, by simpa using h2, by simpa using h3⟩
  | .m ys :: as, v :: vs, i, q, h => by
    have rc : q ∈ paOf as vs (i + 1) → ∃ t xs, q.1 = i + t ∧ (Ag.m ys :: as)[t]? = some (Ag.m xs) ∧ (v :: vs)[t]? = some (V.ref q.2) := fun h => by
      obtain ⟨t, xs, h1, h2, h3⟩ := paOf_mem h
      exact ⟨t + 1, xs, by omega, by simpa using h2, by simpa using h3⟩
    cases v <;> simp only [paOf] at h <;> first
      | exact rc h
      | (rcases List.mem_cons.mp h with rfl | h
         · exact ⟨0, ys, by simp, by simp, by simp⟩
         · exact rc h)
theorem mem_paOf : ∀ {as : List Ag} {vs : List V} {i t : Nat} {xs : List D} {p : Addr}, as[t]? = some (Ag.m xs) → vs[t]? = some (V.ref p) → (i + t, p) ∈ paOf as vs i
  | [], vs, i, t, xs, p, h, _ => by simp at h
  | a :: as, [], i, t, xs, p, _, h => by simp at h
  | a :: as, v :: vs, i, 0, xs, p, h1, h2 => by
    simp at h1 h2; subst h1 h2; simp [paOf]
  | a :: as, v :: vs, i, t + 1, xs, p, h1, h2 => by
    have := mem_paOf (as := as) (vs := vs) (i := i + 1) (t := t) (xs := xs) (p := p) (by simpa using h1) (by simpa using h2)
    rw [show i + (t + 1) = i + 1 + t by omega]
    cases a with
    | d _ => simpa only [paOf] using this
    | m _ => cases v <;> simp only [paOf] <;> first
      | exact this
      | exact List.mem_cons_of_mem _ this
theorem fits_len : ∀ {mu : List Bool} {as : List Ag}, fitsA mu as = true → as.length = mu.length
  | [], [], _ => rfl
  | [], _ :: _, h => by simp [fitsA] at h
  | true :: _, [], h => by simp [fitsA] at h
  | false :: _, [], h => by simp [fitsA] at h
  | true :: r, .m _ :: as, h => by simp only [fitsA] at h; simp [fits_len h]
  | false :: r, .d _ :: as, h => by simp only [fitsA] at h; simp [fits_len h]
  | true :: r, .d _ :: as, h => by simp [fitsA] at h
  | false :: r, .m _ :: as, h => by simp [fitsA] at h
theorem fits_at : ∀ {mu : List Bool} {as : List Ag} {i : Nat} {xs : List D}, fitsA mu as = true → as[i]? = some (Ag.m xs) → mu[i]? = some true
  | [], [], _, _, _, h => by simp at h
  | [], _ :: _, _, _, h, _ => by simp [fitsA] at h
  | true :: _, [], _, _, h, _ => by simp [fitsA] at h
  | false :: _, [], _, _, h, _ => by simp [fitsA] at h
  | true :: r, .m _ :: as, 0, _, _, _ => rfl
  | false :: r, .d _ :: as, 0, _, _, h => by simp at h
  | true :: r, .m _ :: as, i + 1, _, h, q => by simp only [fitsA] at h; simpa using fits_at (i := i) h (by simpa using q)
  | false :: r, .d _ :: as, i + 1, _, h, q => by simp only [fitsA] at h; simpa using fits_at (i := i) h (by simpa using q)
  | true :: r, .d _ :: as, _, _, h, _ => by simp [fitsA] at h
  | false :: r, .m _ :: as, _, _, h, _ => by simp [fitsA] at h
theorem outs_len : ∀ {mu : List Bool} {e : Env} {os : List Ag}, outsOf mu e = some os → os.length = mu.length
  | [], _, _, h => by simp only [outsOf] at h; cases h; rfl
  | true :: _, [], _, h => by simp [outsOf] at h
  | false :: _, [], _, h => by simp [outsOf] at h
  | false :: r, _ :: e, _, h => by
    simp only [outsOf, Option.map_eq_some_iff] at h
    obtain ⟨o, h1, h2⟩ := h
    subst h2; simp [outs_len h1]
  | true :: r, .own _ :: e, _, h => by
    simp only [outsOf, Option.map_eq_some_iff] at h
    obtain ⟨o, h1, h2⟩ := h
    subst h2; simp [outs_len h1]
  | true :: r, .no :: e, _, h => by simp [outsOf] at h
  | true :: r, .val d :: e, _, h => by
    cases d <;> simp only [outsOf, Option.map_eq_some_iff] at h <;> try (cases h; done)
    obtain ⟨o, h1, h2⟩ := h
    subst h2; simp [outs_len h1]
theorem outs_at : ∀ {mu : List Bool} {e : Env} {os : List Ag} {i : Nat}, outsOf mu e = some os → mu[i]? = some true → (∃ xs, sv e i = .own xs ∧ os[i]? = some (Ag.m xs)) ∨ ∃ xs, sv e i = .val (.lst xs) ∧ os[i]? = some (Ag.d (.lst xs))
  | [], _, _, _, _, h => by simp at h
  | true :: _, [], _, _, h, _ => by simp [outsOf] at h
  | false :: _, [], _, _, h, _ => by simp [outsOf] at h
  | false :: r, _ :: e, _, i, h, q => by
    simp only [outsOf, Option.map_eq_some_iff] at h
    obtain ⟨o, h1, h2⟩ := h
    subst h2
    cases i with
    | zero => simp at q
    | succ i => simpa [sv] using outs_at (i := i) h1 (by simpa using q)
  | true :: r, .own xs :: e, _, i, h, q => by
    simp only [outsOf, Option.map_eq_some_iff] at h
    obtain ⟨o, h1, h2⟩ := h
    subst h2
    cases i with
    | zero => exact .inl ⟨xs, rfl, rfl⟩
    | succ i => simpa [sv] using outs_at (i := i) h1 (by simpa using q)
  | true :: r, .no :: e, _, _, h, _ => by simp [outsOf] at h
  | true :: r, .val d :: e, _, i, h, q => by
    cases d <;> simp only [outsOf, Option.map_eq_some_iff] at h <;> try (cases h; done)
    obtain ⟨o, h1, h2⟩ := h
    subst h2
    cases i with
    | zero => exact .inr ⟨_, rfl, rfl⟩
    | succ i => simpa [sv] using outs_at (i := i) h1 (by simpa using q)
theorem sv_pad : ∀ (n i : Nat), sv (pad n) i = .no
  | 0, i => by simp [pad, sv]
  | n + 1, 0 => rfl
  | n + 1, i + 1 => sv_pad n i
theorem pad_len : ∀ n, (pad n).length = n
  | 0 => rfl
  | n + 1 => by simp [pad, pad_len n]
theorem startE_len : ∀ as : List Ag, (startE as).length = as.length
  | [] => rfl
  | .d _ :: r => by simp [startE, startE_len r]
  | .m _ :: r => by simp [startE, startE_len r]
theorem sv_start : ∀ (as : List Ag) (n i : Nat), sv (startE as ++ pad n) i = match as[i]? with
    | some a => svOf a
    | none => .no
  | [], n, i => by simp [startE, sv_pad]
  | .d _ :: r, n, 0 => rfl
  | .m _ :: r, n, 0 => rfl
  | .d _ :: r, n, i + 1 => by simpa [startE, sv] using sv_start r n i
  | .m _ :: r, n, i + 1 => by simpa [startE, sv] using sv_start r n i
section
variable {K : PySem.W.Frag} {P : Params} {G H : Hp}
def baseOf (mu : List Bool) (as : List Ag) (vs : List V) (G H : Hp) (hf : fitsA mu as = true) : Base (mpOf mu 0) where
  G0 := G
  H0 := H
  M0 := MutA as vs
  pa := paOf as vs 0
  pm := fun q hq => by
    obtain ⟨t, xs, h1, h2, _⟩ := paOf_mem hq
    rw [h1]; exact mem_mpOf (fits_at hf h2)
theorem agree_start {mu : List Bool} {as : List Ag} {vs : List V} {N : List Str} (hf : fitsA mu as = true) (s : Same G H) (l : AgL K P G H as vs)
    (dis : ∀ (i j : Nat) (p : Addr) (xs ys : List D), as[i]? = some (Ag.m xs) → as[j]? = some (Ag.m ys) → vs[i]? = some (V.ref p) → vs[j]? = some (V.ref p) → i = j) :
    Agree K P (baseOf mu as vs G H hf) G H (L2.start N vs) (startE as ++ pad (N.length - as.length)) := by
  have hl := l.len
  have hσ : ∀ {i : Nat} {v : V}, vs[i]? = some v → (L2.start N vs)[i]? = some (some v) := by
    intro i v h
    have hi : i < vs.length := by
      by_cases q : i < vs.length
      · exact q
      · rw [List.getElem?_eq_none (by omega)] at h; cases h
    unfold L2.start
    rw [List.getElem?_append_left (by simpa using hi), List.getElem?_map, h]; rfl
  have at' : ∀ {i : Nat} {x : SV}, sv (startE as ++ pad (N.length - as.length)) i = x → x ≠ .no → ∃ a, as[i]? = some a ∧ svOf a = x := by
    intro i x h n
    rw [sv_start] at h
    split at h
    · rename_i a ha; exact ⟨a, ha, h⟩
    · exact absurd h.symm n
  refine ⟨s, ?_, fun i d q => ?_, fun i xs q => ?_, fun i j p xs ys q1 q2 h1 h2 => ?_, .refl _, fun a o q _ => q, fun a o q => .inl ⟨o, q⟩, fun q hq => ?_⟩
  · unfold L2.start
    rw [List.length_append, List.length_append, startE_len, pad_len, List.length_map, List.length_replicate, hl]
  · obtain ⟨a, h1, h2⟩ := at' q (fun z => nomatch z)
    cases a with
    | m _ => cases h2
    | d d' =>
      cases h2
      obtain ⟨v, h3, h4⟩ := l.get h1
      exact ⟨v, hσ h3, h4⟩
  · obtain ⟨a, h1, h2⟩ := at' q (fun z => nomatch z)
    cases a with
    | d _ => cases h2
    | m ys =>
      cases h2
      obtain ⟨v, h3, p, ws, rfl, h5, h6, h7⟩ := l.get h1
      exact ⟨p, ws, hσ h3, h5, h6, h7, .inl ⟨i, xs, h1, h3⟩⟩
  · obtain ⟨a, a1, a2⟩ := at' q1 (fun z => nomatch z)
    obtain ⟨b, b1, b2⟩ := at' q2 (fun z => nomatch z)
    cases a with
    | d _ => cases a2
    | m _ => cases b with
      | d _ => cases b2
      | m _ =>
        obtain ⟨v, h3, p', ws, rfl, _⟩ := l.get a1
        obtain ⟨v', h3', p'', ws', rfl, _⟩ := l.get b1
        have e1 := ref_inj ((hσ h3).symm.trans h1)
        have e2 := ref_inj ((hσ h3').symm.trans h2)
        subst e1 e2
        exact dis i j _ _ _ a1 b1 h3 h3'
  · obtain ⟨t, xs, h1, h2, h3⟩ := paOf_mem hq
    rw [h1, Nat.zero_add]; exact hσ h3
/-- behind the body: what the caller has -/
theorem post_of {mu : List Bool} {as : List Ag} {vs : List V} {hf : fitsA mu as = true} {G' H' : Hp} {σ : St} {e : Env} {outs : List Ag} {r : R} {v : V} (A : Agree K P (baseOf mu as vs G H hf) G' H' σ e) (ho : outsOf mu e = some outs)
    (hr : match r with | .d d => Is K P G' d v | .fresh xs => ∃ p ws, v = .ref p ∧ H' p = some (.lst ws) ∧ G' p = none ∧ IsL K P G' xs ws ∧ H p = none | .slot _ => False) : Post K P G H as vs r outs v G' H' where
  g := A.g0
  same := A.same
  frame := A.frame
  new := A.new
  len := by rw [outs_len ho, fits_len hf]
  outs := fun i p xs h1 h2 => by
    have pin := A.pins (0 + i, p) (mem_paOf h1 h2)
    replace pin : σ[0 + i]? = some (some (V.ref p)) := pin
    rw [Nat.zero_add] at pin
    rcases outs_at ho (fits_at hf h1) with ⟨ys, q1, q2⟩ | ⟨ys, q1, q2⟩
    · obtain ⟨p', ws, a1, a2, a3, a4, _⟩ := A.own i ys q1
      have := ref_inj (a1.symm.trans pin)
      subst this
      exact .inl ⟨ys, ws, q2, a2, a3, a4⟩
    · obtain ⟨u, a1, a2⟩ := A.val i _ q1
      rw [pin] at a1
      cases a1
      exact .inr ⟨_, q2, a2⟩
  res := hr
/-- a changing parameter's list is no new one -/
theorem not_mut {mu : List Bool} {as : List Ag} {vs : List V} {hf : fitsA mu as = true} {G' H' : Hp} {σ : St} {e : Env} {outs : List Ag} {p : Addr} (A : Agree K P (baseOf mu as vs G H hf) G' H' σ e) (ho : outsOf mu e = some outs) (g : G' p = none) (m : MutA as vs p) :
    ∃ i ys, i < as.length ∧ sv e i = .own ys ∧ σ[i]? = some (some (V.ref p)) := by
  obtain ⟨i, xs, h1, h2⟩ := m
  have pin := A.pins (0 + i, p) (mem_paOf h1 h2)
  replace pin : σ[0 + i]? = some (some (V.ref p)) := pin
  rw [Nat.zero_add] at pin
  have hi : i < as.length := by
    by_cases q : i < as.length
    · exact q
    · rw [List.getElem?_eq_none (by omega)] at h1; cases h1
  rcases outs_at ho (fits_at hf h1) with ⟨ys, q1, q2⟩ | ⟨ys, q1, q2⟩
  · exact ⟨i, ys, hi, q1, pin⟩
  · obtain ⟨u, a1, a2⟩ := A.val i _ q1
    rw [pin] at a1
    cases a1
    obtain ⟨p', ws, e1, e2, _⟩ := a2
    cases e1
    rw [g] at e2; cases e2

variable {w : World} {Pr : Program} {mg : Str → Option Value} {base : Heap}
/-- a def of the module, as it stands -/
structure DefOk (K : PySem.W.Frag) (mg : Str → Option Value) (f : Fd) (st : Stmt) : Prop where
  ex : ∃ fa fd, mg f.name = some (.ref fa) ∧ Fun K f.name f.name st fa fd ∧ Binds K fd f.ps []
def GlobsOk (K : PySem.W.Frag) (P : Params) (mg : Str → Option Value) (gl : List (Str × D)) : Prop := ∀ x d, findG x gl = some d → ∃ u v, mg x = some u ∧ RelV v u ∧ ∀ G, Is K P G d v
def fsOf : List Fd → List (Str × List Bool)
  | [] => []
  | f :: r => (f.name, f.mu) :: fsOf r
def mFd (bn : List String) (fs : List (Str × List Bool)) (f : Fd) (st : Stmt) : Bool :=
  C8.scC f.N f.ps (defScope st) && mSs ⟨f.N, mpOf f.mu 0, bn, fs⟩ (defScope st) (fun _ => true) f.body (defBody st) && decide (f.mu.length = f.ps.length)
/-- all that is known of the defs at a depth -/
def AllOk (Pr : Program) (w : World) (K : PySem.W.Frag) (mg : Str → Option Value) (base : Heap) (p : Prog) (k : Nat) : Prop := ∀ f fl, findFl f (fsOf p.defs) = some fl →
  ∃ fa fd ps, mg f = some (.ref fa) ∧ PySem.W.keepIn K (.ref fa) = true ∧ Binds K fd ps [] ∧ FnOk Pr w K mg base CX0 k fa fd ps (SpF K w.params (p.call k f))
theorem fn_step {p : Prog} {k : Nat} {f : Fd} {st : Stmt} {bn : List String} {fa : Addr} {fd : FuncData} (F : Fun K f.name f.name st fa fd) (hm : mFd bn (fsOf p.defs) f st = true) (hd : findFd f.name p.defs = some f)
    (hb : ∀ x ∈ bn, mg (Str.ofString x) = none) (hg : GlobsOk K w.params mg p.globs) (all : AllOk Pr w K mg base p k) : FnOk Pr w K mg base CX0 (k + 1) fa fd f.ps (SpF K w.params (p.call (k + 1) f.name)) := by
  simp only [mFd, Bool.and_eq_true, decide_eq_true_eq] at hm
  obtain ⟨⟨h1, h2⟩, h3⟩ := hm
  have S := C8.fnScope_by h1
  have run : ∀ {as : List Ag} {r : R} {outs : List Ag}, p.call (k + 1) f.name as = some (r, outs) → fitsA f.mu as = true ∧ ∃ o e, exSs (p.ctx k) f.body (startE as ++ pad (f.N.length - as.length)) = some (o, e) ∧
      ((o = .nx ∧ outsOf f.mu e = some outs ∧ r = .d .non) ∨ ∃ r0 e2, o = .rt r0 ∧ retR as.length r0 e = some (r, e2) ∧ outsOf f.mu e2 = some outs) := by
    intro as r outs h
    unfold Prog.call at h
    rw [hd] at h
    simp only [runFd] at h
    split at h
    · rename_i hc
      simp only [Bool.and_eq_true, decide_eq_true_eq] at hc
      have hl : as.length = f.ps.length := by rw [fits_len hc.1, hc.2]
      refine ⟨hc.1, ?_⟩
      rw [hl]
      split at h
      · rename_i e he
        simp only [Option.map_eq_some_iff] at h
        obtain ⟨o, q1, q2⟩ := h
        cases q2
        exact ⟨.nx, e, he, .inl ⟨rfl, q1, rfl⟩⟩
      · rename_i r0 e he
        split at h
        · cases h
        · rename_i r1 e1 hr
          simp only [Option.map_eq_some_iff] at h
          obtain ⟨o, q1, q2⟩ := h
          cases q2
          exact ⟨.rt r0, e, he, .inr ⟨r0, e1, rfl, hr, q1⟩⟩
      · cases h
    · cases h
  refine F.ok S (fun vs H Q E h => ?_) (fun cdv A outer s H vs Q E hr h => ?_)
  · obtain ⟨G, as, r, outs, s, l, _, hc, _⟩ := h
    rw [← l.len, fits_len (run hc).1, h3]
  · obtain ⟨G, as, r, outs, s', l, dis, hc, q⟩ := h
    obtain ⟨hf, o, e, he, ho⟩ := run hc
    have O : XOk ⟨f.N, mpOf f.mu 0, bn, fsOf p.defs⟩ (p.ctx k) k (cxOf CX0 Pr w K mg base f.N f.name (defScope st) fa cdv A outer s H E).nox (defScope st) (fun _ => true) :=
      { N := rfl, nd := S.nd, scq := rfl, kind := S.kind, fn := rfl, calm := rfl, room := hr, xe := rfl, bn := hb, glob := hg, call := all }
    refine ⟨_, sSs f.body (defBody st) O h2, baseOf f.mu as vs G H hf, G, _, o, e, agree_start hf s' l dis, he, ?_⟩
    rcases ho with ⟨rfl, q1, rfl⟩ | ⟨r0, e2, rfl, q1, q2⟩
    · intro σ' G' H' sm A'
      exact q _ G' H' (post_of A' q1 rfl)
    · intro v σ' G' H' sm A' ri
      show Q v H'
      cases r0 with
      | d d =>
        simp only [retR, M.ret] at q1
        cases q1
        exact q _ G' H' (post_of A' q2 ri)
      | fresh xs =>
        simp only [retR, M.ret] at q1
        cases q1
        obtain ⟨p', ws, rfl, a2, a3, a4, a5, a6⟩ := ri
        refine q _ G' H' (post_of A' q2 ⟨p', ws, rfl, a2, a3, a4, ?_⟩)
        rcases a5 with a5 | a5
        · obtain ⟨i, ys, _, b2, b3⟩ := not_mut A' q2 a3 a5
          exact absurd b3 (a6 i ys b2)
        · exact a5
      | slot i =>
        simp only [retR] at q1
        split at q1
        · replace q1 := bd_some q1; obtain ⟨d, e1, c1, q1⟩ := q1
          simp only [M.ret] at q1
          cases q1
          obtain ⟨G2, s2, A2, is⟩ := A'.cap ri c1
          exact q _ G2 H' (post_of A2 q2 is)
        · rename_i hi
          obtain ⟨ri, xs, hx⟩ := ri
          rw [hx] at q1
          simp only at q1
          cases q1
          have A2 := A'.forget i
          obtain ⟨p', ws, a1, a2, a3, a4, a5⟩ := A'.own i xs hx
          have ev : v = .ref p' := by rw [ri] at a1; cases a1; rfl
          subst ev
          refine q _ G' H' (post_of A2 q2 ⟨p', ws, rfl, a2, a3, a4, ?_⟩)
          rcases a5 with a5 | a5
          · obtain ⟨j, ys, b1, b2, b3⟩ := not_mut A2 q2 a3 a5
            rw [sv_st] at b2
            split at b2
            · cases b2
            · have := A'.dis i j p' xs ys hx b2 a1 b3
              omega
          · exact a5
theorem findFl_mem : ∀ {ds : List Fd} {x : Str} {fl : List Bool}, findFl x (fsOf ds) = some fl → ∃ f ∈ ds, f.name = x
  | [], _, _, h => by simp [fsOf, findFl] at h
  | f :: r, x, fl, h => by
    simp only [fsOf, findFl] at h
    split at h
    · rename_i e; exact ⟨f, List.mem_cons_self, e.symm⟩
    · obtain ⟨g, h1, h2⟩ := findFl_mem h; exact ⟨g, List.mem_cons_of_mem _ h1, h2⟩
theorem findFd_nd : ∀ {ds : List Fd} {f : Fd}, (ds.map (·.name)).Nodup → f ∈ ds → findFd f.name ds = some f
  | [], _, _, h => by simp at h
  | g :: r, f, nd, h => by
    simp only [List.map_cons, List.nodup_cons] at nd
    unfold findFd
    rcases List.mem_cons.mp h with rfl | h
    · rw [if_pos rfl]
    · rw [if_neg (fun e => nd.1 (by rw [← e]; exact List.mem_map_of_mem h))]
      exact findFd_nd nd.2 h
/-- the program's defs with their texts: the check, the facts -/
structure ProgOk (K : PySem.W.Frag) (P : Params) (mg : Str → Option Value) (p : Prog) (sts : List Stmt) (bn : List String) : Prop where
  len : p.defs.length = sts.length
  nd : (p.defs.map (·.name)).Nodup
  chk : ∀ q ∈ p.defs.zip sts, mFd bn (fsOf p.defs) q.1 q.2 = true
  fn : ∀ q ∈ p.defs.zip sts, DefOk K mg q.1 q.2
  bn : ∀ x ∈ bn, mg (Str.ofString x) = none
  gl : GlobsOk K P mg p.globs
theorem ProgOk.all {p : Prog} {sts : List Stmt} {bn : List String} (O : ProgOk K w.params mg p sts bn) : ∀ k, AllOk Pr w K mg base p k
  | k, x, fl, h => by
    obtain ⟨f, hf, rfl⟩ := findFl_mem h
    obtain ⟨i, hi, e⟩ := List.getElem_of_mem hf
    have hz : (f, sts[i]'(by rw [← O.len]; exact hi)) ∈ p.defs.zip sts := by
      rw [List.mem_iff_getElem]
      exact ⟨i, by simp [← O.len, hi], by simp [e]⟩
    obtain ⟨fa, fd, a1, a2, a3⟩ := (O.fn _ hz).ex
    refine ⟨fa, fd, f.ps, a1, a2.kp, a3, ?_⟩
    match k with
    | 0 =>
      refine ⟨fun vs H Q E q => ?_, fun A outer s H args us vs Q E _ _ _ _ q => ?_⟩
      · obtain ⟨G, as, r, outs, _, _, _, hc, _⟩ := q
        simp [Prog.call] at hc
      · obtain ⟨G, as, r, outs, _, _, _, hc, _⟩ := q
        simp [Prog.call] at hc
    | k + 1 => exact fn_step a2 (O.chk _ hz) (findFd_nd O.nd hf) O.bn O.gl (O.all k)
/-- a law: handed the script, it hands back True -/
def spLaw (K : PySem.W.Frag) : Sp := fun vs H Q _ => ∃ (a : Addr) (ns : List Int), vs = [.ref a] ∧ SqL K H a (ns.map V.int) ∧ ns.length ≤ 63 ∧ ∀ H', Q (.bl true) H'
def script (ns : List Int) : List Ag := [.d (.frz (ns.map D.int))]
theorem isL_ints {G : Hp} : ∀ ns : List Int, IsL K P G (ns.map D.int) (ns.map V.int)
  | [] => rfl
  | i :: r => ⟨_, _, rfl, rfl, isL_ints r⟩
theorem law_ok {p : Prog} {sts : List Stmt} {bn : List String} {k : Nat} {x : Str} {fl : List Bool} (O : ProgOk K w.params mg p sts bn) (hx : findFl x (fsOf p.defs) = some fl)
    (math : ∀ ns : List Int, ns.length ≤ 63 → ∃ os, p.call k x (script ns) = some (.d (.bl true), os)) :
    ∃ fa fd ps, mg x = some (.ref fa) ∧ Binds K fd ps [] ∧ FnOk Pr w K mg base CX0 k fa fd ps (spLaw K) := by
  obtain ⟨fa, fd, ps, a1, a2, a3, a4⟩ := O.all (Pr := Pr) (base := base) k x fl hx
  refine ⟨fa, fd, ps, a1, a3, a4.imp fun vs H Q E q => ?_⟩
  obtain ⟨a, ns, rfl, hS, hl, q⟩ := q
  obtain ⟨os, hc⟩ := math ns hl
  refine ⟨H, script ns, _, os, .refl _, .cons (show AgI K w.params H H (.d (.frz (ns.map D.int))) (.ref a) from ⟨a, _, rfl, hS, isL_ints ns⟩) .nil, fun i j p xs ys h1 h2 _ _ => ?_, hc, fun v G' H' po => ?_⟩
  · cases i <;> simp [script] at h1
  · have := po.res
    rw [show v = .bl true from this]
    exact q H'
/-- the law's own def -/
theorem law_fn {p : Prog} {sts : List Stmt} {bn : List String} {k : Nat} {f : Fd} {st : Stmt} {fa : Addr} {fd : FuncData} (F : Fun K f.name f.name st fa fd) (O : ProgOk K w.params mg p sts bn) (hm : (f, st) ∈ p.defs.zip sts) (hps : f.ps.length = 1)
    (math : ∀ ns : List Int, ns.length ≤ 63 → ∃ os, p.call (k + 1) f.name (script ns) = some (.d (.bl true), os)) : FnOk Pr w K mg base CX0 (k + 1) fa fd f.ps (spLaw K) := by
  have hf : f ∈ p.defs := (List.of_mem_zip hm).1
  refine (fn_step F (O.chk _ hm) (findFd_nd O.nd hf) O.bn O.gl (O.all k)).imp fun vs H Q E q => ?_
  obtain ⟨a, ns, rfl, hS, hl, q⟩ := q
  obtain ⟨os, hc⟩ := math ns hl
  refine ⟨H, script ns, _, os, .refl _, .cons (show AgI K w.params H H (.d (.frz (ns.map D.int))) (.ref a) from ⟨a, _, rfl, hS, isL_ints ns⟩) .nil, fun i j p xs ys h1 h2 _ _ => ?_, hc, fun v G' H' po => ?_⟩
  · cases i <;> simp [script] at h1
  · have := po.res
    rw [show v = .bl true from this]
    exact q H'
end
end MP

/-! Running the interpreter by simp [MP.exSs, MP.evT, MP.evTA, MP.evTO, MP.evTs, MP.evAnd, MP.evOr, MP.evDs, MP.evOs, MP.evAs, MP.evP, MP.evI, MP.lks, MP.M.bd, MP.M.ret, MP.lk, MP.lift, MP.unf, MP.look, MP.cap, MP.guard, MP.sv, MP.st, MP.tru, MP.cmpD, MP.ordD, MP.binD, MP.startE, MP.pad, MP.fitsA, MP.outsOf, MP.retR, MP.stoR, MP.onOwn, MP.onSlot, MP.augV, MP.bindT, MP.bindTs, MP.putOuts, MP.inD, MP.isD, MP.runFd]. -/
namespace MP
open PySem
@[simp] theorem ctx_call (p : Prog) (k : Nat) : (p.ctx k).call = p.call k := rfl
@[simp] theorem ctx_glob (p : Prog) (k : Nat) (y : Str) : (p.ctx k).glob y = findG y p.globs := rfl
@[simp] theorem ctx_fuel (p : Prog) (k : Nat) : (p.ctx k).fuel = p.fuel := rfl
section
variable (c : Ctx)
@[simp] theorem evE_var (i : Nat) : evE c (.var i) = fun e => match sv e i with
    | .no => none
    | .val d => some (.d d, e)
    | .own _ => some (.slot i, e) := by first | (simp only [evE]; done) | (simp only [evE]; rfl)
@[simp] theorem evE_cst (d : D) : evE c (.cst d) = M.ret (.d d) := by first | (simp only [evE]; done) | (simp only [evE]; rfl)
@[simp] theorem evE_glo (x : Str) : evE c (.glo x) = fun e => match c.glob x with
    | none => none
    | some d => some (.d d, e) := by first | (simp only [evE]; done) | (simp only [evE]; rfl)
@[simp] theorem evE_bin (op : Operator) (a b : E) : evE c (.bin op a b) = M.bd (evE c a) fun x => M.bd (evE c b) fun y => M.bd (lk (unf x)) fun dx => M.bd (lk y) fun dy => lift (binD op dx dy) := by first | (simp only [evE]; done) | (simp only [evE]; rfl)
@[simp] theorem evE_neg (a : E) : evE c (.neg a) = M.bd (evE c a) fun x => M.bd (lk x) fun dx => lift (match dx with
    | .int i => some (.d (.int (-i)))
    | _ => none) := by first | (simp only [evE]; done) | (simp only [evE]; rfl)
@[simp] theorem evE_not (a : E) : evE c (.not a) = M.bd (evE c a) fun x => M.bd (lk x) fun dx => lift ((tru dx).map fun b => .d (.bl (!b))) := by first | (simp only [evE]; done) | (simp only [evE]; rfl)
@[simp] theorem evE_cmp (op : CmpOp) (a b : E) : evE c (.cmp op a b) = M.bd (evE c a) fun x => M.bd (evE c b) fun y => M.bd (lk (unf x)) fun dx => M.bd (lk y) fun dy => lift ((cmpD op dx dy).map fun b => .d (.bl b)) := by first | (simp only [evE]; done) | (simp only [evE]; rfl)
@[simp] theorem evE_chn (op op' : CmpOp) (a b d : E) : evE c (.chn op op' a b d) = M.bd (evE c a) fun x => M.bd (evE c b) fun y => M.bd (lk (unf x)) fun dx => M.bd (lk (unf y)) fun dy => M.bd (lift (cmpD op dx dy)) fun k =>
      if k then M.bd (evE c d) fun z => M.bd (lk (unf y)) fun dy => M.bd (lk z) fun dz => lift ((cmpD op' dy dz).map fun b => .d (.bl b)) else M.ret (.d (.bl false)) := by first | (simp only [evE]; done) | (simp only [evE]; rfl)
@[simp] theorem evE_and (es : List E) : evE c (.and es) = evAnd c es := by first | (simp only [evE]; done) | (simp only [evE]; rfl)
@[simp] theorem evE_or (es : List E) : evE c (.or es) = evOr c es := by first | (simp only [evE]; done) | (simp only [evE]; rfl)
@[simp] theorem evE_ite (t a b : E) : evE c (.ite t a b) = M.bd (evT c t) fun k => if k then evE c a else evE c b := by first | (simp only [evE]; done) | (simp only [evE]; rfl)
@[simp] theorem evE_lst (es : List E) : evE c (.lst es) = M.bd (evDs c es) fun ds => M.bd (guard (decide (ds.length ≤ LIM))) fun _ => M.ret (.fresh ds) := by first | (simp only [evE]; done) | (simp only [evE]; rfl)
@[simp] theorem evE_tup (es : List E) : evE c (.tup es) = M.bd (evDs c es) fun ds => M.bd (guard (decide (ds.length ≤ LIM))) fun _ => M.ret (.d (.tup ds)) := by first | (simp only [evE]; done) | (simp only [evE]; rfl)
@[simp] theorem evE_idx (a b : E) : evE c (.idx a b) = M.bd (evE c a) fun x => M.bd (evE c b) fun y => M.bd (lk (unf x)) fun dx => M.bd (lk y) fun dy => lift ((idxD dx dy).map fun d => .d d) := by first | (simp only [evE]; done) | (simp only [evE]; rfl)
@[simp] theorem evE_sli (a : E) (lo hi : Option E) : evE c (.sli a lo hi) = M.bd (evE c a) fun x => M.bd (evP c lo) fun l => M.bd (evP c hi) fun h => M.bd (lk (unf x)) fun dx => lift (sliD l h dx) := by first | (simp only [evE]; done) | (simp only [evE]; rfl)
@[simp] theorem evE_cal (f : Str) (ms : List (Option Nat)) (es : List E) : evE c (.cal f ms es) = M.bd (evAs c ms es) fun as => fun e => match c.call f as with
    | none => none
    | some (r, outs) => match putOuts ms outs e with
      | none => none
      | some e' => some (r, e') := by first | (simp only [evE]; done) | (simp only [evE]; rfl)
@[simp] theorem evE_blt (f : String) (es : List E) : evE c (.blt f es) = M.bd (evOs c es) fun rs => M.bd (lks rs) fun ds => lift (bltD f ds) := by first | (simp only [evE]; done) | (simp only [evE]; rfl)
@[simp] theorem evE_met (m : String) (o : E) (es : List E) : evE c (.met m o es) = M.bd (evE c o) fun x => M.bd (cap x) fun dx => M.bd (evOs c es) fun rs => M.bd (lks rs) fun ds => lift (metD m dx ds) := by first | (simp only [evE]; done) | (simp only [evE]; rfl)
@[simp] theorem exS_exp (a : E) : exS c (.exp a) = M.bd (evE c a) fun _ => M.ret .nx := by first | (simp only [exS]; done) | (simp only [exS]; rfl)
@[simp] theorem exS_asg (i : Nat) (a : E) : exS c (.asg (.nam i) a) = M.bd (evE c a) fun x => stoR i x := by first | (simp only [exS]; done) | (simp only [exS]; rfl)
@[simp] theorem exS_asgT (ts : List T) (a : E) : exS c (.asg (.tup ts) a) = M.bd (evE c a) fun x => M.bd (cap x) fun d => fun e => match bindT (.tup ts) d e with
    | none => none
    | some e' => some (.nx, e') := by first | (simp only [exS]; done) | (simp only [exS]; rfl)
@[simp] theorem exS_par (i j : Nat) (a b : E) : exS c (.par i j a b) = M.bd (evE c a) fun x => M.bd (evE c b) fun y => fun e => match x, y with
    | .fresh xs, .d d => some (.nx, st (st e i (.own xs)) j (.val d))
    | .d d, .fresh ys => some (.nx, st (st e i (.val d)) j (.own ys))
    | .d d, .d d' => some (.nx, st (st e i (.val d)) j (.val d'))
    | .fresh xs, .fresh ys => some (.nx, st (st e i (.own xs)) j (.own ys))
    | _, _ => none := by first | (simp only [exS]; done) | (simp only [exS]; rfl)
@[simp] theorem exS_aug (i : Nat) (op : Operator) (a : E) : exS c (.aug i op a) = fun e0 => match sv e0 i with
    | .val d0 => (M.bd (evE c a) fun y => M.bd (lk y) fun dy => M.bd (lift (match d0 with
        | .lst _ => none
        | _ => binD op d0 dy)) fun r => stoR i r) e0
    | _ => none := by first | (simp only [exS]; done) | (simp only [exS]; rfl)
@[simp] theorem exS_sto (x : Nat) (i a : E) : exS c (.sto x i a) = M.bd (evE c a) fun v => M.bd (cap v) fun d => fun e0 => match sv e0 x with
    | .own _ => M.bd (evE c i) (fun k => M.bd (lk k) fun dk => onOwn x fun xs => match dk with
      | .int k => setAt xs k d
      | _ => none) e0
    | _ => none := by first | (simp only [exS]; done) | (simp only [exS]; rfl)
@[simp] theorem exS_augS (x : Nat) (i : E) (op : Operator) (a : E) : exS c (.augS x i op a) = fun e0 => match sv e0 x with
    | .own _ => M.bd (evE c i) (fun k => M.bd (lk k) fun dk => M.bd (onSlot x fun xs => idxD (.lst xs) dk) fun old => M.bd (evE c a) fun y => M.bd (lk y) fun dy => M.bd (lift (augV op old dy)) fun d => onOwn x fun ys => match dk with
      | .int k => setAt ys k d
      | _ => none) e0
    | _ => none := by first | (simp only [exS]; done) | (simp only [exS]; rfl)
@[simp] theorem exS_app (x : Nat) (a : E) : exS c (.app x a) = fun e0 => match sv e0 x with
    | .own _ => M.bd (evE c a) (fun v => M.bd (cap v) fun d => onOwn x fun xs => if xs.length < LIM then some (xs ++ [d]) else none) e0
    | _ => none := by first | (simp only [exS]; done) | (simp only [exS]; rfl)
@[simp] theorem exS_ifs (t : E) (a b : List S) : exS c (.ifs t a b) = M.bd (evT c t) fun k => if k then exSs c a else exSs c b := by first | (simp only [exS]; done) | (simp only [exS]; rfl)
@[simp] theorem exS_ret0 : exS c (.ret none) = M.ret (.rt (.d .non)) := by first | (simp only [exS]; done) | (simp only [exS]; rfl)
@[simp] theorem exS_ret (a : E) : exS c (.ret (some a)) = M.bd (evE c a) fun r => M.ret (.rt r) := by first | (simp only [exS]; done) | (simp only [exS]; rfl)
@[simp] theorem exS_pas : exS c .pas = M.ret .nx := by first | (simp only [exS]; done) | (simp only [exS]; rfl)
@[simp] theorem exS_brk : exS c .brk = M.ret .bk := by first | (simp only [exS]; done) | (simp only [exS]; rfl)
@[simp] theorem exS_con : exS c .con = M.ret .ct := by first | (simp only [exS]; done) | (simp only [exS]; rfl)
end
theorem len_str {s : List Nat} (h : s.length ≤ LIM) : bltD "len" [.str s] = some (.d (.int s.length)) := by
  unfold bltD
  rw [if_pos rfl]
  exact if_pos h
@[simp] theorem len_lst (xs : List D) : bltD "len" [.lst xs] = some (.d (.int xs.length)) := by
  unfold bltD
  rw [if_pos rfl]
@[simp] theorem len_tup (xs : List D) : bltD "len" [.tup xs] = some (.d (.int xs.length)) := by
  unfold bltD
  rw [if_pos rfl]
@[simp] theorem len_frz (xs : List D) : bltD "len" [.frz xs] = some (.d (.int xs.length)) := by
  unfold bltD
  rw [if_pos rfl]
@[simp] theorem int_int (i : Int) : bltD "int" [.int i] = some (.d (.int i)) := by
  unfold bltD
  rw [if_neg (by decide), if_pos rfl]
@[simp] theorem int_bl (b : Bool) : bltD "int" [.bl b] = some (.d (.int (if b then 1 else 0))) := by
  unfold bltD
  rw [if_neg (by decide), if_pos rfl]
@[simp] theorem sum_lst (xs : List D) : bltD "sum" [.lst xs] = (intsD xs).map fun ns => .d (.int ns.sum) := by
  unfold bltD
  rw [if_neg (by decide), if_neg (by decide), if_pos rfl]
@[simp] theorem list_lst (xs : List D) : bltD "list" [.lst xs] = some (.fresh xs) := by
  unfold bltD
  rw [if_neg (by decide), if_neg (by decide), if_neg (by decide), if_pos rfl]
@[simp] theorem list_tup (xs : List D) : bltD "list" [.tup xs] = some (.fresh xs) := by
  unfold bltD
  rw [if_neg (by decide), if_neg (by decide), if_neg (by decide), if_pos rfl]
@[simp] theorem list_frz (xs : List D) : bltD "list" [.frz xs] = some (.fresh xs) := by
  unfold bltD
  rw [if_neg (by decide), if_neg (by decide), if_neg (by decide), if_pos rfl]
theorem sli_str {s : List Nat} (lo hi : Option Int) (h : s.length ≤ LIM) : sliD lo hi (.str s) = some (.d (.str (cutL s lo hi))) := by
  unfold sliD
  exact if_pos h
theorem idx_str {s : List Nat} (i : Int) (h : s.length ≤ LIM) : idxD (.str s) (.int i) = (atD s i).map fun c => .str [c] := by
  unfold idxD
  exact if_pos h
theorem add_str {a b : List Nat} (h : a.length + b.length ≤ LIM) : binD .Add (.str a) (.str b) = some (.d (.str (a ++ b))) := by
  unfold binD
  exact if_pos h
@[simp] theorem idx_lst (xs : List D) (i : Int) : idxD (.lst xs) (.int i) = atD xs i := rfl
@[simp] theorem idx_tup (xs : List D) (i : Int) : idxD (.tup xs) (.int i) = atD xs i := rfl
@[simp] theorem eqD_ii (i j : Int) : eqD (.int i) (.int j) = some (decide (i = j)) := by
  show some (i == j) = _
  congr 1
@[simp] theorem eqD_ss (x y : List Nat) : eqD (.str x) (.str y) = some (decide (x = y)) := by
  show some (x == y) = _
  congr 1
  by_cases h : x = y <;> simp [MP.exSs, MP.evT, MP.evTA, MP.evTO, MP.evTs, MP.evAnd, MP.evOr, MP.evDs, MP.evOs, MP.evAs, MP.evP, MP.evI, MP.lks, MP.M.bd, MP.M.ret, MP.lk, MP.lift, MP.unf, MP.look, MP.cap, MP.guard, MP.sv, MP.st, MP.tru, MP.cmpD, MP.ordD, MP.binD, MP.startE, MP.pad, MP.fitsA, MP.outsOf, MP.retR, MP.stoR, MP.onOwn, MP.onSlot, MP.augV, MP.bindT, MP.bindTs, MP.putOuts, MP.inD, MP.isD, MP.runFd, h]
@[simp] theorem eqD_nn : eqD .non .non = some true := rfl
@[simp] theorem eqD_ni (i : Int) : eqD .non (.int i) = some false := rfl
@[simp] theorem eqD_in (i : Int) : eqD (.int i) .non = some false := rfl
@[simp] theorem eqD_ns (i : List Nat) : eqD .non (.str i) = some false := rfl
@[simp] theorem eqD_sn (i : List Nat) : eqD (.str i) .non = some false := rfl
@[simp] theorem eqD_bb (x y : Bool) : eqD (.bl x) (.bl y) = some (x == y) := rfl
mutual
theorem eqB_self : ∀ (d : D) (n : Nat), dep d = some n → eqB d d = true
  | .non, _, _ => rfl
  | .bl b, _, _ => by simp [MP.exSs, MP.evT, MP.evTA, MP.evTO, MP.evTs, MP.evAnd, MP.evOr, MP.evDs, MP.evOs, MP.evAs, MP.evP, MP.evI, MP.lks, MP.M.bd, MP.M.ret, MP.lk, MP.lift, MP.unf, MP.look, MP.cap, MP.guard, MP.sv, MP.st, MP.tru, MP.cmpD, MP.ordD, MP.binD, MP.startE, MP.pad, MP.fitsA, MP.outsOf, MP.retR, MP.stoR, MP.onOwn, MP.onSlot, MP.augV, MP.bindT, MP.bindTs, MP.putOuts, MP.inD, MP.isD, MP.runFd, eqB]
  | .int i, _, _ => by simp [MP.exSs, MP.evT, MP.evTA, MP.evTO, MP.evTs, MP.evAnd, MP.evOr, MP.evDs, MP.evOs, MP.evAs, MP.evP, MP.evI, MP.lks, MP.M.bd, MP.M.ret, MP.lk, MP.lift, MP.unf, MP.look, MP.cap, MP.guard, MP.sv, MP.st, MP.tru, MP.cmpD, MP.ordD, MP.binD, MP.startE, MP.pad, MP.fitsA, MP.outsOf, MP.retR, MP.stoR, MP.onOwn, MP.onSlot, MP.augV, MP.bindT, MP.bindTs, MP.putOuts, MP.inD, MP.isD, MP.runFd, eqB]
  | .str s, _, _ => by simp [MP.exSs, MP.evT, MP.evTA, MP.evTO, MP.evTs, MP.evAnd, MP.evOr, MP.evDs, MP.evOs, MP.evAs, MP.evP, MP.evI, MP.lks, MP.M.bd, MP.M.ret, MP.lk, MP.lift, MP.unf, MP.look, MP.cap, MP.guard, MP.sv, MP.st, MP.tru, MP.cmpD, MP.ordD, MP.binD, MP.startE, MP.pad, MP.fitsA, MP.outsOf, MP.retR, MP.stoR, MP.onOwn, MP.onSlot, MP.augV, MP.bindT, MP.bindTs, MP.putOuts, MP.inD, MP.isD, MP.runFd, eqB]
  | .tup xs, n, h => by
    simp only [dep, Option.map_eq_some_iff] at h
    obtain ⟨m, hm, _⟩ := h
    simpa only [eqB] using eqBs_self xs m hm
  | .lst xs, n, h => by
    simp only [dep, Option.map_eq_some_iff] at h
    obtain ⟨m, hm, _⟩ := h
    simpa only [eqB] using eqBs_self xs m hm
  | .frz _, _, h => by simp [MP.exSs, MP.evT, MP.evTA, MP.evTO, MP.evTs, MP.evAnd, MP.evOr, MP.evDs, MP.evOs, MP.evAs, MP.evP, MP.evI, MP.lks, MP.M.bd, MP.M.ret, MP.lk, MP.lift, MP.unf, MP.look, MP.cap, MP.guard, MP.sv, MP.st, MP.tru, MP.cmpD, MP.ordD, MP.binD, MP.startE, MP.pad, MP.fitsA, MP.outsOf, MP.retR, MP.stoR, MP.onOwn, MP.onSlot, MP.augV, MP.bindT, MP.bindTs, MP.putOuts, MP.inD, MP.isD, MP.runFd, dep] at h
  | .dct _ _, _, h => by simp [MP.exSs, MP.evT, MP.evTA, MP.evTO, MP.evTs, MP.evAnd, MP.evOr, MP.evDs, MP.evOs, MP.evAs, MP.evP, MP.evI, MP.lks, MP.M.bd, MP.M.ret, MP.lk, MP.lift, MP.unf, MP.look, MP.cap, MP.guard, MP.sv, MP.st, MP.tru, MP.cmpD, MP.ordD, MP.binD, MP.startE, MP.pad, MP.fitsA, MP.outsOf, MP.retR, MP.stoR, MP.onOwn, MP.onSlot, MP.augV, MP.bindT, MP.bindTs, MP.putOuts, MP.inD, MP.isD, MP.runFd, dep] at h
  | .kdt _ _, _, h => by simp [MP.exSs, MP.evT, MP.evTA, MP.evTO, MP.evTs, MP.evAnd, MP.evOr, MP.evDs, MP.evOs, MP.evAs, MP.evP, MP.evI, MP.lks, MP.M.bd, MP.M.ret, MP.lk, MP.lift, MP.unf, MP.look, MP.cap, MP.guard, MP.sv, MP.st, MP.tru, MP.cmpD, MP.ordD, MP.binD, MP.startE, MP.pad, MP.fitsA, MP.outsOf, MP.retR, MP.stoR, MP.onOwn, MP.onSlot, MP.augV, MP.bindT, MP.bindTs, MP.putOuts, MP.inD, MP.isD, MP.runFd, dep] at h
theorem eqBs_self : ∀ (ds : List D) (n : Nat), deps ds = some n → eqBs ds ds = true
  | [], _, _ => rfl
  | d :: ds, n, h => by
    simp only [deps] at h
    split at h
    · rename_i a b ha hb
      simp only [eqBs, eqB_self d a ha, eqBs_self ds b hb, Bool.and_self]
    · cases h
end
theorem eqD_self {d : D} (h : okE d = true) : eqD d d = some true := by
  unfold okE at h
  split at h
  · rename_i n hn
    have e := eqB_self d n hn
    unfold eqD
    split
    · rw [e]
    · rw [if_pos, e]
      simp [MP.exSs, MP.evT, MP.evTA, MP.evTO, MP.evTs, MP.evAnd, MP.evOr, MP.evDs, MP.evOs, MP.evAs, MP.evP, MP.evI, MP.lks, MP.M.bd, MP.M.ret, MP.lk, MP.lift, MP.unf, MP.look, MP.cap, MP.guard, MP.sv, MP.st, MP.tru, MP.cmpD, MP.ordD, MP.binD, MP.startE, MP.pad, MP.fitsA, MP.outsOf, MP.retR, MP.stoR, MP.onOwn, MP.onSlot, MP.augV, MP.bindT, MP.bindTs, MP.putOuts, MP.inD, MP.isD, MP.runFd, okE, hn, of_decide_eq_true h]
  · cases h
theorem deps_ints : ∀ l : List Int, deps (l.map D.int) = some 0
  | [] => rfl
  | i :: r => by simp only [List.map_cons, deps, dep, deps_ints r]; rfl
theorem ok_ints (l : List Int) : okE (.lst (l.map D.int)) = true := by simp [MP.exSs, MP.evT, MP.evTA, MP.evTO, MP.evTs, MP.evAnd, MP.evOr, MP.evDs, MP.evOs, MP.evAs, MP.evP, MP.evI, MP.lks, MP.M.bd, MP.M.ret, MP.lk, MP.lift, MP.unf, MP.look, MP.cap, MP.guard, MP.sv, MP.st, MP.tru, MP.cmpD, MP.ordD, MP.binD, MP.startE, MP.pad, MP.fitsA, MP.outsOf, MP.retR, MP.stoR, MP.onOwn, MP.onSlot, MP.augV, MP.bindT, MP.bindTs, MP.putOuts, MP.inD, MP.isD, MP.runFd, okE, dep, deps_ints]
theorem eqBs_ints : ∀ l m : List Int, eqBs (l.map D.int) (m.map D.int) = decide (l = m)
  | [], [] => rfl
  | [], _ :: _ => rfl
  | _ :: _, [] => rfl
  | i :: r, j :: s => by
    simp only [List.map_cons, eqBs, eqB, eqBs_ints r s, List.cons.injEq]
    by_cases h1 : i = j <;> by_cases h2 : r = s <;> simp [MP.exSs, MP.evT, MP.evTA, MP.evTO, MP.evTs, MP.evAnd, MP.evOr, MP.evDs, MP.evOs, MP.evAs, MP.evP, MP.evI, MP.lks, MP.M.bd, MP.M.ret, MP.lk, MP.lift, MP.unf, MP.look, MP.cap, MP.guard, MP.sv, MP.st, MP.tru, MP.cmpD, MP.ordD, MP.binD, MP.startE, MP.pad, MP.fitsA, MP.outsOf, MP.retR, MP.stoR, MP.onOwn, MP.onSlot, MP.augV, MP.bindT, MP.bindTs, MP.putOuts, MP.inD, MP.isD, MP.runFd, h1, h2]
theorem eqD_ints (l m : List Int) : eqD (.lst (l.map D.int)) (.lst (m.map D.int)) = some (decide (l = m)) := by
  unfold eqD
  rw [if_neg (by simp [MP.exSs, MP.evT, MP.evTA, MP.evTO, MP.evTs, MP.evAnd, MP.evOr, MP.evDs, MP.evOs, MP.evAs, MP.evP, MP.evI, MP.lks, MP.M.bd, MP.M.ret, MP.lk, MP.lift, MP.unf, MP.look, MP.cap, MP.guard, MP.sv, MP.st, MP.tru, MP.cmpD, MP.ordD, MP.binD, MP.startE, MP.pad, MP.fitsA, MP.outsOf, MP.retR, MP.stoR, MP.onOwn, MP.onSlot, MP.augV, MP.bindT, MP.bindTs, MP.putOuts, MP.inD, MP.isD, MP.runFd, scalD]), if_pos (by rw [ok_ints, ok_ints]; rfl)]
  simp only [eqB, eqBs_ints]
theorem atD_nat {α : Type} (l : List α) (i : Nat) : atD l (i : Int) = l[i]? := by
  unfold atD
  rw [if_pos (by omega), Int.toNat_natCast]
def nO : SV → Bool
  | .own _ => false
  | _ => true
theorem call_eq {p : Prog} {k : Nat} {x : Str} {f : Fd} (as : List Ag) (h : findFd x p.defs = some f) : p.call (k + 1) x as = runFd (p.ctx k) f as := by
  show (match findFd x p.defs with | none => none | some f => runFd _ f as) = _
  rw [h]; rfl

/-- a loop by what holds ahead of each turn -/
theorem forGo_inv {t : T} {body : M O} (I : Nat → Env → Prop) : ∀ (xs : List D) (n : Nat) (e : Env), I n e → (∀ i x e, xs[i]? = some x → I (n + i) e → ∃ e1 o e2, bindT t x e = some e1 ∧ body e1 = some (o, e2) ∧ (o = .nx ∨ o = .ct) ∧ I (n + i + 1) e2) → ∃ e', forGo t body xs e = some (.nx, e') ∧ I (n + xs.length) e'
  | [], n, e, h, _ => ⟨e, rfl, h⟩
  | x :: xs, n, e, h, st => by
    obtain ⟨e1, o, e2, h1, h2, h3, h4⟩ := st 0 x e rfl h
    obtain ⟨e', g1, g2⟩ := forGo_inv I xs (n + 1) e2 h4 fun i x e hi hI => by
      have := st (i + 1) x e (by simpa [MP.exSs, MP.evT, MP.evTA, MP.evTO, MP.evTs, MP.evAnd, MP.evOr, MP.evDs, MP.evOs, MP.evAs, MP.evP, MP.evI, MP.lks, MP.M.bd, MP.M.ret, MP.lk, MP.lift, MP.unf, MP.look, MP.cap, MP.guard, MP.sv, MP.st, MP.tru, MP.cmpD, MP.ordD, MP.binD, MP.startE, MP.pad, MP.fitsA, MP.outsOf, MP.retR, MP.stoR, MP.onOwn, MP.onSlot, MP.augV, MP.bindT, MP.bindTs, MP.putOuts, MP.inD, MP.isD, MP.runFd] using hi) (by rw [show n + (i + 1) = n + 1 + i by omega]; exact hI)
      rw [show n + (i + 1) + 1 = n + 1 + i + 1 by omega] at this
      exact this
    refine ⟨e', ?_, by rw [List.length_cons, show n + (xs.length + 1) = n + 1 + xs.length by omega]; exact g2⟩
    unfold forGo
    rw [h1]
    simp only
    rw [h2]
    rcases h3 with rfl | rfl <;> exact g1
/-- a comprehension whose turns stand by themselves -/
theorem lcGo_map {vs : List Nat} {t : T} {tst : M Bool} {elt : M D} {ew : Env} (tf : D → Bool) (yf : D → D) : ∀ xs : List D, (∀ x ∈ xs, ∃ e1, bindT t x ew = some e1 ∧ ∃ e2, tst e1 = some (tf x, e2) ∧ (tf x = true → ∃ e3, elt e2 = some (yf x, e3) ∧ wipeE e3 vs = ew) ∧ (tf x = false → wipeE e2 vs = ew)) →
    lcGo vs t tst elt xs ew = some ((xs.filter tf).map yf, ew)
  | [], _ => rfl
  | x :: xs, h => by
    obtain ⟨e1, h1, e2, h2, h3, h4⟩ := h x List.mem_cons_self
    have ih := lcGo_map tf yf xs fun y hy => h y (List.mem_cons_of_mem _ hy)
    unfold lcGo
    rw [h1]
    simp only
    rw [h2]
    simp only
    cases hb : tf x with
    | true =>
      obtain ⟨e3, h5, h6⟩ := h3 hb
      simp only [if_true]
      rw [h5]
      simp only
      rw [h6, ih]
      simp [MP.exSs, MP.evT, MP.evTA, MP.evTO, MP.evTs, MP.evAnd, MP.evOr, MP.evDs, MP.evOs, MP.evAs, MP.evP, MP.evI, MP.lks, MP.M.bd, MP.M.ret, MP.lk, MP.lift, MP.unf, MP.look, MP.cap, MP.guard, MP.sv, MP.st, MP.tru, MP.cmpD, MP.ordD, MP.binD, MP.startE, MP.pad, MP.fitsA, MP.outsOf, MP.retR, MP.stoR, MP.onOwn, MP.onSlot, MP.augV, MP.bindT, MP.bindTs, MP.putOuts, MP.inD, MP.isD, MP.runFd, hb]
    | false =>
      simp only [Bool.false_eq_true, if_false]
      rw [h4 hb, ih]
      simp [MP.exSs, MP.evT, MP.evTA, MP.evTO, MP.evTs, MP.evAnd, MP.evOr, MP.evDs, MP.evOs, MP.evAs, MP.evP, MP.evI, MP.lks, MP.M.bd, MP.M.ret, MP.lk, MP.lift, MP.unf, MP.look, MP.cap, MP.guard, MP.sv, MP.st, MP.tru, MP.cmpD, MP.ordD, MP.binD, MP.startE, MP.pad, MP.fitsA, MP.outsOf, MP.retR, MP.stoR, MP.onOwn, MP.onSlot, MP.augV, MP.bindT, MP.bindTs, MP.putOuts, MP.inD, MP.isD, MP.runFd, hb]
/-- .. without a test -/
theorem lcGo_all {vs : List Nat} {t : T} {elt : M D} {ew : Env} {c : Ctx} (yf : D → D) (xs : List D) (h : ∀ x ∈ xs, ∃ e1, bindT t x ew = some e1 ∧ ∃ e3, elt e1 = some (yf x, e3) ∧ wipeE e3 vs = ew) :
    lcGo vs t (evTs c []) elt xs ew = some (xs.map yf, ew) := by
  have := lcGo_map (vs := vs) (t := t) (tst := evTs c []) (elt := elt) (ew := ew) (fun _ => true) yf xs fun x hx => by
    obtain ⟨e1, h1, e3, h2, h3⟩ := h x hx
    exact ⟨e1, h1, e1, by simp [MP.exSs, MP.evT, MP.evTA, MP.evTO, MP.evTs, MP.evAnd, MP.evOr, MP.evDs, MP.evOs, MP.evAs, MP.evP, MP.evI, MP.lks, MP.M.bd, MP.M.ret, MP.lk, MP.lift, MP.unf, MP.look, MP.cap, MP.guard, MP.sv, MP.st, MP.tru, MP.cmpD, MP.ordD, MP.binD, MP.startE, MP.pad, MP.fitsA, MP.outsOf, MP.retR, MP.stoR, MP.onOwn, MP.onSlot, MP.augV, MP.bindT, MP.bindTs, MP.putOuts, MP.inD, MP.isD, MP.runFd], fun _ => ⟨e3, h2, h3⟩, fun z => nomatch z⟩
  rw [this, List.filter_eq_self.mpr (by simp [MP.exSs, MP.evT, MP.evTA, MP.evTO, MP.evTs, MP.evAnd, MP.evOr, MP.evDs, MP.evOs, MP.evAs, MP.evP, MP.evI, MP.lks, MP.M.bd, MP.M.ret, MP.lk, MP.lift, MP.unf, MP.look, MP.cap, MP.guard, MP.sv, MP.st, MP.tru, MP.cmpD, MP.ordD, MP.binD, MP.startE, MP.pad, MP.fitsA, MP.outsOf, MP.retR, MP.stoR, MP.onOwn, MP.onSlot, MP.augV, MP.bindT, MP.bindTs, MP.putOuts, MP.inD, MP.isD, MP.runFd])]
theorem intsD_map : ∀ l : List Int, intsD (l.map D.int) = some l
  | [] => rfl
  | x :: r => by simp only [List.map_cons, intsD, intsD_map r]; rfl

theorem bd_eq {α β : Type} {m : M α} {f : α → M β} {e e1 : Env} {a : α} (h : m e = some (a, e1)) : M.bd m f e = f a e1 := by
  unfold M.bd; rw [h]
theorem evLc {c : Ctx} {own : List (Str × Nat)} {t : T} {it : I} {ifs : List E} {elt : E} {e e1 e2 : Env} {xs ys : List D} (h1 : evI c it e = some (xs, e1)) (h2 : xs.length ≤ LIM) (h3 : notOwn e1 (own.map (·.2)) = true)
    (h4 : lcGo (own.map (·.2)) t (evTs c ifs) (M.bd (evE c elt) cap) xs (wipeE e1 (own.map (·.2))) = some (ys, e2)) : evE c (.lc own t it ifs elt) e = some (.fresh ys, backE e1 e2 (own.map (·.2))) := by
  simp only [evE]
  rw [bd_eq h1]
  rw [if_pos (by rw [h3, Bool.and_true]; exact decide_eq_true h2), h4]
theorem okR_le {i : Int} (h : i.natAbs ≤ 4611686018427387903) : okR i = true := Nat.ble_eq_true_of_le h
theorem big_le {i : Int} (h : i.natAbs ≤ 18446744073709551615) : big64 i = true := Nat.ble_eq_true_of_le h
theorem lift_eq {α : Type} {o : Option α} {e : MP.Env} {a : α} (h : o = some a) : lift o e = some (a, e) := by unfold lift; rw [h]
theorem rng0 {n : Int} (h : n < 4611686018427387904) (h0 : -1 ≤ n) : rngD [.int n] = some ((List.range n.toNat).map fun (k : Nat) => D.int (k : Int)) := by
  unfold rngD
  have : okR n = true := okR_le (by omega)
  simp only [this, if_true, rngI]
  simp [MP.exSs, MP.evT, MP.evTA, MP.evTO, MP.evTs, MP.evAnd, MP.evOr, MP.evDs, MP.evOs, MP.evAs, MP.evP, MP.evI, MP.lks, MP.M.bd, MP.M.ret, MP.lk, MP.lift, MP.unf, MP.look, MP.cap, MP.guard, MP.sv, MP.st, MP.tru, MP.cmpD, MP.ordD, MP.binD, MP.startE, MP.pad, MP.fitsA, MP.outsOf, MP.retR, MP.stoR, MP.onOwn, MP.onSlot, MP.augV, MP.bindT, MP.bindTs, MP.putOuts, MP.inD, MP.isD, MP.runFd]
theorem intsD_comp {α : Type} (f : α → Int) (l : List α) : intsD (l.map (D.int ∘ f)) = some (l.map f) := by
  rw [← List.map_map]; exact intsD_map _
theorem rngN {n : Nat} (h : n ≤ 1000000000) : rngD [.int (n : Int)] = some ((List.range n).map fun (k : Nat) => D.int (k : Int)) := by
  have := rng0 (n := (n : Int)) (by omega) (by omega)
  rw [Int.toNat_natCast] at this
  exact this
theorem for_inv {c : MP.Ctx} {t : T} {it : I} {b : List S} {e e1 : MP.Env} {xs : List D} (J : Nat → MP.Env → Prop) (hi : evI c it e = some (xs, e1)) (h0 : J 0 e1)
    (hs : ∀ i x e, xs[i]? = some x → J i e → ∃ e1 o e2, bindT t x e = some e1 ∧ exSs c b e1 = some (o, e2) ∧ (o = .nx ∨ o = .ct) ∧ J (i + 1) e2) : ∃ e', exS c (.for t it b) e = some (.nx, e') ∧ J xs.length e' := by
  obtain ⟨e', h1, h2⟩ := forGo_inv (t := t) (body := exSs c b) J xs 0 e1 h0 (fun i x e hx hJ => by
    rw [Nat.zero_add] at hJ ⊢
    exact hs i x e hx hJ)
  refine ⟨e', ?_, by rw [Nat.zero_add] at h2; exact h2⟩
  simp only [exS]
  rw [bd_eq hi]; exact h1
theorem rngI_int (a b : Int) : ∀ x ∈ rngI a b, ∃ i : Int, x = .int i := by
  intro x hx
  simp only [rngI, List.mem_map] at hx
  obtain ⟨k, _, rfl⟩ := hx
  exact ⟨_, rfl⟩
theorem rng2 {a b : Int} (ha : a.natAbs ≤ 4611686018427387903) (hb : b.natAbs ≤ 4611686018427387903) : rngD [.int a, .int b] = some (rngI a b) := by
  have h1 := okR_le ha
  have h2 := okR_le hb
  simp only [rngD, h1, h2, Bool.and_self, if_true]
end MP

namespace K50
open PySem PySem.Spec MP
def f_sign_width : Fd := ⟨"sign_width", ["sign", "face"], ["sign", "face", "found"], [false, false],
  [.ifs (.cmp .Eq (.var 1) (.cst (.str [99, 111, 100, 101]))) [.ret (some (.cst (.int 4)))] [], .asg (.nam 2) (.ite (.cmp .In (.var 0) (.glo "NARROW")) (.cst (.int 2)) (.ite (.cmp .In (.var 0) (.glo "WIDE")) (.cst (.int 6)) (.cst (.int 4)))), .ret (some (.bin .Add (.var 2) (.blt "int" [.cmp .Eq (.var 1) (.cst (.str [115, 116, 114, 111, 110, 103]))])))]⟩
def f_text_width_c0 : E := .lc [("sign", 4)] (.nam 4) (.seq (.var 0)) [] (.cal "sign_width" [none, none] [.var 4, .var 1])
def f_text_width_c1 : E := .lc [("place", 5)] (.nam 5) (.rng [.bin .Sub (.blt "len" [.var 0]) (.cst (.int 1))]) [] (.met "dict.get" (.glo "PAIRS") [.sli (.var 0) (some (.var 5)) (some (.bin .Add (.var 5) (.cst (.int 2)))), .cst (.int 0)])
def f_text_width : Fd := ⟨"text_width", ["text", "face", "size"], ["text", "face", "size", "found", "sign", "place"], [false, false, false],
  [.asg (.nam 3) (.blt "sum" [f_text_width_c0]), .ifs (.cmp .NotEq (.var 1) (.cst (.str [99, 111, 100, 101]))) [.aug 3 .Add (.blt "sum" [f_text_width_c1])] [], .ret (some (.bin .Mult (.var 3) (.var 2)))]⟩
def f_space_of : Fd := ⟨"space_of", ["size"], ["size"], [false],
  [.ret (some (.tup [.bin .Mult (.cst (.int 4)) (.var 0), .bin .Mult (.cst (.int 3)) (.var 0), .var 0]))]⟩
def f_line_height : Fd := ⟨"line_height", ["size"], ["size"], [false],
  [.ret (some (.bin .Add (.cst (.int 2)) (.var 0)))]⟩
def f_edges_of_c0 : E := .lc [("place", 3)] (.nam 3) (.rng [.blt "len" [.var 0]]) [] (.cal "text_width" [none, none, none] [.sli (.var 0) none (some (.bin .Add (.var 3) (.cst (.int 1)))), .var 1, .var 2])
def f_edges_of : Fd := ⟨"edges_of", ["text", "face", "size"], ["text", "face", "size", "place"], [false, false, false],
  [.ret (some (f_edges_of_c0))]⟩
def f_place_under_b0 : List S := [.ifs (.chn .LtE .Lt (.var 4) (.var 3) (.var 6)) [.ret (some (.var 5))] [], .asg (.nam 4) (.var 6)]
def f_place_under : Fd := ⟨"place_under", ["text", "face", "size", "x"], ["text", "face", "size", "x", "last", "number", "edge"], [false, false, false, false],
  [.asg (.nam 4) (.cst (.int 0)), .for (.tup [.nam 5, .nam 6]) (.enm (.cal "edges_of" [none, none, none] [.var 0, .var 1, .var 2])) f_place_under_b0, .ret (some (.cst .non))]⟩
def f_fitting_c0 : E := .lc [("edge", 4)] (.nam 4) (.seq (.cal "edges_of" [none, none, none] [.var 0, .var 1, .var 2])) [.cmp .LtE (.var 4) (.var 3)] (.var 4)
def f_fitting : Fd := ⟨"fitting", ["text", "face", "size", "width"], ["text", "face", "size", "width", "edge"], [false, false, false, false],
  [.ret (some (.blt "len" [f_fitting_c0]))]⟩
def f_law_next : Fd := ⟨"_law_next", ["state", "limit"], ["state", "limit", "cell", "found"], [true, false],
  [.ifs (.and [.cmp .Eq (.idx (.var 0) (.cst (.int 2))) (.cst (.int 0)), .cmp .Lt (.idx (.var 0) (.cst (.int 1))) (.blt "len" [.idx (.var 0) (.cst (.int 0))])]) [.asg (.nam 2) (.idx (.idx (.var 0) (.cst (.int 0))) (.idx (.var 0) (.cst (.int 1)))), .augS 0 (.cst (.int 1)) .Add (.cst (.int 1)), .ifs (.cmp .GtE (.var 2) (.bin .Pow (.cst (.int 10)) (.cst (.int 18)))) [.sto 0 (.cst (.int 2)) (.var 2)] [.sto 0 (.cst (.int 3)) (.bin .Mod (.blt "int" [.bin .Add (.bin .Add (.bin .Mult (.idx (.var 0) (.cst (.int 3))) (.cst (.int 48271))) (.bin .Mod (.blt "int" [.var 2]) (.cst (.int 2147483647)))) (.cst (.int 7))]) (.cst (.int 2147483647)))]] [], .ifs (.cmp .Gt (.idx (.var 0) (.cst (.int 2))) (.cst (.int 0))) [.asg (.nam 3) (.bin .Mod (.blt "int" [.idx (.var 0) (.cst (.int 2))]) (.var 1)), .sto 0 (.cst (.int 2)) (.bin .FloorDiv (.idx (.var 0) (.cst (.int 2))) (.var 1)), .ret (some (.var 3))] [], .sto 0 (.cst (.int 3)) (.bin .Mod (.blt "int" [.bin .Add (.bin .Mult (.idx (.var 0) (.cst (.int 3))) (.cst (.int 69621))) (.cst (.int 12345))]) (.cst (.int 2147483647))), .ret (some (.bin .Mod (.blt "int" [.bin .FloorDiv (.idx (.var 0) (.cst (.int 3))) (.cst (.int 7))]) (.var 1)))]⟩
def f_law_wide : Fd := ⟨"_law_wide", ["sign", "face"], ["sign", "face"], [false, false],
  [.ifs (.cmp .Eq (.var 1) (.cst (.str [99, 111, 100, 101]))) [.ret (some (.cst (.int 4)))] [], .ret (some (.bin .Add (.ite (.cmp .In (.var 0) (.cst (.str [105, 108, 106, 116, 102, 46, 44, 58, 59, 39, 33, 124, 40, 41, 91, 93, 45]))) (.cst (.int 2)) (.ite (.cmp .In (.var 0) (.cst (.str [109, 119, 77, 87, 81, 64, 38]))) (.cst (.int 6)) (.cst (.int 4)))) (.blt "int" [.cmp .Eq (.var 1) (.cst (.str [115, 116, 114, 111, 110, 103]))])))]⟩
def f_law_near : Fd := ⟨"_law_near", ["one", "two", "face"], ["one", "two", "face"], [false, false, false],
  [.ifs (.cmp .Eq (.var 2) (.cst (.str [99, 111, 100, 101]))) [.ret (some (.cst (.int 0)))] [], .ret (some (.ite (.cmp .Eq (.bin .Add (.var 0) (.var 1)) (.cst (.str [114, 110]))) (.cst (.int 1)) (.ite (.cmp .In (.bin .Add (.var 0) (.var 1)) (.lst [.cst (.str [65, 86]), .cst (.str [86, 65]), .cst (.str [84, 111]), .cst (.str [89, 111]), .cst (.str [102, 105])])) (.bin .Sub (.cst (.int 0)) (.cst (.int 1))) (.cst (.int 0)))))]⟩
def f_law_text_b0 : List S := [.asg (.nam 3) (.bin .Add (.var 3) (.idx (.lst [.idx (.var 2) (.cal "_law_next" [some 0, none] [.var 0, .blt "len" [.var 2]]), .cst (.str [65, 86]), .cst (.str [114, 110]), .cst (.str [84, 111]), .cst (.str [102, 105]), .cst (.str [109, 87]), .cst (.str [105, 45])]) (.cal "_law_next" [some 0, none] [.var 0, .cst (.int 7)])))]
def f_law_text : Fd := ⟨"_law_text", ["state", "most"], ["state", "most", "signs", "found", "k"], [true, false],
  [.asg (.tup [.nam 2, .nam 3]) (.tup [.cst (.str [32, 33, 35, 36, 38, 39, 40, 41, 42, 43, 44, 45, 46, 47, 48, 49, 50, 51, 52, 53, 54, 55, 56, 57, 58, 59, 60, 61, 62, 63, 64, 65, 66, 67, 68, 69, 70, 71, 72, 73, 74, 75, 76, 77, 78, 79, 80, 81, 82, 83, 84, 85, 86, 87, 88, 89, 90, 91, 93, 94, 95, 96, 97, 98, 99, 100, 101, 102, 103, 104, 105, 106, 107, 108, 109, 110, 111, 112, 113, 114, 115, 116, 117, 118, 119, 120, 121, 122, 123, 124, 125, 126]), .cst (.str [])]), .for (.nam 4) (.rng [.cal "_law_next" [some 0, none] [.var 0, .bin .Add (.var 1) (.cst (.int 1))]]) f_law_text_b0, .ret (some (.var 3))]⟩
def f_law_s0 : S := .par 3 4 (.cal "_law_text" [some 1, none] [.var 1, .cst (.int 12)]) (.bin .Add (.cst (.int 1)) (.cal "_law_next" [some 1, none] [.var 1, .cst (.int 4)]))
def f_law_s1 : S := .par 5 6 (.lst []) (.cst (.int 0))
def f_law_b0 : List S := [.aug 6 .Add (.bin .Add (.cal "_law_wide" [none, none] [.idx (.var 3) (.var 7), .var 2]) (.ite (.cmp .Gt (.var 7) (.cst (.int 0))) (.cal "_law_near" [none, none, none] [.idx (.var 3) (.bin .Sub (.var 7) (.cst (.int 1))), .idx (.var 3) (.var 7), .var 2]) (.cst (.int 0)))), .app 5 (.bin .Mult (.var 6) (.var 4))]
def f_law_s2 : S := .for (.nam 7) (.rng [.blt "len" [.var 3]]) f_law_b0
def f_law_c0 : E := .lc [("sign", 8)] (.nam 8) (.seq (.var 3)) [] (.cal "sign_width" [none, none] [.var 8, .var 2])
def f_law_c1 : E := .lc [("sign", 8)] (.nam 8) (.seq (.var 3)) [] (.cal "_law_wide" [none, none] [.var 8, .var 2])
def f_law_s3 : S := .ifs (.or [.cmp .NotEq (f_law_c0) (f_law_c1), .cmp .NotEq (.cal "text_width" [none, none, none] [.var 3, .var 2, .var 4]) (.bin .Mult (.var 6) (.var 4)), .cmp .NotEq (.cal "edges_of" [none, none, none] [.var 3, .var 2, .var 4]) (.var 5)]) [.ret (some (.cst (.bl false)))] []
def f_law_c2 : E := .lc [("k", 7)] (.nam 7) (.rng [.blt "len" [.var 3]]) [.chn .LtE .Lt (.ite (.cmp .Gt (.var 7) (.cst (.int 0))) (.idx (.var 5) (.bin .Sub (.var 7) (.cst (.int 1)))) (.cst (.int 0))) (.var 9) (.idx (.var 5) (.var 7))] (.var 7)
def f_law_b1 : List S := [.asg (.nam 10) (f_law_c2), .ifs (.cmp .NotEq (.cal "place_under" [none, none, none, none] [.var 3, .var 2, .var 4, .var 9]) (.ite (.cmp .NotEq (.var 10) (.lst [])) (.idx (.var 10) (.cst (.int 0))) (.cst .non))) [.ret (some (.cst (.bl false)))] []]
def f_law_s4 : S := .for (.nam 9) (.rng [.bin .Sub (.cst (.int 0)) (.cst (.int 2)), .bin .Add (.bin .Mult (.var 6) (.var 4)) (.cst (.int 3))]) f_law_b1
def f_law_c3 : E := .lc [("edge", 12)] (.nam 12) (.seq (.var 5)) [.cmp .LtE (.var 12) (.var 11)] (.var 12)
def f_law_b2 : List S := [.ifs (.cmp .NotEq (.cal "fitting" [none, none, none, none] [.var 3, .var 2, .var 4, .var 11]) (.blt "len" [f_law_c3])) [.ret (some (.cst (.bl false)))] []]
def f_law_s5 : S := .for (.nam 11) (.seq (.lst [.cst (.int 0), .bin .Mult (.var 6) (.var 4), .bin .FloorDiv (.bin .Mult (.var 6) (.var 4)) (.cst (.int 2)), .bin .Sub (.bin .Mult (.var 6) (.var 4)) (.cst (.int 1)), .cal "_law_next" [some 1, none] [.var 1, .cst (.int 200)]])) f_law_b2
def f_law_s6 : S := .asg (.nam 13) (.cal "_law_next" [some 1, none] [.var 1, .bin .Add (.blt "len" [.var 3]) (.cst (.int 1))])
def f_law_s7 : S := .asg (.nam 14) (.ite (.chn .Lt .Lt (.cst (.int 0)) (.var 13) (.blt "len" [.var 3])) (.cal "_law_near" [none, none, none] [.idx (.var 3) (.bin .Sub (.var 13) (.cst (.int 1))), .idx (.var 3) (.var 13), .var 2]) (.cst (.int 0)))
def f_law_s8 : S := .ifs (.or [.cmp .NotEq (.bin .Add (.cal "text_width" [none, none, none] [.sli (.var 3) none (some (.var 13)), .var 2, .var 4]) (.cal "text_width" [none, none, none] [.sli (.var 3) (some (.var 13)) none, .var 2, .var 4])) (.bin .Mult (.bin .Sub (.var 6) (.var 14)) (.var 4)), .cmp .NotEq (.bin .Mult (.cal "text_width" [none, none, none] [.var 3, .var 2, .cst (.int 1)]) (.var 4)) (.bin .Mult (.var 6) (.var 4))]) [.ret (some (.cst (.bl false)))] []
def f_law_s9 : S := .ifs (.or [.and [.cmp .NotEq (.var 2) (.cst (.str [115, 116, 114, 111, 110, 103])), .cmp .NotEq (.cal "text_width" [none, none, none] [.var 3, .cst (.str [115, 116, 114, 111, 110, 103]), .var 4]) (.bin .Add (.cal "text_width" [none, none, none] [.var 3, .cst (.str [112, 108, 97, 105, 110]), .var 4]) (.bin .Mult (.blt "len" [.var 3]) (.var 4)))], .cmp .NotEq (.cal "text_width" [none, none, none] [.var 3, .cst (.str [115, 111, 102, 116]), .var 4]) (.cal "text_width" [none, none, none] [.var 3, .cst (.str [109, 97, 114, 107]), .var 4]), .cmp .NotEq (.cal "text_width" [none, none, none] [.var 3, .cst (.str [99, 111, 100, 101]), .var 4]) (.bin .Mult (.bin .Mult (.cst (.int 4)) (.var 4)) (.blt "len" [.var 3]))]) [.ret (some (.cst (.bl false)))] []
def f_law_s10 : S := .ifs (.or [.cmp .NotEq (.cal "space_of" [none] [.var 4]) (.tup [.bin .Mult (.cst (.int 4)) (.var 4), .bin .Mult (.cst (.int 3)) (.var 4), .var 4]), .cmp .NotEq (.cal "line_height" [none] [.var 4]) (.bin .Add (.cst (.int 2)) (.var 4)), .cmp .IsNot (.cal "place_under" [none, none, none, none] [.cst (.str []), .var 2, .var 4, .cst (.int 0)]) (.cst .non)]) [.ret (some (.cst (.bl false)))] []
def f_law_b3 : List S := [f_law_s0, f_law_s1, f_law_s2, f_law_s3, f_law_s4, f_law_s5, f_law_s6, f_law_s7, f_law_s8, f_law_s9, f_law_s10]
def f_law : Fd := ⟨"law", ["script"], ["script", "state", "face", "text", "size", "edges", "here", "k", "sign", "x", "under", "width", "edge", "cut", "lost"], [false],
  [.asg (.nam 1) (.lst [.blt "list" [.var 0], .cst (.int 0), .cst (.int 0), .cst (.int 1)]), .for (.nam 2) (.seq (.lst [.cst (.str [112, 108, 97, 105, 110]), .cst (.str [115, 116, 114, 111, 110, 103]), .cst (.str [115, 111, 102, 116]), .cst (.str [99, 111, 100, 101]), .cst (.str [109, 97, 114, 107])])) f_law_b3, .ret (some (.and [.cmp .Eq (.cal "place_under" [none, none, none, none] [.cst (.str [65, 86, 65]), .cst (.str [112, 108, 97, 105, 110]), .cst (.int 1), .cst (.int 3)]) (.cst (.int 0)), .cmp .Eq (.cal "place_under" [none, none, none, none] [.cst (.str [65, 86, 65]), .cst (.str [112, 108, 97, 105, 110]), .cst (.int 1), .cst (.int 4)]) (.cst (.int 1)), .cmp .Eq (.cal "place_under" [none, none, none, none] [.cst (.str [65, 86, 65]), .cst (.str [112, 108, 97, 105, 110]), .cst (.int 1), .cst (.int 9)]) (.cst (.int 2)), .cmp .Is (.cal "place_under" [none, none, none, none] [.cst (.str [65, 86, 65]), .cst (.str [112, 108, 97, 105, 110]), .cst (.int 1), .cst (.int 10)]) (.cst .non), .cmp .Eq (.cal "text_width" [none, none, none] [.cst (.str [99, 111, 114, 110, 101, 114]), .cst (.str [112, 108, 97, 105, 110]), .cst (.int 2)]) (.cst (.int 50))]))]⟩
def defs : List Fd := [f_sign_width, f_text_width, f_space_of, f_line_height, f_edges_of, f_place_under, f_fitting, f_law_next, f_law_wide, f_law_near, f_law_text, f_law]
def globs : List (Str × D) := [("NARROW", (.str [105, 108, 106, 116, 102, 46, 44, 58, 59, 39, 33, 124, 40, 41, 91, 93, 45])), ("WIDE", (.str [109, 119, 77, 87, 81, 64, 38])), ("PAIRS", (.kdt [.inr "AV", .inr "VA", .inr "To", .inr "Yo", .inr "fi", .inr "rn"] [(.int (-1)), (.int (-1)), (.int (-1)), (.int (-1)), (.int (-1)), (.int 1)]))]
def prog : Prog := ⟨defs, globs, 100000⟩
def bn : List String := ["enumerate", "int", "len", "list", "range", "sum"]
end K50

namespace K50
open PySem MP
def code : List Nat := [99, 111, 100, 101]
def strong : List Nat := [115, 116, 114, 111, 110, 103]
def narrow : List Nat := [105, 108, 106, 116, 102, 46, 44, 58, 59, 39, 33, 124, 40, 41, 91, 93, 45]
def wide : List Nat := [109, 119, 77, 87, 81, 64, 38]
theorem e_code : ([99, 111, 100, 101] : List Nat) = code := rfl
theorem e_strong : ([115, 116, 114, 111, 110, 103] : List Nat) = strong := rfl
theorem e_narrow : ([105, 108, 106, 116, 102, 46, 44, 58, 59, 39, 33, 124, 40, 41, 91, 93, 45] : List Nat) = narrow := rfl
theorem e_wide : ([109, 119, 77, 87, 81, 64, 38] : List Nat) = wide := rfl
theorem sc : (strong = code) = False := by decide
def baseW (c : Nat) : Int := if c ∈ narrow then 2 else if c ∈ wide then 6 else 4
def signW (face : List Nat) (c : Nat) : Int := if face = code then 4 else baseW c + if face = strong then 1 else 0
theorem subB_one (c : Nat) : ∀ l : List Nat, subB [c] l = decide (c ∈ l)
  | [] => by simp [MP.exSs, MP.evT, MP.evTA, MP.evTO, MP.evTs, MP.evAnd, MP.evOr, MP.evDs, MP.evOs, MP.evAs, MP.evP, MP.evI, MP.lks, MP.M.bd, MP.M.ret, MP.lk, MP.lift, MP.unf, MP.look, MP.cap, MP.guard, MP.sv, MP.st, MP.tru, MP.cmpD, MP.ordD, MP.binD, MP.startE, MP.pad, MP.fitsA, MP.outsOf, MP.retR, MP.stoR, MP.onOwn, MP.onSlot, MP.augV, MP.bindT, MP.bindTs, MP.putOuts, MP.inD, MP.isD, MP.runFd, subB]
  | y :: ys => by
    have h : preB [c] (y :: ys) = (c == y) := by simp [MP.exSs, MP.evT, MP.evTA, MP.evTO, MP.evTs, MP.evAnd, MP.evOr, MP.evDs, MP.evOs, MP.evAs, MP.evP, MP.evI, MP.lks, MP.M.bd, MP.M.ret, MP.lk, MP.lift, MP.unf, MP.look, MP.cap, MP.guard, MP.sv, MP.st, MP.tru, MP.cmpD, MP.ordD, MP.binD, MP.startE, MP.pad, MP.fitsA, MP.outsOf, MP.retR, MP.stoR, MP.onOwn, MP.onSlot, MP.augV, MP.bindT, MP.bindTs, MP.putOuts, MP.inD, MP.isD, MP.runFd, preB]
    simp only [subB, h, subB_one c ys, List.mem_cons, Bool.decide_or]
    congr 1
theorem sign_width_ok (k : Nat) (c : Nat) (face : List Nat) : prog.call (k + 1) "sign_width" [.d (.str [c]), .d (.str face)] = some (.d (.int (signW face c)), [.d .non, .d .non]) := by
  rw [call_eq _ (show findFd "sign_width" prog.defs = some f_sign_width from rfl)]
  have g1 : findG "NARROW" prog.globs = some (.str narrow) := rfl
  have g2 : findG "WIDE" prog.globs = some (.str wide) := rfl
  unfold signW baseW
  by_cases h1 : face = code
  · simp [MP.exSs, MP.evT, MP.evTA, MP.evTO, MP.evTs, MP.evAnd, MP.evOr, MP.evDs, MP.evOs, MP.evAs, MP.evP, MP.evI, MP.lks, MP.M.bd, MP.M.ret, MP.lk, MP.lift, MP.unf, MP.look, MP.cap, MP.guard, MP.sv, MP.st, MP.tru, MP.cmpD, MP.ordD, MP.binD, MP.startE, MP.pad, MP.fitsA, MP.outsOf, MP.retR, MP.stoR, MP.onOwn, MP.onSlot, MP.augV, MP.bindT, MP.bindTs, MP.putOuts, MP.inD, MP.isD, MP.runFd, f_sign_width, e_code, h1]
  · by_cases h2 : c ∈ narrow <;> by_cases h3 : c ∈ wide <;> by_cases h4 : face = strong <;> simp [MP.exSs, MP.evT, MP.evTA, MP.evTO, MP.evTs, MP.evAnd, MP.evOr, MP.evDs, MP.evOs, MP.evAs, MP.evP, MP.evI, MP.lks, MP.M.bd, MP.M.ret, MP.lk, MP.lift, MP.unf, MP.look, MP.cap, MP.guard, MP.sv, MP.st, MP.tru, MP.cmpD, MP.ordD, MP.binD, MP.startE, MP.pad, MP.fitsA, MP.outsOf, MP.retR, MP.stoR, MP.onOwn, MP.onSlot, MP.augV, MP.bindT, MP.bindTs, MP.putOuts, MP.inD, MP.isD, MP.runFd, f_sign_width, g1, g2, e_code, e_strong, subB_one, sc, h1, h2, h3, h4]
theorem law_wide_ok (k : Nat) (c : Nat) (face : List Nat) : prog.call (k + 1) "_law_wide" [.d (.str [c]), .d (.str face)] = some (.d (.int (signW face c)), [.d .non, .d .non]) := by
  rw [call_eq _ (show findFd "_law_wide" prog.defs = some f_law_wide from rfl)]
  unfold signW baseW
  by_cases h1 : face = code
  · simp [MP.exSs, MP.evT, MP.evTA, MP.evTO, MP.evTs, MP.evAnd, MP.evOr, MP.evDs, MP.evOs, MP.evAs, MP.evP, MP.evI, MP.lks, MP.M.bd, MP.M.ret, MP.lk, MP.lift, MP.unf, MP.look, MP.cap, MP.guard, MP.sv, MP.st, MP.tru, MP.cmpD, MP.ordD, MP.binD, MP.startE, MP.pad, MP.fitsA, MP.outsOf, MP.retR, MP.stoR, MP.onOwn, MP.onSlot, MP.augV, MP.bindT, MP.bindTs, MP.putOuts, MP.inD, MP.isD, MP.runFd, f_law_wide, e_code, h1]
  · by_cases h2 : c ∈ narrow <;> by_cases h3 : c ∈ wide <;> by_cases h4 : face = strong <;> simp [MP.exSs, MP.evT, MP.evTA, MP.evTO, MP.evTs, MP.evAnd, MP.evOr, MP.evDs, MP.evOs, MP.evAs, MP.evP, MP.evI, MP.lks, MP.M.bd, MP.M.ret, MP.lk, MP.lift, MP.unf, MP.look, MP.cap, MP.guard, MP.sv, MP.st, MP.tru, MP.cmpD, MP.ordD, MP.binD, MP.startE, MP.pad, MP.fitsA, MP.outsOf, MP.retR, MP.stoR, MP.onOwn, MP.onSlot, MP.augV, MP.bindT, MP.bindTs, MP.putOuts, MP.inD, MP.isD, MP.runFd, f_law_wide, e_code, e_strong, e_narrow, e_wide, subB_one, sc, h1, h2, h3, h4]


def rn (a b : Nat) : Bool := ([a, b] : List Nat) == [114, 110]
def pr (a b : Nat) : Bool := ([[65, 86], [86, 65], [84, 111], [89, 111], [102, 105]] : List (List Nat)).any fun y => y == [a, b]
def pairV (a b : Nat) : Int := if rn a b = true then 1 else if pr a b = true then -1 else 0
def nearV (face : List Nat) (a b : Nat) : Int := if face = code then 0 else pairV a b
theorem in_strs (x : List Nat) : ∀ ys : List (List Nat), inF (.str x) (ys.map D.str) = some (ys.any fun y => y == x) := by
  intro ys
  have h1 : (ys.map D.str).all flatD = true := by induction ys with | nil => rfl | cons a r ih => simp [MP.exSs, MP.evT, MP.evTA, MP.evTO, MP.evTs, MP.evAnd, MP.evOr, MP.evDs, MP.evOs, MP.evAs, MP.evP, MP.evI, MP.lks, MP.M.bd, MP.M.ret, MP.lk, MP.lift, MP.unf, MP.look, MP.cap, MP.guard, MP.sv, MP.st, MP.tru, MP.cmpD, MP.ordD, MP.binD, MP.startE, MP.pad, MP.fitsA, MP.outsOf, MP.retR, MP.stoR, MP.onOwn, MP.onSlot, MP.augV, MP.bindT, MP.bindTs, MP.putOuts, MP.inD, MP.isD, MP.runFd, flatD, ih]
  have h2 : ∀ ys : List (List Nat), ((ys.map D.str).any fun y => eqB y (.str x)) = ys.any fun y => y == x := by
    intro ys
    induction ys with
    | nil => rfl
    | cons a r ih => simp only [List.map_cons, List.any_cons, ih, eqB]
  unfold inF
  rw [h1, h2 ys]; rfl
theorem near_in (a b : Nat) : inF (.str [a, b]) [.str [65, 86], .str [86, 65], .str [84, 111], .str [89, 111], .str [102, 105]] = some (pr a b) := in_strs [a, b] [[65, 86], [86, 65], [84, 111], [89, 111], [102, 105]]
theorem near_ok (k a b : Nat) (face : List Nat) : prog.call (k + 1) "_law_near" [.d (.str [a]), .d (.str [b]), .d (.str face)] = some (.d (.int (nearV face a b)), [.d .non, .d .non, .d .non]) := by
  rw [call_eq _ (show findFd "_law_near" prog.defs = some f_law_near from rfl)]
  unfold nearV pairV
  have hl : (1 + 1 ≤ LIM) = True := by simp [MP.exSs, MP.evT, MP.evTA, MP.evTO, MP.evTs, MP.evAnd, MP.evOr, MP.evDs, MP.evOs, MP.evAs, MP.evP, MP.evI, MP.lks, MP.M.bd, MP.M.ret, MP.lk, MP.lift, MP.unf, MP.look, MP.cap, MP.guard, MP.sv, MP.st, MP.tru, MP.cmpD, MP.ordD, MP.binD, MP.startE, MP.pad, MP.fitsA, MP.outsOf, MP.retR, MP.stoR, MP.onOwn, MP.onSlot, MP.augV, MP.bindT, MP.bindTs, MP.putOuts, MP.inD, MP.isD, MP.runFd, LIM]
  have hl5 : (5 ≤ LIM) = True := by simp [MP.exSs, MP.evT, MP.evTA, MP.evTO, MP.evTs, MP.evAnd, MP.evOr, MP.evDs, MP.evOs, MP.evAs, MP.evP, MP.evI, MP.lks, MP.M.bd, MP.M.ret, MP.lk, MP.lift, MP.unf, MP.look, MP.cap, MP.guard, MP.sv, MP.st, MP.tru, MP.cmpD, MP.ordD, MP.binD, MP.startE, MP.pad, MP.fitsA, MP.outsOf, MP.retR, MP.stoR, MP.onOwn, MP.onSlot, MP.augV, MP.bindT, MP.bindTs, MP.putOuts, MP.inD, MP.isD, MP.runFd, LIM]
  have hr : (a = 114 ∧ b = 110) = (rn a b = true) := by simp [MP.exSs, MP.evT, MP.evTA, MP.evTO, MP.evTs, MP.evAnd, MP.evOr, MP.evDs, MP.evOs, MP.evAs, MP.evP, MP.evI, MP.lks, MP.M.bd, MP.M.ret, MP.lk, MP.lift, MP.unf, MP.look, MP.cap, MP.guard, MP.sv, MP.st, MP.tru, MP.cmpD, MP.ordD, MP.binD, MP.startE, MP.pad, MP.fitsA, MP.outsOf, MP.retR, MP.stoR, MP.onOwn, MP.onSlot, MP.augV, MP.bindT, MP.bindTs, MP.putOuts, MP.inD, MP.isD, MP.runFd, rn]
  by_cases h1 : face = code
  · simp [MP.exSs, MP.evT, MP.evTA, MP.evTO, MP.evTs, MP.evAnd, MP.evOr, MP.evDs, MP.evOs, MP.evAs, MP.evP, MP.evI, MP.lks, MP.M.bd, MP.M.ret, MP.lk, MP.lift, MP.unf, MP.look, MP.cap, MP.guard, MP.sv, MP.st, MP.tru, MP.cmpD, MP.ordD, MP.binD, MP.startE, MP.pad, MP.fitsA, MP.outsOf, MP.retR, MP.stoR, MP.onOwn, MP.onSlot, MP.augV, MP.bindT, MP.bindTs, MP.putOuts, MP.inD, MP.isD, MP.runFd, f_law_near, e_code, h1]
  · cases h2 : rn a b <;> cases h3 : pr a b <;> simp [MP.exSs, MP.evT, MP.evTA, MP.evTO, MP.evTs, MP.evAnd, MP.evOr, MP.evDs, MP.evOs, MP.evAs, MP.evP, MP.evI, MP.lks, MP.M.bd, MP.M.ret, MP.lk, MP.lift, MP.unf, MP.look, MP.cap, MP.guard, MP.sv, MP.st, MP.tru, MP.cmpD, MP.ordD, MP.binD, MP.startE, MP.pad, MP.fitsA, MP.outsOf, MP.retR, MP.stoR, MP.onOwn, MP.onSlot, MP.augV, MP.bindT, MP.bindTs, MP.putOuts, MP.inD, MP.isD, MP.runFd, f_law_near, e_code, h1, h2, hl, hl5, near_in, h3, hr]
theorem law_near_d : True := trivial
/-! next -/
section
variable (a b c d x : D)
theorem at0 : atD [a, b, c, d] 0 = some a := rfl
theorem at1 : atD [a, b, c, d] 1 = some b := rfl
theorem at2 : atD [a, b, c, d] 2 = some c := rfl
theorem at3 : atD [a, b, c, d] 3 = some d := rfl
theorem set1 : setAt [a, b, c, d] 1 x = some [a, x, c, d] := rfl
theorem set2 : setAt [a, b, c, d] 2 x = some [a, b, x, d] := rfl
theorem set3 : setAt [a, b, c, d] 3 x = some [a, b, c, x] := rfl
end
def lcg1 (s c : Int) : Int := (s * 48271 + c % 2147483647 + 7) % 2147483647
def lcg2 (s : Int) : Int := (s * 69621 + 12345) % 2147483647
def StOk (xs : List D) : Prop := ∃ (ns : List Int) (i j s : Int), xs = [.lst (ns.map D.int), .int i, .int j, .int s] ∧ 0 ≤ i
theorem map_get (ns : List Int) {i : Int} (h0 : 0 ≤ i) (h1 : i < (ns.length : Int)) : ∃ c, atD (ns.map D.int) i = some (.int c) := by
  unfold atD
  rw [if_pos h0]
  have : i.toNat < ns.length := by omega
  exact ⟨ns[i.toNat], by simp [MP.exSs, MP.evT, MP.evTA, MP.evTO, MP.evTs, MP.evAnd, MP.evOr, MP.evDs, MP.evOs, MP.evAs, MP.evP, MP.evI, MP.lks, MP.M.bd, MP.M.ret, MP.lk, MP.lift, MP.unf, MP.look, MP.cap, MP.guard, MP.sv, MP.st, MP.tru, MP.cmpD, MP.ordD, MP.binD, MP.startE, MP.pad, MP.fitsA, MP.outsOf, MP.retR, MP.stoR, MP.onOwn, MP.onSlot, MP.augV, MP.bindT, MP.bindTs, MP.putOuts, MP.inD, MP.isD, MP.runFd, this]⟩
theorem next_ok (k : Nat) {xs : List D} {l : Int} (h : StOk xs) (h0 : 0 < l) (h1 : l < 1073741824) : ∃ r ys, prog.call (k + 1) "_law_next" [.m xs, .d (.int l)] = some (.d (.int r), [.m ys, .d .non]) ∧ StOk ys ∧ 0 ≤ r ∧ r < l := by
  obtain ⟨ns, i, j, s, rfl, hi⟩ := h
  rw [call_eq _ (show findFd "_law_next" prog.defs = some f_law_next from rfl)]
  have big1 : big64 48271 = true := by decide
  have big2 : big64 69621 = true := by decide
  have hfd : Nat.ble l.toNat 1073741823 = true := Nat.ble_eq_true_of_le (by omega)
  have m1 : ∀ z : Int, 0 ≤ z % l := fun z => Int.emod_nonneg _ (by omega)
  have m2 : ∀ z : Int, z % l < l := fun z => Int.emod_lt_of_pos _ h0
  by_cases c1 : j = 0
  · by_cases c2 : i < (ns.length : Int)
    · obtain ⟨c, hc⟩ := map_get ns hi c2
      by_cases c3 : 1000000000000000000 ≤ c
      · have c4 : 0 < c := by omega
        refine ⟨c % l, [.lst (ns.map D.int), .int (i + 1), .int (c / l), .int s], ?_, ⟨ns, _, _, _, rfl, by omega⟩, m1 _, m2 _⟩
        simp [MP.exSs, MP.evT, MP.evTA, MP.evTO, MP.evTs, MP.evAnd, MP.evOr, MP.evDs, MP.evOs, MP.evAs, MP.evP, MP.evI, MP.lks, MP.M.bd, MP.M.ret, MP.lk, MP.lift, MP.unf, MP.look, MP.cap, MP.guard, MP.sv, MP.st, MP.tru, MP.cmpD, MP.ordD, MP.binD, MP.startE, MP.pad, MP.fitsA, MP.outsOf, MP.retR, MP.stoR, MP.onOwn, MP.onSlot, MP.augV, MP.bindT, MP.bindTs, MP.putOuts, MP.inD, MP.isD, MP.runFd, f_law_next, c1, c2, hc, c3, c4, h0, h1, hfd, idx_lst, at0, at1, at2, at3, set1, set2, set3]
      · refine ⟨lcg2 (lcg1 s c) / 7 % l, [.lst (ns.map D.int), .int (i + 1), .int 0, .int (lcg2 (lcg1 s c))], ?_, ⟨ns, _, _, _, rfl, by omega⟩, m1 _, m2 _⟩
        simp [MP.exSs, MP.evT, MP.evTA, MP.evTO, MP.evTs, MP.evAnd, MP.evOr, MP.evDs, MP.evOs, MP.evAs, MP.evP, MP.evI, MP.lks, MP.M.bd, MP.M.ret, MP.lk, MP.lift, MP.unf, MP.look, MP.cap, MP.guard, MP.sv, MP.st, MP.tru, MP.cmpD, MP.ordD, MP.binD, MP.startE, MP.pad, MP.fitsA, MP.outsOf, MP.retR, MP.stoR, MP.onOwn, MP.onSlot, MP.augV, MP.bindT, MP.bindTs, MP.putOuts, MP.inD, MP.isD, MP.runFd, f_law_next, c1, c2, hc, c3, h0, h1, hfd, idx_lst, at0, at1, at2, at3, set1, set2, set3, big1, big2, lcg1, lcg2]
    · refine ⟨lcg2 s / 7 % l, [.lst (ns.map D.int), .int i, .int 0, .int (lcg2 s)], ?_, ⟨ns, _, _, _, rfl, by omega⟩, m1 _, m2 _⟩
      simp [MP.exSs, MP.evT, MP.evTA, MP.evTO, MP.evTs, MP.evAnd, MP.evOr, MP.evDs, MP.evOs, MP.evAs, MP.evP, MP.evI, MP.lks, MP.M.bd, MP.M.ret, MP.lk, MP.lift, MP.unf, MP.look, MP.cap, MP.guard, MP.sv, MP.st, MP.tru, MP.cmpD, MP.ordD, MP.binD, MP.startE, MP.pad, MP.fitsA, MP.outsOf, MP.retR, MP.stoR, MP.onOwn, MP.onSlot, MP.augV, MP.bindT, MP.bindTs, MP.putOuts, MP.inD, MP.isD, MP.runFd, f_law_next, c1, c2, h0, h1, hfd, idx_lst, at0, at1, at2, at3, set1, set2, set3, big1, big2, lcg2]
  · by_cases c2 : 0 < j
    · refine ⟨j % l, [.lst (ns.map D.int), .int i, .int (j / l), .int s], ?_, ⟨ns, _, _, _, rfl, by omega⟩, m1 _, m2 _⟩
      simp [MP.exSs, MP.evT, MP.evTA, MP.evTO, MP.evTs, MP.evAnd, MP.evOr, MP.evDs, MP.evOs, MP.evAs, MP.evP, MP.evI, MP.lks, MP.M.bd, MP.M.ret, MP.lk, MP.lift, MP.unf, MP.look, MP.cap, MP.guard, MP.sv, MP.st, MP.tru, MP.cmpD, MP.ordD, MP.binD, MP.startE, MP.pad, MP.fitsA, MP.outsOf, MP.retR, MP.stoR, MP.onOwn, MP.onSlot, MP.augV, MP.bindT, MP.bindTs, MP.putOuts, MP.inD, MP.isD, MP.runFd, f_law_next, c1, c2, h0, h1, hfd, idx_lst, at0, at1, at2, at3, set1, set2, set3, big1, big2]
    · refine ⟨lcg2 s / 7 % l, [.lst (ns.map D.int), .int i, .int j, .int (lcg2 s)], ?_, ⟨ns, _, _, _, rfl, by omega⟩, m1 _, m2 _⟩
      simp [MP.exSs, MP.evT, MP.evTA, MP.evTO, MP.evTs, MP.evAnd, MP.evOr, MP.evDs, MP.evOs, MP.evAs, MP.evP, MP.evI, MP.lks, MP.M.bd, MP.M.ret, MP.lk, MP.lift, MP.unf, MP.look, MP.cap, MP.guard, MP.sv, MP.st, MP.tru, MP.cmpD, MP.ordD, MP.binD, MP.startE, MP.pad, MP.fitsA, MP.outsOf, MP.retR, MP.stoR, MP.onOwn, MP.onSlot, MP.augV, MP.bindT, MP.bindTs, MP.putOuts, MP.inD, MP.isD, MP.runFd, f_law_next, c1, c2, h0, h1, hfd, idx_lst, at0, at1, at2, at3, set1, set2, set3, big1, big2, lcg2]

/-! widths -/
def nearO (face : List Nat) : Option Nat → Nat → Int
  | none, _ => 0
  | some a, b => nearV face a b
def tW (face : List Nat) : Option Nat → List Nat → Int
  | _, [] => 0
  | p, c :: r => signW face c + nearO face p c + tW face (some c) r
def pS : List Nat → Int
  | a :: b :: r => pairV a b + pS (b :: r)
  | _ => 0
theorem tW_code (face : List Nat) (h : face = code) : ∀ (l : List Nat) (p : Option Nat), tW face p l = (l.map (signW face)).sum
  | [], _ => rfl
  | c :: r, p => by
    have : nearO face p c = 0 := by cases p <;> simp [MP.exSs, MP.evT, MP.evTA, MP.evTO, MP.evTs, MP.evAnd, MP.evOr, MP.evDs, MP.evOs, MP.evAs, MP.evP, MP.evI, MP.lks, MP.M.bd, MP.M.ret, MP.lk, MP.lift, MP.unf, MP.look, MP.cap, MP.guard, MP.sv, MP.st, MP.tru, MP.cmpD, MP.ordD, MP.binD, MP.startE, MP.pad, MP.fitsA, MP.outsOf, MP.retR, MP.stoR, MP.onOwn, MP.onSlot, MP.augV, MP.bindT, MP.bindTs, MP.putOuts, MP.inD, MP.isD, MP.runFd, nearO, nearV, h]
    simp only [tW, this, List.map_cons, List.sum_cons, tW_code face h r]; omega
theorem tW_sum (face : List Nat) (h : ¬ face = code) : ∀ (l : List Nat) (a : Nat), tW face (some a) l = (l.map (signW face)).sum + pS (a :: l)
  | [], _ => rfl
  | c :: r, a => by
    have : nearO face (some a) c = pairV a c := by simp [MP.exSs, MP.evT, MP.evTA, MP.evTO, MP.evTs, MP.evAnd, MP.evOr, MP.evDs, MP.evOs, MP.evAs, MP.evP, MP.evI, MP.lks, MP.M.bd, MP.M.ret, MP.lk, MP.lift, MP.unf, MP.look, MP.cap, MP.guard, MP.sv, MP.st, MP.tru, MP.cmpD, MP.ordD, MP.binD, MP.startE, MP.pad, MP.fitsA, MP.outsOf, MP.retR, MP.stoR, MP.onOwn, MP.onSlot, MP.augV, MP.bindT, MP.bindTs, MP.putOuts, MP.inD, MP.isD, MP.runFd, nearO, nearV, h]
    simp only [tW, this, List.map_cons, List.sum_cons, tW_sum face h r, pS]; omega
theorem tW_none (face : List Nat) (h : ¬ face = code) (l : List Nat) : tW face none l = (l.map (signW face)).sum + pS l := by
  cases l with
  | nil => rfl
  | cons c r => simp only [tW, nearO, tW_sum face h r, List.map_cons, List.sum_cons]; omega
theorem pS_range : ∀ l : List Nat, pS l = ((List.range (l.length - 1)).map fun i => pairV (l.getD i 0) (l.getD (i + 1) 0)).sum
  | [] => rfl
  | [_] => rfl
  | a :: b :: r => by
    have ih := pS_range (b :: r)
    rw [show (a :: b :: r).length - 1 = ((b :: r).length - 1) + 1 by simp [MP.exSs, MP.evT, MP.evTA, MP.evTO, MP.evTs, MP.evAnd, MP.evOr, MP.evDs, MP.evOs, MP.evAs, MP.evP, MP.evI, MP.lks, MP.M.bd, MP.M.ret, MP.lk, MP.lift, MP.unf, MP.look, MP.cap, MP.guard, MP.sv, MP.st, MP.tru, MP.cmpD, MP.ordD, MP.binD, MP.startE, MP.pad, MP.fitsA, MP.outsOf, MP.retR, MP.stoR, MP.onOwn, MP.onSlot, MP.augV, MP.bindT, MP.bindTs, MP.putOuts, MP.inD, MP.isD, MP.runFd], List.range_succ_eq_map]
    simp only [pS, List.map_cons, List.sum_cons, List.map_map, ih]
    rfl
theorem cut2 {ts : List Nat} {i : Nat} (h : i + 1 < ts.length) : cutL ts (some (i : Int)) (some ((i : Int) + 2)) = [ts.getD i 0, ts.getD (i + 1) 0] := by
  have e1 : sixD ts.length 0 (some (i : Int)) = i := by
    simp only [sixD]
    rw [if_neg (by omega)]
    omega
  have e2 : sixD ts.length ts.length (some ((i : Int) + 2)) = i + 2 := by
    simp only [sixD]
    rw [if_neg (by omega)]
    omega
  unfold cutL
  rw [e1, e2, show i + 2 - i = 2 by omega]
  rw [List.drop_eq_getElem_cons (show i < ts.length by omega), List.drop_eq_getElem_cons h]
  simp only [List.take_succ_cons, List.take_zero]
  simp [MP.exSs, MP.evT, MP.evTA, MP.evTO, MP.evTs, MP.evAnd, MP.evOr, MP.evDs, MP.evOs, MP.evAs, MP.evP, MP.evI, MP.lks, MP.M.bd, MP.M.ret, MP.lk, MP.lift, MP.unf, MP.look, MP.cap, MP.guard, MP.sv, MP.st, MP.tru, MP.cmpD, MP.ordD, MP.binD, MP.startE, MP.pad, MP.fitsA, MP.outsOf, MP.retR, MP.stoR, MP.onOwn, MP.onSlot, MP.augV, MP.bindT, MP.bindTs, MP.putOuts, MP.inD, MP.isD, MP.runFd, List.getD, show i < ts.length by omega, h]
def pk : List L2.Key := [.inr "AV", .inr "VA", .inr "To", .inr "Yo", .inr "fi", .inr "rn"]
def pv : List D := [.int (-1), .int (-1), .int (-1), .int (-1), .int (-1), .int 1]
theorem key2 (a b x y : Nat) : ((.inr ⟨[a, b].toArray⟩ : L2.Key) = .inr ⟨[x, y].toArray⟩) = (([x, y] == [a, b]) = true) := by
  apply propext
  constructor
  · intro h
    have := congrArg Array.toList (congrArg Str.cps (Sum.inr.inj h))
    simp [MP.exSs, MP.evT, MP.evTA, MP.evTO, MP.evTs, MP.evAnd, MP.evOr, MP.evDs, MP.evOs, MP.evAs, MP.evP, MP.evI, MP.lks, MP.M.bd, MP.M.ret, MP.lk, MP.lift, MP.unf, MP.look, MP.cap, MP.guard, MP.sv, MP.st, MP.tru, MP.cmpD, MP.ordD, MP.binD, MP.startE, MP.pad, MP.fitsA, MP.outsOf, MP.retR, MP.stoR, MP.onOwn, MP.onSlot, MP.augV, MP.bindT, MP.bindTs, MP.putOuts, MP.inD, MP.isD, MP.runFd] at this
    simp [MP.exSs, MP.evT, MP.evTA, MP.evTO, MP.evTs, MP.evAnd, MP.evOr, MP.evDs, MP.evOs, MP.evAs, MP.evP, MP.evI, MP.lks, MP.M.bd, MP.M.ret, MP.lk, MP.lift, MP.unf, MP.look, MP.cap, MP.guard, MP.sv, MP.st, MP.tru, MP.cmpD, MP.ordD, MP.binD, MP.startE, MP.pad, MP.fitsA, MP.outsOf, MP.retR, MP.stoR, MP.onOwn, MP.onSlot, MP.augV, MP.bindT, MP.bindTs, MP.putOuts, MP.inD, MP.isD, MP.runFd, this]
  · intro h
    simp [MP.exSs, MP.evT, MP.evTA, MP.evTO, MP.evTs, MP.evAnd, MP.evOr, MP.evDs, MP.evOs, MP.evAs, MP.evP, MP.evI, MP.lks, MP.M.bd, MP.M.ret, MP.lk, MP.lift, MP.unf, MP.look, MP.cap, MP.guard, MP.sv, MP.st, MP.tru, MP.cmpD, MP.ordD, MP.binD, MP.startE, MP.pad, MP.fitsA, MP.outsOf, MP.retR, MP.stoR, MP.onOwn, MP.onSlot, MP.augV, MP.bindT, MP.bindTs, MP.putOuts, MP.inD, MP.isD, MP.runFd] at h
    rw [h.1, h.2]
theorem kg (a b : Nat) : (kget pk pv (.inr ⟨[a, b].toArray⟩)).getD (.int 0) = .int (pairV a b) := by
  have h1 := key2 a b 65 86
  have h2 := key2 a b 86 65
  have h3 := key2 a b 84 111
  have h4 := key2 a b 89 111
  have h5 := key2 a b 102 105
  have h6 := key2 a b 114 110
  have e1 : (.inr "AV" : L2.Key) = .inr ⟨[65, 86].toArray⟩ := by decide +kernel
  have e2 : (.inr "VA" : L2.Key) = .inr ⟨[86, 65].toArray⟩ := by decide +kernel
  have e3 : (.inr "To" : L2.Key) = .inr ⟨[84, 111].toArray⟩ := by decide +kernel
  have e4 : (.inr "Yo" : L2.Key) = .inr ⟨[89, 111].toArray⟩ := by decide +kernel
  have e5 : (.inr "fi" : L2.Key) = .inr ⟨[102, 105].toArray⟩ := by decide +kernel
  have e6 : (.inr "rn" : L2.Key) = .inr ⟨[114, 110].toArray⟩ := by decide +kernel
  unfold pk pv
  rw [e1, e2, e3, e4, e5, e6]
  simp only [kget, h1, h2, h3, h4, h5, h6]
  by_cases h : ([114, 110] == [a, b]) = true
  · simp [MP.exSs, MP.evT, MP.evTA, MP.evTO, MP.evTs, MP.evAnd, MP.evOr, MP.evDs, MP.evOs, MP.evAs, MP.evP, MP.evI, MP.lks, MP.M.bd, MP.M.ret, MP.lk, MP.lift, MP.unf, MP.look, MP.cap, MP.guard, MP.sv, MP.st, MP.tru, MP.cmpD, MP.ordD, MP.binD, MP.startE, MP.pad, MP.fitsA, MP.outsOf, MP.retR, MP.stoR, MP.onOwn, MP.onSlot, MP.augV, MP.bindT, MP.bindTs, MP.putOuts, MP.inD, MP.isD, MP.runFd] at h
    obtain ⟨rfl, rfl⟩ := h
    rfl
  · have hn : rn a b = false := by
      unfold rn
      simp [MP.exSs, MP.evT, MP.evTA, MP.evTO, MP.evTs, MP.evAnd, MP.evOr, MP.evDs, MP.evOs, MP.evAs, MP.evP, MP.evI, MP.lks, MP.M.bd, MP.M.ret, MP.lk, MP.lift, MP.unf, MP.look, MP.cap, MP.guard, MP.sv, MP.st, MP.tru, MP.cmpD, MP.ordD, MP.binD, MP.startE, MP.pad, MP.fitsA, MP.outsOf, MP.retR, MP.stoR, MP.onOwn, MP.onSlot, MP.augV, MP.bindT, MP.bindTs, MP.putOuts, MP.inD, MP.isD, MP.runFd] at h ⊢
      intro x y; exact h x.symm y.symm
    unfold pairV pr
    simp only [hn, Bool.false_eq_true, if_false, List.any_cons, List.any_nil, Bool.or_false, Bool.or_eq_true, h]
    cases ([65, 86] == [a, b]) <;> cases ([86, 65] == [a, b]) <;> cases ([84, 111] == [a, b]) <;> cases ([89, 111] == [a, b]) <;> cases ([102, 105] == [a, b]) <;> rfl
/-- text_width's value -/
def tw (face ts : List Nat) : Int := tW face none ts
theorem text_width_ok (k : Nat) (ts face : List Nat) (size : Int) (hl : ts.length ≤ 1000) (hs : big64 size = true) : prog.call (k + 2) "text_width" [.d (.str ts), .d (.str face), .d (.int size)] = some (.d (.int (tw face ts * size)), [.d .non, .d .non, .d .non]) := by
  rw [call_eq _ (show findFd "text_width" prog.defs = some f_text_width from rfl)]
  have hL : ts.length ≤ LIM := by unfold LIM; omega
  have g1 : findG "PAIRS" prog.globs = some (.kdt pk pv) := rfl
  have M1 : evE (prog.ctx (k + 1)) f_text_width_c0 [.val (.str ts), .val (.str face), .val (.int size), .no, .no, .no] = some (.fresh ((ts.map (signW face)).map D.int), [.val (.str ts), .val (.str face), .val (.int size), .no, .no, .no]) := by
    rw [f_text_width_c0, evLc (xs := ts.map fun c => .str [c]) (e1 := [.val (.str ts), .val (.str face), .val (.int size), .no, .no, .no]) (ys := (ts.map (signW face)).map D.int) (e2 := [.val (.str ts), .val (.str face), .val (.int size), .no, .no, .no]) ?_ ?_ ?_ ?_]
    · rfl
    · simp [MP.exSs, MP.evT, MP.evTA, MP.evTO, MP.evTs, MP.evAnd, MP.evOr, MP.evDs, MP.evOs, MP.evAs, MP.evP, MP.evI, MP.lks, MP.M.bd, MP.M.ret, MP.lk, MP.lift, MP.unf, MP.look, MP.cap, MP.guard, MP.sv, MP.st, MP.tru, MP.cmpD, MP.ordD, MP.binD, MP.startE, MP.pad, MP.fitsA, MP.outsOf, MP.retR, MP.stoR, MP.onOwn, MP.onSlot, MP.augV, MP.bindT, MP.bindTs, MP.putOuts, MP.inD, MP.isD, MP.runFd, seqD]
    · simpa [MP.exSs, MP.evT, MP.evTA, MP.evTO, MP.evTs, MP.evAnd, MP.evOr, MP.evDs, MP.evOs, MP.evAs, MP.evP, MP.evI, MP.lks, MP.M.bd, MP.M.ret, MP.lk, MP.lift, MP.unf, MP.look, MP.cap, MP.guard, MP.sv, MP.st, MP.tru, MP.cmpD, MP.ordD, MP.binD, MP.startE, MP.pad, MP.fitsA, MP.outsOf, MP.retR, MP.stoR, MP.onOwn, MP.onSlot, MP.augV, MP.bindT, MP.bindTs, MP.putOuts, MP.inD, MP.isD, MP.runFd] using hL
    · rfl
    · rw [lcGo_all (fun d => match d with | .str [c] => .int (signW face c) | d => d)]
      · simp [MP.exSs, MP.evT, MP.evTA, MP.evTO, MP.evTs, MP.evAnd, MP.evOr, MP.evDs, MP.evOs, MP.evAs, MP.evP, MP.evI, MP.lks, MP.M.bd, MP.M.ret, MP.lk, MP.lift, MP.unf, MP.look, MP.cap, MP.guard, MP.sv, MP.st, MP.tru, MP.cmpD, MP.ordD, MP.binD, MP.startE, MP.pad, MP.fitsA, MP.outsOf, MP.retR, MP.stoR, MP.onOwn, MP.onSlot, MP.augV, MP.bindT, MP.bindTs, MP.putOuts, MP.inD, MP.isD, MP.runFd, wipeE]
      · intro x hx
        simp only [List.mem_map] at hx
        obtain ⟨c, _, rfl⟩ := hx
        refine ⟨_, rfl, ?_⟩
        have := sign_width_ok k c face
        simp [MP.exSs, MP.evT, MP.evTA, MP.evTO, MP.evTs, MP.evAnd, MP.evOr, MP.evDs, MP.evOs, MP.evAs, MP.evP, MP.evI, MP.lks, MP.M.bd, MP.M.ret, MP.lk, MP.lift, MP.unf, MP.look, MP.cap, MP.guard, MP.sv, MP.st, MP.tru, MP.cmpD, MP.ordD, MP.binD, MP.startE, MP.pad, MP.fitsA, MP.outsOf, MP.retR, MP.stoR, MP.onOwn, MP.onSlot, MP.augV, MP.bindT, MP.bindTs, MP.putOuts, MP.inD, MP.isD, MP.runFd, wipeE, this, putOuts]
  have M2 : ∀ s1 : Int, ¬ face = code → evE (prog.ctx (k + 1)) f_text_width_c1 [.val (.str ts), .val (.str face), .val (.int size), .val (.int s1), .no, .no] =
      some (.fresh (((List.range (ts.length - 1)).map fun i => pairV (ts.getD i 0) (ts.getD (i + 1) 0)).map D.int), [.val (.str ts), .val (.str face), .val (.int size), .val (.int s1), .no, .no]) := by
    intro s1 hf
    rw [f_text_width_c1, evLc (xs := (List.range (ts.length - 1)).map fun (i : Nat) => D.int (i : Int)) (e1 := [.val (.str ts), .val (.str face), .val (.int size), .val (.int s1), .no, .no]) (ys := ((List.range (ts.length - 1)).map fun i => pairV (ts.getD i 0) (ts.getD (i + 1) 0)).map D.int) (e2 := [.val (.str ts), .val (.str face), .val (.int size), .val (.int s1), .no, .no]) ?_ ?_ ?_ ?_]
    · rfl
    · have := rng0 (n := (ts.length : Int) - 1) (by omega) (by omega)
      rw [show ((ts.length : Int) - 1).toNat = ts.length - 1 by omega] at this
      simp [MP.exSs, MP.evT, MP.evTA, MP.evTO, MP.evTs, MP.evAnd, MP.evOr, MP.evDs, MP.evOs, MP.evAs, MP.evP, MP.evI, MP.lks, MP.M.bd, MP.M.ret, MP.lk, MP.lift, MP.unf, MP.look, MP.cap, MP.guard, MP.sv, MP.st, MP.tru, MP.cmpD, MP.ordD, MP.binD, MP.startE, MP.pad, MP.fitsA, MP.outsOf, MP.retR, MP.stoR, MP.onOwn, MP.onSlot, MP.augV, MP.bindT, MP.bindTs, MP.putOuts, MP.inD, MP.isD, MP.runFd, len_str hL, this]
    · simp [MP.exSs, MP.evT, MP.evTA, MP.evTO, MP.evTs, MP.evAnd, MP.evOr, MP.evDs, MP.evOs, MP.evAs, MP.evP, MP.evI, MP.lks, MP.M.bd, MP.M.ret, MP.lk, MP.lift, MP.unf, MP.look, MP.cap, MP.guard, MP.sv, MP.st, MP.tru, MP.cmpD, MP.ordD, MP.binD, MP.startE, MP.pad, MP.fitsA, MP.outsOf, MP.retR, MP.stoR, MP.onOwn, MP.onSlot, MP.augV, MP.bindT, MP.bindTs, MP.putOuts, MP.inD, MP.isD, MP.runFd]; omega
    · rfl
    · rw [lcGo_all (fun d => match d with | .int i => .int (pairV (ts.getD i.toNat 0) (ts.getD (i.toNat + 1) 0)) | d => d)]
      · simp [MP.exSs, MP.evT, MP.evTA, MP.evTO, MP.evTs, MP.evAnd, MP.evOr, MP.evDs, MP.evOs, MP.evAs, MP.evP, MP.evI, MP.lks, MP.M.bd, MP.M.ret, MP.lk, MP.lift, MP.unf, MP.look, MP.cap, MP.guard, MP.sv, MP.st, MP.tru, MP.cmpD, MP.ordD, MP.binD, MP.startE, MP.pad, MP.fitsA, MP.outsOf, MP.retR, MP.stoR, MP.onOwn, MP.onSlot, MP.augV, MP.bindT, MP.bindTs, MP.putOuts, MP.inD, MP.isD, MP.runFd, wipeE]
      · intro x hx
        simp only [List.mem_map, List.mem_range] at hx
        obtain ⟨i, hi, rfl⟩ := hx
        refine ⟨_, rfl, ?_⟩
        have h2 := cut2 (ts := ts) (i := i) (by omega)
        have h3 := kg (ts.getD i 0) (ts.getD (i + 1) 0)
        simp [MP.exSs, MP.evT, MP.evTA, MP.evTO, MP.evTs, MP.evAnd, MP.evOr, MP.evDs, MP.evOs, MP.evAs, MP.evP, MP.evI, MP.lks, MP.M.bd, MP.M.ret, MP.lk, MP.lift, MP.unf, MP.look, MP.cap, MP.guard, MP.sv, MP.st, MP.tru, MP.cmpD, MP.ordD, MP.binD, MP.startE, MP.pad, MP.fitsA, MP.outsOf, MP.retR, MP.stoR, MP.onOwn, MP.onSlot, MP.augV, MP.bindT, MP.bindTs, MP.putOuts, MP.inD, MP.isD, MP.runFd, wipeE, g1, sli_str _ _ hL, len_str hL, h2, metD, noLst]
        exact ⟨_, ⟨by simpa [MP.exSs, MP.evT, MP.evTA, MP.evTO, MP.evTs, MP.evAnd, MP.evOr, MP.evDs, MP.evOs, MP.evAs, MP.evP, MP.evI, MP.lks, MP.M.bd, MP.M.ret, MP.lk, MP.lift, MP.unf, MP.look, MP.cap, MP.guard, MP.sv, MP.st, MP.tru, MP.cmpD, MP.ordD, MP.binD, MP.startE, MP.pad, MP.fitsA, MP.outsOf, MP.retR, MP.stoR, MP.onOwn, MP.onSlot, MP.augV, MP.bindT, MP.bindTs, MP.putOuts, MP.inD, MP.isD, MP.runFd] using h3, rfl⟩, rfl⟩
  by_cases h1 : face = code
  · subst h1
    have := tW_code code rfl ts none
    simp [MP.exSs, MP.evT, MP.evTA, MP.evTO, MP.evTs, MP.evAnd, MP.evOr, MP.evDs, MP.evOs, MP.evAs, MP.evP, MP.evI, MP.lks, MP.M.bd, MP.M.ret, MP.lk, MP.lift, MP.unf, MP.look, MP.cap, MP.guard, MP.sv, MP.st, MP.tru, MP.cmpD, MP.ordD, MP.binD, MP.startE, MP.pad, MP.fitsA, MP.outsOf, MP.retR, MP.stoR, MP.onOwn, MP.onSlot, MP.augV, MP.bindT, MP.bindTs, MP.putOuts, MP.inD, MP.isD, MP.runFd, f_text_width, M1, e_code, intsD_map, intsD_comp, hs, tw, this]
  · simp [MP.exSs, MP.evT, MP.evTA, MP.evTO, MP.evTs, MP.evAnd, MP.evOr, MP.evDs, MP.evOs, MP.evAs, MP.evP, MP.evI, MP.lks, MP.M.bd, MP.M.ret, MP.lk, MP.lift, MP.unf, MP.look, MP.cap, MP.guard, MP.sv, MP.st, MP.tru, MP.cmpD, MP.ordD, MP.binD, MP.startE, MP.pad, MP.fitsA, MP.outsOf, MP.retR, MP.stoR, MP.onOwn, MP.onSlot, MP.augV, MP.bindT, MP.bindTs, MP.putOuts, MP.inD, MP.isD, MP.runFd, f_text_width, M1, M2, e_code, h1, intsD_map, intsD_comp, hs, tw, tW_none face h1, pS_range]

theorem space_ok (k : Nat) (size : Int) : prog.call (k + 1) "space_of" [.d (.int size)] = some (.d (.tup [.int (4 * size), .int (3 * size), .int size]), [.d .non]) := by
  rw [call_eq _ (show findFd "space_of" prog.defs = some f_space_of from rfl)]
  have b3 : big64 3 = true := by decide
  have b4 : big64 4 = true := by decide
  simp [MP.exSs, MP.evT, MP.evTA, MP.evTO, MP.evTs, MP.evAnd, MP.evOr, MP.evDs, MP.evOs, MP.evAs, MP.evP, MP.evI, MP.lks, MP.M.bd, MP.M.ret, MP.lk, MP.lift, MP.unf, MP.look, MP.cap, MP.guard, MP.sv, MP.st, MP.tru, MP.cmpD, MP.ordD, MP.binD, MP.startE, MP.pad, MP.fitsA, MP.outsOf, MP.retR, MP.stoR, MP.onOwn, MP.onSlot, MP.augV, MP.bindT, MP.bindTs, MP.putOuts, MP.inD, MP.isD, MP.runFd, f_space_of, b3, b4, LIM]
theorem height_ok (k : Nat) (size : Int) : prog.call (k + 1) "line_height" [.d (.int size)] = some (.d (.int (2 + size)), [.d .non]) := by
  rw [call_eq _ (show findFd "line_height" prog.defs = some f_line_height from rfl)]
  simp [MP.exSs, MP.evT, MP.evTA, MP.evTO, MP.evTs, MP.evAnd, MP.evOr, MP.evDs, MP.evOs, MP.evAs, MP.evP, MP.evI, MP.lks, MP.M.bd, MP.M.ret, MP.lk, MP.lift, MP.unf, MP.look, MP.cap, MP.guard, MP.sv, MP.st, MP.tru, MP.cmpD, MP.ordD, MP.binD, MP.startE, MP.pad, MP.fitsA, MP.outsOf, MP.retR, MP.stoR, MP.onOwn, MP.onSlot, MP.augV, MP.bindT, MP.bindTs, MP.putOuts, MP.inD, MP.isD, MP.runFd, f_line_height]
def edg (face ts : List Nat) (size : Int) : List Int := (List.range ts.length).map fun i => tw face (ts.take (i + 1)) * size
theorem cut1 {ts : List Nat} {i : Nat} (h : i < ts.length) : cutL ts none (some ((i : Int) + 1)) = ts.take (i + 1) := by
  have e2 : sixD ts.length ts.length (some ((i : Int) + 1)) = i + 1 := by
    simp only [sixD]
    rw [if_neg (by omega)]
    omega
  unfold cutL
  rw [e2]
  simp [MP.exSs, MP.evT, MP.evTA, MP.evTO, MP.evTs, MP.evAnd, MP.evOr, MP.evDs, MP.evOs, MP.evAs, MP.evP, MP.evI, MP.lks, MP.M.bd, MP.M.ret, MP.lk, MP.lift, MP.unf, MP.look, MP.cap, MP.guard, MP.sv, MP.st, MP.tru, MP.cmpD, MP.ordD, MP.binD, MP.startE, MP.pad, MP.fitsA, MP.outsOf, MP.retR, MP.stoR, MP.onOwn, MP.onSlot, MP.augV, MP.bindT, MP.bindTs, MP.putOuts, MP.inD, MP.isD, MP.runFd, sixD]
theorem edges_ok (k : Nat) (ts face : List Nat) (size : Int) (hl : ts.length ≤ 1000) (hs : big64 size = true) : prog.call (k + 3) "edges_of" [.d (.str ts), .d (.str face), .d (.int size)] = some (.fresh ((edg face ts size).map D.int), [.d .non, .d .non, .d .non]) := by
  rw [call_eq _ (show findFd "edges_of" prog.defs = some f_edges_of from rfl)]
  have hL : ts.length ≤ LIM := by unfold LIM; omega
  have M1 : evE (prog.ctx (k + 2)) f_edges_of_c0 [.val (.str ts), .val (.str face), .val (.int size), .no] =
      some (.fresh ((edg face ts size).map D.int), [.val (.str ts), .val (.str face), .val (.int size), .no]) := by
    rw [f_edges_of_c0, evLc (xs := (List.range ts.length).map fun (i : Nat) => D.int (i : Int)) (e1 := [.val (.str ts), .val (.str face), .val (.int size), .no]) (ys := (edg face ts size).map D.int) (e2 := [.val (.str ts), .val (.str face), .val (.int size), .no]) ?_ ?_ ?_ ?_]
    · rfl
    · have := rngN (n := ts.length) (by omega)
      simp [MP.exSs, MP.evT, MP.evTA, MP.evTO, MP.evTs, MP.evAnd, MP.evOr, MP.evDs, MP.evOs, MP.evAs, MP.evP, MP.evI, MP.lks, MP.M.bd, MP.M.ret, MP.lk, MP.lift, MP.unf, MP.look, MP.cap, MP.guard, MP.sv, MP.st, MP.tru, MP.cmpD, MP.ordD, MP.binD, MP.startE, MP.pad, MP.fitsA, MP.outsOf, MP.retR, MP.stoR, MP.onOwn, MP.onSlot, MP.augV, MP.bindT, MP.bindTs, MP.putOuts, MP.inD, MP.isD, MP.runFd, len_str hL, this]
    · simpa [MP.exSs, MP.evT, MP.evTA, MP.evTO, MP.evTs, MP.evAnd, MP.evOr, MP.evDs, MP.evOs, MP.evAs, MP.evP, MP.evI, MP.lks, MP.M.bd, MP.M.ret, MP.lk, MP.lift, MP.unf, MP.look, MP.cap, MP.guard, MP.sv, MP.st, MP.tru, MP.cmpD, MP.ordD, MP.binD, MP.startE, MP.pad, MP.fitsA, MP.outsOf, MP.retR, MP.stoR, MP.onOwn, MP.onSlot, MP.augV, MP.bindT, MP.bindTs, MP.putOuts, MP.inD, MP.isD, MP.runFd] using hL
    · rfl
    · rw [lcGo_all (fun d => match d with | .int i => .int (tw face (ts.take (i.toNat + 1)) * size) | d => d)]
      · simp [MP.exSs, MP.evT, MP.evTA, MP.evTO, MP.evTs, MP.evAnd, MP.evOr, MP.evDs, MP.evOs, MP.evAs, MP.evP, MP.evI, MP.lks, MP.M.bd, MP.M.ret, MP.lk, MP.lift, MP.unf, MP.look, MP.cap, MP.guard, MP.sv, MP.st, MP.tru, MP.cmpD, MP.ordD, MP.binD, MP.startE, MP.pad, MP.fitsA, MP.outsOf, MP.retR, MP.stoR, MP.onOwn, MP.onSlot, MP.augV, MP.bindT, MP.bindTs, MP.putOuts, MP.inD, MP.isD, MP.runFd, wipeE, edg]
      · intro x hx
        simp only [List.mem_map, List.mem_range] at hx
        obtain ⟨i, hi, rfl⟩ := hx
        refine ⟨_, rfl, ?_⟩
        have h2 := cut1 hi
        have h3 := text_width_ok k (ts.take (i + 1)) face size (by simp [MP.exSs, MP.evT, MP.evTA, MP.evTO, MP.evTs, MP.evAnd, MP.evOr, MP.evDs, MP.evOs, MP.evAs, MP.evP, MP.evI, MP.lks, MP.M.bd, MP.M.ret, MP.lk, MP.lift, MP.unf, MP.look, MP.cap, MP.guard, MP.sv, MP.st, MP.tru, MP.cmpD, MP.ordD, MP.binD, MP.startE, MP.pad, MP.fitsA, MP.outsOf, MP.retR, MP.stoR, MP.onOwn, MP.onSlot, MP.augV, MP.bindT, MP.bindTs, MP.putOuts, MP.inD, MP.isD, MP.runFd]; omega) hs
        simp [MP.exSs, MP.evT, MP.evTA, MP.evTO, MP.evTs, MP.evAnd, MP.evOr, MP.evDs, MP.evOs, MP.evAs, MP.evP, MP.evI, MP.lks, MP.M.bd, MP.M.ret, MP.lk, MP.lift, MP.unf, MP.look, MP.cap, MP.guard, MP.sv, MP.st, MP.tru, MP.cmpD, MP.ordD, MP.binD, MP.startE, MP.pad, MP.fitsA, MP.outsOf, MP.retR, MP.stoR, MP.onOwn, MP.onSlot, MP.augV, MP.bindT, MP.bindTs, MP.putOuts, MP.inD, MP.isD, MP.runFd, wipeE, sli_str _ _ hL, len_str hL, h2, h3]
  simp [MP.exSs, MP.evT, MP.evTA, MP.evTO, MP.evTs, MP.evAnd, MP.evOr, MP.evDs, MP.evOs, MP.evAs, MP.evP, MP.evI, MP.lks, MP.M.bd, MP.M.ret, MP.lk, MP.lift, MP.unf, MP.look, MP.cap, MP.guard, MP.sv, MP.st, MP.tru, MP.cmpD, MP.ordD, MP.binD, MP.startE, MP.pad, MP.fitsA, MP.outsOf, MP.retR, MP.stoR, MP.onOwn, MP.onSlot, MP.augV, MP.bindT, MP.bindTs, MP.putOuts, MP.inD, MP.isD, MP.runFd, f_edges_of, M1]

/-! the place under x -/
def pu (x : Int) : Int → Nat → List Int → Option Nat
  | _, _, [] => none
  | last, i, e :: r => if last ≤ x ∧ x < e then some i else pu x e (i + 1) r
def oD : Option Nat → D
  | some j => .int (j : Int)
  | none => .non
def oO : Option Nat → O
  | some j => .rt (.d (.int (j : Int)))
  | none => .nx
theorem pu_go (c : MP.Ctx) (x : Int) (a b d : D) : ∀ (r : List Int) (last : Int) (i : Nat) (u v : SV), ∃ l n m, forGo (.tup [.nam 5, .nam 6]) (exSs c f_place_under_b0) (enmGo i (r.map D.int)) [.val a, .val b, .val d, .val (.int x), .val (.int last), u, v] = some (oO (pu x last i r), [.val a, .val b, .val d, .val (.int x), l, n, m])
  | [], last, i, u, v => ⟨_, _, _, rfl⟩
  | e :: r, last, i, u, v => by
    unfold pu
    by_cases h1 : last ≤ x
    · by_cases h2 : x < e
      · refine ⟨.val (.int last), .val (.int i), .val (.int e), ?_⟩
        simp [MP.exSs, MP.evT, MP.evTA, MP.evTO, MP.evTs, MP.evAnd, MP.evOr, MP.evDs, MP.evOs, MP.evAs, MP.evP, MP.evI, MP.lks, MP.M.bd, MP.M.ret, MP.lk, MP.lift, MP.unf, MP.look, MP.cap, MP.guard, MP.sv, MP.st, MP.tru, MP.cmpD, MP.ordD, MP.binD, MP.startE, MP.pad, MP.fitsA, MP.outsOf, MP.retR, MP.stoR, MP.onOwn, MP.onSlot, MP.augV, MP.bindT, MP.bindTs, MP.putOuts, MP.inD, MP.isD, MP.runFd, enmGo, forGo, f_place_under_b0, h1, h2, oO]
      · obtain ⟨l, n, m, h⟩ := pu_go c x a b d r e (i + 1) (.val (.int i)) (.val (.int e))
        refine ⟨l, n, m, ?_⟩
        rw [if_neg (by omega), ← h]
        simp [MP.exSs, MP.evT, MP.evTA, MP.evTO, MP.evTs, MP.evAnd, MP.evOr, MP.evDs, MP.evOs, MP.evAs, MP.evP, MP.evI, MP.lks, MP.M.bd, MP.M.ret, MP.lk, MP.lift, MP.unf, MP.look, MP.cap, MP.guard, MP.sv, MP.st, MP.tru, MP.cmpD, MP.ordD, MP.binD, MP.startE, MP.pad, MP.fitsA, MP.outsOf, MP.retR, MP.stoR, MP.onOwn, MP.onSlot, MP.augV, MP.bindT, MP.bindTs, MP.putOuts, MP.inD, MP.isD, MP.runFd, enmGo, forGo, f_place_under_b0, h1, h2]
    · obtain ⟨l, n, m, h⟩ := pu_go c x a b d r e (i + 1) (.val (.int i)) (.val (.int e))
      refine ⟨l, n, m, ?_⟩
      rw [if_neg (by omega), ← h]
      simp [MP.exSs, MP.evT, MP.evTA, MP.evTO, MP.evTs, MP.evAnd, MP.evOr, MP.evDs, MP.evOs, MP.evAs, MP.evP, MP.evI, MP.lks, MP.M.bd, MP.M.ret, MP.lk, MP.lift, MP.unf, MP.look, MP.cap, MP.guard, MP.sv, MP.st, MP.tru, MP.cmpD, MP.ordD, MP.binD, MP.startE, MP.pad, MP.fitsA, MP.outsOf, MP.retR, MP.stoR, MP.onOwn, MP.onSlot, MP.augV, MP.bindT, MP.bindTs, MP.putOuts, MP.inD, MP.isD, MP.runFd, enmGo, forGo, f_place_under_b0, h1]
theorem exS_for (c : MP.Ctx) (t : T) (it : I) (b : List S) {e e1 : MP.Env} {xs : List D} (h : evI c it e = some (xs, e1)) : exS c (.for t it b) e = forGo t (exSs c b) xs e1 := by
  simp only [exS]
  exact bd_eq h
theorem under_ok (k : Nat) (ts face : List Nat) (size x : Int) (hl : ts.length ≤ 1000) (hs : big64 size = true) : prog.call (k + 4) "place_under" [.d (.str ts), .d (.str face), .d (.int size), .d (.int x)] = some (.d (oD (pu x 0 0 (edg face ts size))), [.d .non, .d .non, .d .non, .d .non]) := by
  rw [call_eq _ (show findFd "place_under" prog.defs = some f_place_under from rfl)]
  have h3 := edges_ok k ts face size hl hs
  have hi : evI (prog.ctx (k + 3)) (.enm (.cal "edges_of" [none, none, none] [.var 0, .var 1, .var 2])) [.val (.str ts), .val (.str face), .val (.int size), .val (.int x), .val (.int 0), .no, .no] = some (enmGo 0 ((edg face ts size).map D.int), [.val (.str ts), .val (.str face), .val (.int size), .val (.int x), .val (.int 0), .no, .no]) := by
    simp [MP.exSs, MP.evT, MP.evTA, MP.evTO, MP.evTs, MP.evAnd, MP.evOr, MP.evDs, MP.evOs, MP.evAs, MP.evP, MP.evI, MP.lks, MP.M.bd, MP.M.ret, MP.lk, MP.lift, MP.unf, MP.look, MP.cap, MP.guard, MP.sv, MP.st, MP.tru, MP.cmpD, MP.ordD, MP.binD, MP.startE, MP.pad, MP.fitsA, MP.outsOf, MP.retR, MP.stoR, MP.onOwn, MP.onSlot, MP.augV, MP.bindT, MP.bindTs, MP.putOuts, MP.inD, MP.isD, MP.runFd, h3, enmD]
  obtain ⟨l, n, m, hg⟩ := pu_go (prog.ctx (k + 3)) x (.str ts) (.str face) (.int size) (edg face ts size) 0 0 .no .no
  have hf := exS_for (prog.ctx (k + 3)) (.tup [.nam 5, .nam 6]) _ f_place_under_b0 hi
  rw [hg] at hf
  cases hp : pu x 0 0 (edg face ts size) with
  | none =>
    rw [hp] at hf
    simp [MP.exSs, MP.evT, MP.evTA, MP.evTO, MP.evTs, MP.evAnd, MP.evOr, MP.evDs, MP.evOs, MP.evAs, MP.evP, MP.evI, MP.lks, MP.M.bd, MP.M.ret, MP.lk, MP.lift, MP.unf, MP.look, MP.cap, MP.guard, MP.sv, MP.st, MP.tru, MP.cmpD, MP.ordD, MP.binD, MP.startE, MP.pad, MP.fitsA, MP.outsOf, MP.retR, MP.stoR, MP.onOwn, MP.onSlot, MP.augV, MP.bindT, MP.bindTs, MP.putOuts, MP.inD, MP.isD, MP.runFd, f_place_under, hf, oO, oD]
  | some j =>
    rw [hp] at hf
    simp [MP.exSs, MP.evT, MP.evTA, MP.evTO, MP.evTs, MP.evAnd, MP.evOr, MP.evDs, MP.evOs, MP.evAs, MP.evP, MP.evI, MP.lks, MP.M.bd, MP.M.ret, MP.lk, MP.lift, MP.unf, MP.look, MP.cap, MP.guard, MP.sv, MP.st, MP.tru, MP.cmpD, MP.ordD, MP.binD, MP.startE, MP.pad, MP.fitsA, MP.outsOf, MP.retR, MP.stoR, MP.onOwn, MP.onSlot, MP.augV, MP.bindT, MP.bindTs, MP.putOuts, MP.inD, MP.isD, MP.runFd, f_place_under, hf, oO, oD]
theorem pu_filter (x : Int) : ∀ (r : List Int) (last : Int) (i : Nat), pu x last i r = (((List.range r.length).filter fun k => decide ((if 0 < k then r.getD (k - 1) 0 else last) ≤ x) && decide (x < r.getD k 0)).head?).map (· + i)
  | [], _, _ => rfl
  | e :: r, last, i => by
    rw [List.length_cons, List.range_succ_eq_map]
    unfold pu
    rw [List.filter_cons]
    by_cases h : last ≤ x ∧ x < e
    · rw [if_pos h, if_pos (by simp [MP.exSs, MP.evT, MP.evTA, MP.evTO, MP.evTs, MP.evAnd, MP.evOr, MP.evDs, MP.evOs, MP.evAs, MP.evP, MP.evI, MP.lks, MP.M.bd, MP.M.ret, MP.lk, MP.lift, MP.unf, MP.look, MP.cap, MP.guard, MP.sv, MP.st, MP.tru, MP.cmpD, MP.ordD, MP.binD, MP.startE, MP.pad, MP.fitsA, MP.outsOf, MP.retR, MP.stoR, MP.onOwn, MP.onSlot, MP.augV, MP.bindT, MP.bindTs, MP.putOuts, MP.inD, MP.isD, MP.runFd, h])]; simp [MP.exSs, MP.evT, MP.evTA, MP.evTO, MP.evTs, MP.evAnd, MP.evOr, MP.evDs, MP.evOs, MP.evAs, MP.evP, MP.evI, MP.lks, MP.M.bd, MP.M.ret, MP.lk, MP.lift, MP.unf, MP.look, MP.cap, MP.guard, MP.sv, MP.st, MP.tru, MP.cmpD, MP.ordD, MP.binD, MP.startE, MP.pad, MP.fitsA, MP.outsOf, MP.retR, MP.stoR, MP.onOwn, MP.onSlot, MP.augV, MP.bindT, MP.bindTs, MP.putOuts, MP.inD, MP.isD, MP.runFd]
    · rw [if_neg h, if_neg (by simpa [MP.exSs, MP.evT, MP.evTA, MP.evTO, MP.evTs, MP.evAnd, MP.evOr, MP.evDs, MP.evOs, MP.evAs, MP.evP, MP.evI, MP.lks, MP.M.bd, MP.M.ret, MP.lk, MP.lift, MP.unf, MP.look, MP.cap, MP.guard, MP.sv, MP.st, MP.tru, MP.cmpD, MP.ordD, MP.binD, MP.startE, MP.pad, MP.fitsA, MP.outsOf, MP.retR, MP.stoR, MP.onOwn, MP.onSlot, MP.augV, MP.bindT, MP.bindTs, MP.putOuts, MP.inD, MP.isD, MP.runFd] using h), pu_filter x r e (i + 1), List.filter_map, List.head?_map, Option.map_map]
      have e1 : (fun k => decide ((if 0 < k then r.getD (k - 1) 0 else e) ≤ x) && decide (x < r.getD k 0)) = ((fun k => decide ((if 0 < k then (e :: r).getD (k - 1) 0 else last) ≤ x) && decide (x < (e :: r).getD k 0)) ∘ Nat.succ) := by
        funext k
        cases k <;> simp [MP.exSs, MP.evT, MP.evTA, MP.evTO, MP.evTs, MP.evAnd, MP.evOr, MP.evDs, MP.evOs, MP.evAs, MP.evP, MP.evI, MP.lks, MP.M.bd, MP.M.ret, MP.lk, MP.lift, MP.unf, MP.look, MP.cap, MP.guard, MP.sv, MP.st, MP.tru, MP.cmpD, MP.ordD, MP.binD, MP.startE, MP.pad, MP.fitsA, MP.outsOf, MP.retR, MP.stoR, MP.onOwn, MP.onSlot, MP.augV, MP.bindT, MP.bindTs, MP.putOuts, MP.inD, MP.isD, MP.runFd]
      rw [e1]
      congr 1
      funext k
      simp [MP.exSs, MP.evT, MP.evTA, MP.evTO, MP.evTs, MP.evAnd, MP.evOr, MP.evDs, MP.evOs, MP.evAs, MP.evP, MP.evI, MP.lks, MP.M.bd, MP.M.ret, MP.lk, MP.lift, MP.unf, MP.look, MP.cap, MP.guard, MP.sv, MP.st, MP.tru, MP.cmpD, MP.ordD, MP.binD, MP.startE, MP.pad, MP.fitsA, MP.outsOf, MP.retR, MP.stoR, MP.onOwn, MP.onSlot, MP.augV, MP.bindT, MP.bindTs, MP.putOuts, MP.inD, MP.isD, MP.runFd]; omega
theorem fitting_ok (k : Nat) (ts face : List Nat) (size w : Int) (hl : ts.length ≤ 1000) (hs : big64 size = true) : prog.call (k + 4) "fitting" [.d (.str ts), .d (.str face), .d (.int size), .d (.int w)] = some (.d (.int (((edg face ts size).filter fun e => decide (e ≤ w)).length : Nat)), [.d .non, .d .non, .d .non, .d .non]) := by
  rw [call_eq _ (show findFd "fitting" prog.defs = some f_fitting from rfl)]
  have h3 := edges_ok k ts face size hl hs
  have M1 : evE (prog.ctx (k + 3)) f_fitting_c0 [.val (.str ts), .val (.str face), .val (.int size), .val (.int w), .no] =
      some (.fresh (((edg face ts size).filter fun e => decide (e ≤ w)).map D.int), [.val (.str ts), .val (.str face), .val (.int size), .val (.int w), .no]) := by
    rw [f_fitting_c0, evLc (xs := (edg face ts size).map D.int) (e1 := [.val (.str ts), .val (.str face), .val (.int size), .val (.int w), .no]) (ys := ((edg face ts size).filter fun e => decide (e ≤ w)).map D.int) (e2 := [.val (.str ts), .val (.str face), .val (.int size), .val (.int w), .no]) ?_ ?_ ?_ ?_]
    · rfl
    · simp [MP.exSs, MP.evT, MP.evTA, MP.evTO, MP.evTs, MP.evAnd, MP.evOr, MP.evDs, MP.evOs, MP.evAs, MP.evP, MP.evI, MP.lks, MP.M.bd, MP.M.ret, MP.lk, MP.lift, MP.unf, MP.look, MP.cap, MP.guard, MP.sv, MP.st, MP.tru, MP.cmpD, MP.ordD, MP.binD, MP.startE, MP.pad, MP.fitsA, MP.outsOf, MP.retR, MP.stoR, MP.onOwn, MP.onSlot, MP.augV, MP.bindT, MP.bindTs, MP.putOuts, MP.inD, MP.isD, MP.runFd, h3, seqD]
    · simp [MP.exSs, MP.evT, MP.evTA, MP.evTO, MP.evTs, MP.evAnd, MP.evOr, MP.evDs, MP.evOs, MP.evAs, MP.evP, MP.evI, MP.lks, MP.M.bd, MP.M.ret, MP.lk, MP.lift, MP.unf, MP.look, MP.cap, MP.guard, MP.sv, MP.st, MP.tru, MP.cmpD, MP.ordD, MP.binD, MP.startE, MP.pad, MP.fitsA, MP.outsOf, MP.retR, MP.stoR, MP.onOwn, MP.onSlot, MP.augV, MP.bindT, MP.bindTs, MP.putOuts, MP.inD, MP.isD, MP.runFd, edg, LIM]; omega
    · rfl
    · rw [lcGo_map (fun d => match d with | .int i => decide (i ≤ w) | _ => false) (fun d => d)]
      · simp [MP.exSs, MP.evT, MP.evTA, MP.evTO, MP.evTs, MP.evAnd, MP.evOr, MP.evDs, MP.evOs, MP.evAs, MP.evP, MP.evI, MP.lks, MP.M.bd, MP.M.ret, MP.lk, MP.lift, MP.unf, MP.look, MP.cap, MP.guard, MP.sv, MP.st, MP.tru, MP.cmpD, MP.ordD, MP.binD, MP.startE, MP.pad, MP.fitsA, MP.outsOf, MP.retR, MP.stoR, MP.onOwn, MP.onSlot, MP.augV, MP.bindT, MP.bindTs, MP.putOuts, MP.inD, MP.isD, MP.runFd, wipeE, List.filter_map]; rfl
      · intro y hy
        simp only [List.mem_map] at hy
        obtain ⟨i, _, rfl⟩ := hy
        refine ⟨_, rfl, ?_⟩
        simp [MP.exSs, MP.evT, MP.evTA, MP.evTO, MP.evTs, MP.evAnd, MP.evOr, MP.evDs, MP.evOs, MP.evAs, MP.evP, MP.evI, MP.lks, MP.M.bd, MP.M.ret, MP.lk, MP.lift, MP.unf, MP.look, MP.cap, MP.guard, MP.sv, MP.st, MP.tru, MP.cmpD, MP.ordD, MP.binD, MP.startE, MP.pad, MP.fitsA, MP.outsOf, MP.retR, MP.stoR, MP.onOwn, MP.onSlot, MP.augV, MP.bindT, MP.bindTs, MP.putOuts, MP.inD, MP.isD, MP.runFd, wipeE]
  simp [MP.exSs, MP.evT, MP.evTA, MP.evTO, MP.evTs, MP.evAnd, MP.evOr, MP.evDs, MP.evOs, MP.evAs, MP.evP, MP.evI, MP.lks, MP.M.bd, MP.M.ret, MP.lk, MP.lift, MP.unf, MP.look, MP.cap, MP.guard, MP.sv, MP.st, MP.tru, MP.cmpD, MP.ordD, MP.binD, MP.startE, MP.pad, MP.fitsA, MP.outsOf, MP.retR, MP.stoR, MP.onOwn, MP.onSlot, MP.augV, MP.bindT, MP.bindTs, MP.putOuts, MP.inD, MP.isD, MP.runFd, f_fitting, M1]
end K50

namespace K50
open PySem MP
/-! the mathematics of the widths -/
def lastO (p : Option Nat) (l : List Nat) : Option Nat := match l.getLast? with
  | some a => some a
  | none => p
theorem tW_app (face : List Nat) : ∀ (l : List Nat) (p : Option Nat) (m : List Nat), tW face p (l ++ m) = tW face p l + tW face (lastO p l) m
  | [], p, m => by simp [MP.exSs, MP.evT, MP.evTA, MP.evTO, MP.evTs, MP.evAnd, MP.evOr, MP.evDs, MP.evOs, MP.evAs, MP.evP, MP.evI, MP.lks, MP.M.bd, MP.M.ret, MP.lk, MP.lift, MP.unf, MP.look, MP.cap, MP.guard, MP.sv, MP.st, MP.tru, MP.cmpD, MP.ordD, MP.binD, MP.startE, MP.pad, MP.fitsA, MP.outsOf, MP.retR, MP.stoR, MP.onOwn, MP.onSlot, MP.augV, MP.bindT, MP.bindTs, MP.putOuts, MP.inD, MP.isD, MP.runFd, tW, lastO]
  | c :: r, p, m => by
    have ih := tW_app face r (some c) m
    have e : lastO (some c) r = lastO p (c :: r) := by
      unfold lastO
      cases r with
      | nil => rfl
      | cons d s => rw [List.getLast?_cons_cons]; cases h : (d :: s).getLast? <;> simp [MP.exSs, MP.evT, MP.evTA, MP.evTO, MP.evTs, MP.evAnd, MP.evOr, MP.evDs, MP.evOs, MP.evAs, MP.evP, MP.evI, MP.lks, MP.M.bd, MP.M.ret, MP.lk, MP.lift, MP.unf, MP.look, MP.cap, MP.guard, MP.sv, MP.st, MP.tru, MP.cmpD, MP.ordD, MP.binD, MP.startE, MP.pad, MP.fitsA, MP.outsOf, MP.retR, MP.stoR, MP.onOwn, MP.onSlot, MP.augV, MP.bindT, MP.bindTs, MP.putOuts, MP.inD, MP.isD, MP.runFd] at h ⊢
    simp only [List.cons_append, tW, ih, e]; omega
theorem tw_step (face ts : List Nat) {i : Nat} (h : i < ts.length) : tw face (ts.take (i + 1)) = tw face (ts.take i) + (signW face (ts.getD i 0) + if 0 < i then nearV face (ts.getD (i - 1) 0) (ts.getD i 0) else 0) := by
  have e : ts.take (i + 1) = ts.take i ++ [ts.getD i 0] := by
    rw [List.take_succ_eq_append_getElem h]; simp [MP.exSs, MP.evT, MP.evTA, MP.evTO, MP.evTs, MP.evAnd, MP.evOr, MP.evDs, MP.evOs, MP.evAs, MP.evP, MP.evI, MP.lks, MP.M.bd, MP.M.ret, MP.lk, MP.lift, MP.unf, MP.look, MP.cap, MP.guard, MP.sv, MP.st, MP.tru, MP.cmpD, MP.ordD, MP.binD, MP.startE, MP.pad, MP.fitsA, MP.outsOf, MP.retR, MP.stoR, MP.onOwn, MP.onSlot, MP.augV, MP.bindT, MP.bindTs, MP.putOuts, MP.inD, MP.isD, MP.runFd, List.getD, h]
  unfold tw
  rw [e, tW_app]
  simp only [tW]
  cases i with
  | zero => simp [MP.exSs, MP.evT, MP.evTA, MP.evTO, MP.evTs, MP.evAnd, MP.evOr, MP.evDs, MP.evOs, MP.evAs, MP.evP, MP.evI, MP.lks, MP.M.bd, MP.M.ret, MP.lk, MP.lift, MP.unf, MP.look, MP.cap, MP.guard, MP.sv, MP.st, MP.tru, MP.cmpD, MP.ordD, MP.binD, MP.startE, MP.pad, MP.fitsA, MP.outsOf, MP.retR, MP.stoR, MP.onOwn, MP.onSlot, MP.augV, MP.bindT, MP.bindTs, MP.putOuts, MP.inD, MP.isD, MP.runFd, lastO, nearO]
  | succ j =>
    have hl : lastO none (ts.take (j + 1)) = some (ts.getD j 0) := by
      unfold lastO
      rw [List.take_succ_eq_append_getElem (by omega), List.getLast?_append]
      simp [MP.exSs, MP.evT, MP.evTA, MP.evTO, MP.evTs, MP.evAnd, MP.evOr, MP.evDs, MP.evOs, MP.evAs, MP.evP, MP.evI, MP.lks, MP.M.bd, MP.M.ret, MP.lk, MP.lift, MP.unf, MP.look, MP.cap, MP.guard, MP.sv, MP.st, MP.tru, MP.cmpD, MP.ordD, MP.binD, MP.startE, MP.pad, MP.fitsA, MP.outsOf, MP.retR, MP.stoR, MP.onOwn, MP.onSlot, MP.augV, MP.bindT, MP.bindTs, MP.putOuts, MP.inD, MP.isD, MP.runFd, List.getD, show j < ts.length by omega]
    rw [hl]
    simp [MP.exSs, MP.evT, MP.evTA, MP.evTO, MP.evTs, MP.evAnd, MP.evOr, MP.evDs, MP.evOs, MP.evAs, MP.evP, MP.evI, MP.lks, MP.M.bd, MP.M.ret, MP.lk, MP.lift, MP.unf, MP.look, MP.cap, MP.guard, MP.sv, MP.st, MP.tru, MP.cmpD, MP.ordD, MP.binD, MP.startE, MP.pad, MP.fitsA, MP.outsOf, MP.retR, MP.stoR, MP.onOwn, MP.onSlot, MP.augV, MP.bindT, MP.bindTs, MP.putOuts, MP.inD, MP.isD, MP.runFd, nearO]
theorem tw_cut (face ts : List Nat) (i : Nat) (h : i ≤ ts.length) : tw face (ts.take i) + tw face (ts.drop i) = tw face ts - if 0 < i ∧ i < ts.length then nearV face (ts.getD (i - 1) 0) (ts.getD i 0) else 0 := by
  have e := tW_app face (ts.take i) none (ts.drop i)
  rw [List.take_append_drop] at e
  unfold tw
  rw [e]
  cases hd : ts.drop i with
  | nil =>
    have : ¬ i < ts.length := by
      have := congrArg List.length hd
      simp [MP.exSs, MP.evT, MP.evTA, MP.evTO, MP.evTs, MP.evAnd, MP.evOr, MP.evDs, MP.evOs, MP.evAs, MP.evP, MP.evI, MP.lks, MP.M.bd, MP.M.ret, MP.lk, MP.lift, MP.unf, MP.look, MP.cap, MP.guard, MP.sv, MP.st, MP.tru, MP.cmpD, MP.ordD, MP.binD, MP.startE, MP.pad, MP.fitsA, MP.outsOf, MP.retR, MP.stoR, MP.onOwn, MP.onSlot, MP.augV, MP.bindT, MP.bindTs, MP.putOuts, MP.inD, MP.isD, MP.runFd] at this; omega
    simp [MP.exSs, MP.evT, MP.evTA, MP.evTO, MP.evTs, MP.evAnd, MP.evOr, MP.evDs, MP.evOs, MP.evAs, MP.evP, MP.evI, MP.lks, MP.M.bd, MP.M.ret, MP.lk, MP.lift, MP.unf, MP.look, MP.cap, MP.guard, MP.sv, MP.st, MP.tru, MP.cmpD, MP.ordD, MP.binD, MP.startE, MP.pad, MP.fitsA, MP.outsOf, MP.retR, MP.stoR, MP.onOwn, MP.onSlot, MP.augV, MP.bindT, MP.bindTs, MP.putOuts, MP.inD, MP.isD, MP.runFd, tW, this]
  | cons c r =>
    have hi : i < ts.length := by
      have := congrArg List.length hd
      simp [MP.exSs, MP.evT, MP.evTA, MP.evTO, MP.evTs, MP.evAnd, MP.evOr, MP.evDs, MP.evOs, MP.evAs, MP.evP, MP.evI, MP.lks, MP.M.bd, MP.M.ret, MP.lk, MP.lift, MP.unf, MP.look, MP.cap, MP.guard, MP.sv, MP.st, MP.tru, MP.cmpD, MP.ordD, MP.binD, MP.startE, MP.pad, MP.fitsA, MP.outsOf, MP.retR, MP.stoR, MP.onOwn, MP.onSlot, MP.augV, MP.bindT, MP.bindTs, MP.putOuts, MP.inD, MP.isD, MP.runFd] at this; omega
    have hc : c = ts.getD i 0 := by
      have := List.drop_eq_getElem_cons hi
      rw [hd] at this
      injection this with h1 h2
      rw [h1]; simp [MP.exSs, MP.evT, MP.evTA, MP.evTO, MP.evTs, MP.evAnd, MP.evOr, MP.evDs, MP.evOs, MP.evAs, MP.evP, MP.evI, MP.lks, MP.M.bd, MP.M.ret, MP.lk, MP.lift, MP.unf, MP.look, MP.cap, MP.guard, MP.sv, MP.st, MP.tru, MP.cmpD, MP.ordD, MP.binD, MP.startE, MP.pad, MP.fitsA, MP.outsOf, MP.retR, MP.stoR, MP.onOwn, MP.onSlot, MP.augV, MP.bindT, MP.bindTs, MP.putOuts, MP.inD, MP.isD, MP.runFd, List.getD, hi]
    cases i with
    | zero => simp [MP.exSs, MP.evT, MP.evTA, MP.evTO, MP.evTs, MP.evAnd, MP.evOr, MP.evDs, MP.evOs, MP.evAs, MP.evP, MP.evI, MP.lks, MP.M.bd, MP.M.ret, MP.lk, MP.lift, MP.unf, MP.look, MP.cap, MP.guard, MP.sv, MP.st, MP.tru, MP.cmpD, MP.ordD, MP.binD, MP.startE, MP.pad, MP.fitsA, MP.outsOf, MP.retR, MP.stoR, MP.onOwn, MP.onSlot, MP.augV, MP.bindT, MP.bindTs, MP.putOuts, MP.inD, MP.isD, MP.runFd, lastO, tW, nearO]
    | succ j =>
      have hl : lastO none (ts.take (j + 1)) = some (ts.getD j 0) := by
        unfold lastO
        rw [List.take_succ_eq_append_getElem (by omega), List.getLast?_append]
        simp [MP.exSs, MP.evT, MP.evTA, MP.evTO, MP.evTs, MP.evAnd, MP.evOr, MP.evDs, MP.evOs, MP.evAs, MP.evP, MP.evI, MP.lks, MP.M.bd, MP.M.ret, MP.lk, MP.lift, MP.unf, MP.look, MP.cap, MP.guard, MP.sv, MP.st, MP.tru, MP.cmpD, MP.ordD, MP.binD, MP.startE, MP.pad, MP.fitsA, MP.outsOf, MP.retR, MP.stoR, MP.onOwn, MP.onSlot, MP.augV, MP.bindT, MP.bindTs, MP.putOuts, MP.inD, MP.isD, MP.runFd, List.getD, show j < ts.length by omega]
      rw [hl]
      simp only [tW, nearO, hi, hc, Nat.succ_pos, and_self, if_true, Nat.add_sub_cancel]
      omega
theorem signW_le (face : List Nat) (c : Nat) : 0 ≤ signW face c ∧ signW face c ≤ 7 := by
  unfold signW baseW
  repeat' split
  all_goals omega
theorem nearO_le (face : List Nat) (p : Option Nat) (c : Nat) : -1 ≤ nearO face p c ∧ nearO face p c ≤ 1 := by
  cases p with
  | none => simp [MP.exSs, MP.evT, MP.evTA, MP.evTO, MP.evTs, MP.evAnd, MP.evOr, MP.evDs, MP.evOs, MP.evAs, MP.evP, MP.evI, MP.lks, MP.M.bd, MP.M.ret, MP.lk, MP.lift, MP.unf, MP.look, MP.cap, MP.guard, MP.sv, MP.st, MP.tru, MP.cmpD, MP.ordD, MP.binD, MP.startE, MP.pad, MP.fitsA, MP.outsOf, MP.retR, MP.stoR, MP.onOwn, MP.onSlot, MP.augV, MP.bindT, MP.bindTs, MP.putOuts, MP.inD, MP.isD, MP.runFd, nearO]
  | some a =>
    simp only [nearO, nearV, pairV]
    repeat' split
    all_goals omega
theorem tW_le (face : List Nat) : ∀ (l : List Nat) (p : Option Nat), -(l.length : Int) ≤ tW face p l ∧ tW face p l ≤ 8 * l.length
  | [], p => by simp [MP.exSs, MP.evT, MP.evTA, MP.evTO, MP.evTs, MP.evAnd, MP.evOr, MP.evDs, MP.evOs, MP.evAs, MP.evP, MP.evI, MP.lks, MP.M.bd, MP.M.ret, MP.lk, MP.lift, MP.unf, MP.look, MP.cap, MP.guard, MP.sv, MP.st, MP.tru, MP.cmpD, MP.ordD, MP.binD, MP.startE, MP.pad, MP.fitsA, MP.outsOf, MP.retR, MP.stoR, MP.onOwn, MP.onSlot, MP.augV, MP.bindT, MP.bindTs, MP.putOuts, MP.inD, MP.isD, MP.runFd, tW]
  | c :: r, p => by
    have h1 := tW_le face r (some c)
    have h2 := signW_le face c
    have h3 := nearO_le face p c
    simp only [tW, List.length_cons]
    omega
def plain : List Nat := [112, 108, 97, 105, 110]
def soft : List Nat := [115, 111, 102, 116]
def mark : List Nat := [109, 97, 114, 107]
theorem tW_strong : ∀ (l : List Nat) (p : Option Nat), tW strong p l = tW plain p l + l.length
  | [], p => by simp [MP.exSs, MP.evT, MP.evTA, MP.evTO, MP.evTs, MP.evAnd, MP.evOr, MP.evDs, MP.evOs, MP.evAs, MP.evP, MP.evI, MP.lks, MP.M.bd, MP.M.ret, MP.lk, MP.lift, MP.unf, MP.look, MP.cap, MP.guard, MP.sv, MP.st, MP.tru, MP.cmpD, MP.ordD, MP.binD, MP.startE, MP.pad, MP.fitsA, MP.outsOf, MP.retR, MP.stoR, MP.onOwn, MP.onSlot, MP.augV, MP.bindT, MP.bindTs, MP.putOuts, MP.inD, MP.isD, MP.runFd, tW]
  | c :: r, p => by
    have ih := tW_strong r (some c)
    have h1 : signW strong c = signW plain c + 1 := by
      unfold signW
      rw [if_neg (by decide), if_pos rfl, if_neg (by decide), if_neg (by decide)]; omega
    have h2 : nearO strong p c = nearO plain p c := by
      cases p with
      | none => rfl
      | some a => simp only [nearO, nearV]; rw [if_neg (by decide), if_neg (by decide)]
    simp only [tW, ih, h1, h2, List.length_cons]; omega
theorem tW_soft : ∀ (l : List Nat) (p : Option Nat), tW soft p l = tW mark p l
  | [], p => rfl
  | c :: r, p => by
    have ih := tW_soft r (some c)
    have h1 : signW soft c = signW mark c := by
      unfold signW
      rw [if_neg (by decide), if_neg (by decide), if_neg (by decide), if_neg (by decide)]
    have h2 : nearO soft p c = nearO mark p c := by
      cases p with
      | none => rfl
      | some a => simp only [nearO, nearV]; rw [if_neg (by decide), if_neg (by decide)]
    simp only [tW, ih, h1, h2]
theorem tW_c : ∀ (l : List Nat) (p : Option Nat), tW code p l = 4 * l.length
  | [], p => rfl
  | c :: r, p => by
    have ih := tW_c r (some c)
    have h1 : signW code c = 4 := by unfold signW; rw [if_pos rfl]
    have h2 : nearO code p c = 0 := by
      cases p with
      | none => rfl
      | some a => simp only [nearO, nearV]; rw [if_pos trivial]
    simp only [tW, ih, h1, h2, List.length_cons]; omega

/-! the text -/
def sg : List Nat := [32, 33, 35, 36, 38, 39, 40, 41, 42, 43, 44, 45, 46, 47, 48, 49, 50, 51, 52, 53, 54, 55, 56, 57, 58, 59, 60, 61, 62, 63, 64, 65, 66, 67, 68, 69, 70, 71, 72, 73, 74, 75, 76, 77, 78, 79, 80, 81, 82, 83, 84, 85, 86, 87, 88, 89, 90, 91, 93, 94, 95, 96, 97, 98, 99, 100, 101, 102, 103, 104, 105, 106, 107, 108, 109, 110, 111, 112, 113, 114, 115, 116, 117, 118, 119, 120, 121, 122, 123, 124, 125, 126]
theorem e_sg : ([32, 33, 35, 36, 38, 39, 40, 41, 42, 43, 44, 45, 46, 47, 48, 49, 50, 51, 52, 53, 54, 55, 56, 57, 58, 59, 60, 61, 62, 63, 64, 65, 66, 67, 68, 69, 70, 71, 72, 73, 74, 75, 76, 77, 78, 79, 80, 81, 82, 83, 84, 85, 86, 87, 88, 89, 90, 91, 93, 94, 95, 96, 97, 98, 99, 100, 101, 102, 103, 104, 105, 106, 107, 108, 109, 110, 111, 112, 113, 114, 115, 116, 117, 118, 119, 120, 121, 122, 123, 124, 125, 126] : List Nat) = sg := rfl
theorem text_ok (k : Nat) {xs : List D} {most : Int} (h : StOk xs) (h0 : 0 ≤ most) (h1 : most ≤ 100) : ∃ ts ys, prog.call (k + 2) "_law_text" [.m xs, .d (.int most)] = some (.d (.str ts), [.m ys, .d .non]) ∧ StOk ys ∧ (ts.length : Int) ≤ 2 * most := by
  rw [call_eq _ (show findFd "_law_text" prog.defs = some f_law_text from rfl)]
  obtain ⟨r, ys, n1, n2, n3, n4⟩ := next_ok k (l := most + 1) h (by omega) (by omega)
  have hsg : sg.length ≤ LIM := by decide
  have hsl : sg.length = 92 := by decide
  have hi : evI (prog.ctx (k + 1)) (.rng [.cal "_law_next" [some 0, none] [.var 0, .bin .Add (.var 1) (.cst (.int 1))]]) [.own xs, .val (.int most), .val (.str sg), .val (.str []), .no] = some ((List.range r.toNat).map (fun (i : Nat) => D.int (i : Int)), [.own ys, .val (.int most), .val (.str sg), .val (.str []), .no]) := by
    have := rng0 (n := r) (by omega) (by omega)
    simp [MP.exSs, MP.evT, MP.evTA, MP.evTO, MP.evTs, MP.evAnd, MP.evOr, MP.evDs, MP.evOs, MP.evAs, MP.evP, MP.evI, MP.lks, MP.M.bd, MP.M.ret, MP.lk, MP.lift, MP.unf, MP.look, MP.cap, MP.guard, MP.sv, MP.st, MP.tru, MP.cmpD, MP.ordD, MP.binD, MP.startE, MP.pad, MP.fitsA, MP.outsOf, MP.retR, MP.stoR, MP.onOwn, MP.onSlot, MP.augV, MP.bindT, MP.bindTs, MP.putOuts, MP.inD, MP.isD, MP.runFd, n1, this]
  have hf := exS_for (prog.ctx (k + 1)) (.nam 4) _ f_law_text_b0 hi
  obtain ⟨e', g1, g2⟩ := forGo_inv (t := .nam 4) (body := exSs (prog.ctx (k + 1)) f_law_text_b0) (fun n e => ∃ zs fs v, e = [.own zs, .val (.int most), .val (.str sg), .val (.str fs), v] ∧ StOk zs ∧ fs.length ≤ 2 * n ∧ n ≤ r.toNat) ((List.range r.toNat).map (fun (i : Nat) => D.int (i : Int))) 0 [.own ys, .val (.int most), .val (.str sg), .val (.str []), .no] ⟨ys, [], .no, rfl, n2, by simp [MP.exSs, MP.evT, MP.evTA, MP.evTO, MP.evTs, MP.evAnd, MP.evOr, MP.evDs, MP.evOs, MP.evAs, MP.evP, MP.evI, MP.lks, MP.M.bd, MP.M.ret, MP.lk, MP.lift, MP.unf, MP.look, MP.cap, MP.guard, MP.sv, MP.st, MP.tru, MP.cmpD, MP.ordD, MP.binD, MP.startE, MP.pad, MP.fitsA, MP.outsOf, MP.retR, MP.stoR, MP.onOwn, MP.onSlot, MP.augV, MP.bindT, MP.bindTs, MP.putOuts, MP.inD, MP.isD, MP.runFd], by omega⟩ (by
    intro i x e hx ⟨zs, fs, v, he, hz, hl, hn⟩
    subst he
    have hir : i < r.toNat := by
      by_cases q : i < r.toNat
      · exact q
      · rw [List.getElem?_eq_none (by simp [MP.exSs, MP.evT, MP.evTA, MP.evTO, MP.evTs, MP.evAnd, MP.evOr, MP.evDs, MP.evOs, MP.evAs, MP.evP, MP.evI, MP.lks, MP.M.bd, MP.M.ret, MP.lk, MP.lift, MP.unf, MP.look, MP.cap, MP.guard, MP.sv, MP.st, MP.tru, MP.cmpD, MP.ordD, MP.binD, MP.startE, MP.pad, MP.fitsA, MP.outsOf, MP.retR, MP.stoR, MP.onOwn, MP.onSlot, MP.augV, MP.bindT, MP.bindTs, MP.putOuts, MP.inD, MP.isD, MP.runFd]; omega)] at hx; cases hx
    obtain ⟨a, z1, a1, a2, a3, a4⟩ := next_ok k (l := (sg.length : Int)) hz (by rw [hsl]; omega) (by rw [hsl]; omega)
    obtain ⟨b, z2, b1, b2, b3, b4⟩ := next_ok k (l := 7) a2 (by omega) (by omega)
    have ha : ∃ ch, atD sg a = some ch := by
      unfold atD
      rw [if_pos a3]
      exact ⟨_, List.getElem?_eq_getElem (by omega)⟩
    obtain ⟨ch, ha⟩ := ha
    have hb : ∃ w : List Nat, atD [D.str [ch], .str [65, 86], .str [114, 110], .str [84, 111], .str [102, 105], .str [109, 87], .str [105, 45]] b = some (.str w) ∧ w.length ≤ 2 := by
      have : b = 0 ∨ b = 1 ∨ b = 2 ∨ b = 3 ∨ b = 4 ∨ b = 5 ∨ b = 6 := by omega
      rcases this with rfl | rfl | rfl | rfl | rfl | rfl | rfl <;> exact ⟨_, rfl, by simp [MP.exSs, MP.evT, MP.evTA, MP.evTO, MP.evTs, MP.evAnd, MP.evOr, MP.evDs, MP.evOs, MP.evAs, MP.evP, MP.evI, MP.lks, MP.M.bd, MP.M.ret, MP.lk, MP.lift, MP.unf, MP.look, MP.cap, MP.guard, MP.sv, MP.st, MP.tru, MP.cmpD, MP.ordD, MP.binD, MP.startE, MP.pad, MP.fitsA, MP.outsOf, MP.retR, MP.stoR, MP.onOwn, MP.onSlot, MP.augV, MP.bindT, MP.bindTs, MP.putOuts, MP.inD, MP.isD, MP.runFd]⟩
    obtain ⟨w, hb, hw⟩ := hb
    refine ⟨_, .nx, [.own z2, .val (.int most), .val (.str sg), .val (.str (fs ++ w)), .val x], rfl, ?_, .inl rfl, z2, fs ++ w, _, rfl, b2, by simp [MP.exSs, MP.evT, MP.evTA, MP.evTO, MP.evTs, MP.evAnd, MP.evOr, MP.evDs, MP.evOs, MP.evAs, MP.evP, MP.evI, MP.lks, MP.M.bd, MP.M.ret, MP.lk, MP.lift, MP.unf, MP.look, MP.cap, MP.guard, MP.sv, MP.st, MP.tru, MP.cmpD, MP.ordD, MP.binD, MP.startE, MP.pad, MP.fitsA, MP.outsOf, MP.retR, MP.stoR, MP.onOwn, MP.onSlot, MP.augV, MP.bindT, MP.bindTs, MP.putOuts, MP.inD, MP.isD, MP.runFd]; omega, by omega⟩
    have hadd : fs.length + w.length ≤ LIM := by unfold LIM; omega
    have h7 : (7 ≤ LIM) = True := by simp [MP.exSs, MP.evT, MP.evTA, MP.evTO, MP.evTs, MP.evAnd, MP.evOr, MP.evDs, MP.evOs, MP.evAs, MP.evP, MP.evI, MP.lks, MP.M.bd, MP.M.ret, MP.lk, MP.lift, MP.unf, MP.look, MP.cap, MP.guard, MP.sv, MP.st, MP.tru, MP.cmpD, MP.ordD, MP.binD, MP.startE, MP.pad, MP.fitsA, MP.outsOf, MP.retR, MP.stoR, MP.onOwn, MP.onSlot, MP.augV, MP.bindT, MP.bindTs, MP.putOuts, MP.inD, MP.isD, MP.runFd, LIM]
    simp [MP.exSs, MP.evT, MP.evTA, MP.evTO, MP.evTs, MP.evAnd, MP.evOr, MP.evDs, MP.evOs, MP.evAs, MP.evP, MP.evI, MP.lks, MP.M.bd, MP.M.ret, MP.lk, MP.lift, MP.unf, MP.look, MP.cap, MP.guard, MP.sv, MP.st, MP.tru, MP.cmpD, MP.ordD, MP.binD, MP.startE, MP.pad, MP.fitsA, MP.outsOf, MP.retR, MP.stoR, MP.onOwn, MP.onSlot, MP.augV, MP.bindT, MP.bindTs, MP.putOuts, MP.inD, MP.isD, MP.runFd, f_law_text_b0, len_str hsg, a1, b1, idx_str _ hsg, ha, hb, h7, hadd])
  obtain ⟨zs, fs, v, rfl, q1, q2, q3⟩ := g2
  rw [g1] at hf
  refine ⟨fs, zs, ?_, q1, ?_⟩
  · have h2 : (2 ≤ LIM) = True := by simp [MP.exSs, MP.evT, MP.evTA, MP.evTO, MP.evTs, MP.evAnd, MP.evOr, MP.evDs, MP.evOs, MP.evAs, MP.evP, MP.evI, MP.lks, MP.M.bd, MP.M.ret, MP.lk, MP.lift, MP.unf, MP.look, MP.cap, MP.guard, MP.sv, MP.st, MP.tru, MP.cmpD, MP.ordD, MP.binD, MP.startE, MP.pad, MP.fitsA, MP.outsOf, MP.retR, MP.stoR, MP.onOwn, MP.onSlot, MP.augV, MP.bindT, MP.bindTs, MP.putOuts, MP.inD, MP.isD, MP.runFd, LIM]
    simp [MP.exSs, MP.evT, MP.evTA, MP.evTO, MP.evTs, MP.evAnd, MP.evOr, MP.evDs, MP.evOs, MP.evAs, MP.evP, MP.evI, MP.lks, MP.M.bd, MP.M.ret, MP.lk, MP.lift, MP.unf, MP.look, MP.cap, MP.guard, MP.sv, MP.st, MP.tru, MP.cmpD, MP.ordD, MP.binD, MP.startE, MP.pad, MP.fitsA, MP.outsOf, MP.retR, MP.stoR, MP.onOwn, MP.onSlot, MP.augV, MP.bindT, MP.bindTs, MP.putOuts, MP.inD, MP.isD, MP.runFd, f_law_text, h2, e_sg, hf]
  · simp [MP.exSs, MP.evT, MP.evTA, MP.evTO, MP.evTs, MP.evAnd, MP.evOr, MP.evDs, MP.evOs, MP.evAs, MP.evP, MP.evI, MP.lks, MP.M.bd, MP.M.ret, MP.lk, MP.lift, MP.unf, MP.look, MP.cap, MP.guard, MP.sv, MP.st, MP.tru, MP.cmpD, MP.ordD, MP.binD, MP.startE, MP.pad, MP.fitsA, MP.outsOf, MP.retR, MP.stoR, MP.onOwn, MP.onSlot, MP.augV, MP.bindT, MP.bindTs, MP.putOuts, MP.inD, MP.isD, MP.runFd] at q2; omega

/-! the law's turn -/
def edgN (face ts : List Nat) (size : Int) (n : Nat) : List Int := (List.range n).map fun i => tw face (ts.take (i + 1)) * size
theorem edg_eq (face ts : List Nat) (size : Int) : edg face ts size = edgN face ts size ts.length := rfl
theorem s0_ok {xs : List D} (h : StOk xs) (a f v3 v4 v5 v6 v7 v8 v9 v10 v11 v12 v13 v14 : SV) : ∃ ts ys size, exS (prog.ctx 5) f_law_s0 [a, .own xs, f, v3, v4, v5, v6, v7, v8, v9, v10, v11, v12, v13, v14] = some (.nx, [a, .own ys, f, .val (.str ts), .val (.int size), v5, v6, v7, v8, v9, v10, v11, v12, v13, v14]) ∧
    StOk ys ∧ ts.length ≤ 24 ∧ 1 ≤ size ∧ size ≤ 4 := by
  obtain ⟨ts, y1, t1, t2, t3⟩ := text_ok 3 (most := 12) h (by omega) (by omega)
  obtain ⟨r, y2, r1, r2, r3, r4⟩ := next_ok 4 (l := 4) t2 (by omega) (by omega)
  refine ⟨ts, y2, 1 + r, ?_, r2, by omega, by omega, by omega⟩
  simp [MP.exSs, MP.evT, MP.evTA, MP.evTO, MP.evTs, MP.evAnd, MP.evOr, MP.evDs, MP.evOs, MP.evAs, MP.evP, MP.evI, MP.lks, MP.M.bd, MP.M.ret, MP.lk, MP.lift, MP.unf, MP.look, MP.cap, MP.guard, MP.sv, MP.st, MP.tru, MP.cmpD, MP.ordD, MP.binD, MP.startE, MP.pad, MP.fitsA, MP.outsOf, MP.retR, MP.stoR, MP.onOwn, MP.onSlot, MP.augV, MP.bindT, MP.bindTs, MP.putOuts, MP.inD, MP.isD, MP.runFd, f_law_s0, t1, r1]
theorem s2_ok (xs : List D) (face ts : List Nat) (size : Int) (hl : ts.length ≤ 24) (h1 : 1 ≤ size) (h4 : size ≤ 4) (a v7 v8 v9 v10 v11 v12 v13 v14 : SV) (hv : nO v7 = true) : ∃ w7, nO w7 = true ∧ exS (prog.ctx 5) f_law_s2 [a, .own xs, .val (.str face), .val (.str ts), .val (.int size), .own [], .val (.int 0), v7, v8, v9, v10, v11, v12, v13, v14] =
    some (.nx, [a, .own xs, .val (.str face), .val (.str ts), .val (.int size), .own ((edg face ts size).map D.int), .val (.int (tw face ts)), w7, v8, v9, v10, v11, v12, v13, v14]) := by
  have hL : ts.length ≤ LIM := by unfold LIM; omega
  have hs : big64 size = true := big_le (by omega)
  have hi : evI (prog.ctx 5) (.rng [.blt "len" [.var 3]]) [a, .own xs, .val (.str face), .val (.str ts), .val (.int size), .own [], .val (.int 0), v7, v8, v9, v10, v11, v12, v13, v14] = some ((List.range ts.length).map (fun (i : Nat) => D.int (i : Int)), [a, .own xs, .val (.str face), .val (.str ts), .val (.int size), .own [], .val (.int 0), v7, v8, v9, v10, v11, v12, v13, v14]) := by
    have := rngN (n := ts.length) (by omega)
    simp [MP.exSs, MP.evT, MP.evTA, MP.evTO, MP.evTs, MP.evAnd, MP.evOr, MP.evDs, MP.evOs, MP.evAs, MP.evP, MP.evI, MP.lks, MP.M.bd, MP.M.ret, MP.lk, MP.lift, MP.unf, MP.look, MP.cap, MP.guard, MP.sv, MP.st, MP.tru, MP.cmpD, MP.ordD, MP.binD, MP.startE, MP.pad, MP.fitsA, MP.outsOf, MP.retR, MP.stoR, MP.onOwn, MP.onSlot, MP.augV, MP.bindT, MP.bindTs, MP.putOuts, MP.inD, MP.isD, MP.runFd, len_str hL, this]
  have hf := exS_for (prog.ctx 5) (.nam 7) _ f_law_b0 hi
  obtain ⟨e', g1, g2⟩ := forGo_inv (t := .nam 7) (body := exSs (prog.ctx 5) f_law_b0) (fun n e => n ≤ ts.length ∧ ∃ w7, nO w7 = true ∧ e = [a, .own xs, .val (.str face), .val (.str ts), .val (.int size), .own ((edgN face ts size n).map D.int), .val (.int (tw face (ts.take n))), w7, v8, v9, v10, v11, v12, v13, v14]) ((List.range ts.length).map (fun (i : Nat) => D.int (i : Int))) 0 [a, .own xs, .val (.str face), .val (.str ts), .val (.int size), .own [], .val (.int 0), v7, v8, v9, v10, v11, v12, v13, v14] ⟨by omega, v7, hv, rfl⟩ (by
    intro i x e hx ⟨hn, w7, hw, he⟩
    rw [Nat.zero_add] at hn he ⊢
    subst he
    have hir : i < ts.length := by
      by_cases q : i < ts.length
      · exact q
      · rw [List.getElem?_eq_none (by simp [MP.exSs, MP.evT, MP.evTA, MP.evTO, MP.evTs, MP.evAnd, MP.evOr, MP.evDs, MP.evOs, MP.evAs, MP.evP, MP.evI, MP.lks, MP.M.bd, MP.M.ret, MP.lk, MP.lift, MP.unf, MP.look, MP.cap, MP.guard, MP.sv, MP.st, MP.tru, MP.cmpD, MP.ordD, MP.binD, MP.startE, MP.pad, MP.fitsA, MP.outsOf, MP.retR, MP.stoR, MP.onOwn, MP.onSlot, MP.augV, MP.bindT, MP.bindTs, MP.putOuts, MP.inD, MP.isD, MP.runFd]; omega)] at hx; cases hx
    have ex : x = .int i := by
      simp [MP.exSs, MP.evT, MP.evTA, MP.evTO, MP.evTs, MP.evAnd, MP.evOr, MP.evDs, MP.evOs, MP.evAs, MP.evP, MP.evI, MP.lks, MP.M.bd, MP.M.ret, MP.lk, MP.lift, MP.unf, MP.look, MP.cap, MP.guard, MP.sv, MP.st, MP.tru, MP.cmpD, MP.ordD, MP.binD, MP.startE, MP.pad, MP.fitsA, MP.outsOf, MP.retR, MP.stoR, MP.onOwn, MP.onSlot, MP.augV, MP.bindT, MP.bindTs, MP.putOuts, MP.inD, MP.isD, MP.runFd, List.getElem?_map, List.getElem?_range hir] at hx
      exact hx.symm
    subst ex
    have st := tw_step face ts hir
    have at1 : atD ts (i : Int) = some (ts.getD i 0) := by rw [atD_nat]; simp [MP.exSs, MP.evT, MP.evTA, MP.evTO, MP.evTs, MP.evAnd, MP.evOr, MP.evDs, MP.evOs, MP.evAs, MP.evP, MP.evI, MP.lks, MP.M.bd, MP.M.ret, MP.lk, MP.lift, MP.unf, MP.look, MP.cap, MP.guard, MP.sv, MP.st, MP.tru, MP.cmpD, MP.ordD, MP.binD, MP.startE, MP.pad, MP.fitsA, MP.outsOf, MP.retR, MP.stoR, MP.onOwn, MP.onSlot, MP.augV, MP.bindT, MP.bindTs, MP.putOuts, MP.inD, MP.isD, MP.runFd, List.getD, hir]
    have hg : (edgN face ts size (i + 1)).map D.int = (edgN face ts size i).map D.int ++ [D.int (tw face (ts.take (i + 1)) * size)] := by
      simp [MP.exSs, MP.evT, MP.evTA, MP.evTO, MP.evTs, MP.evAnd, MP.evOr, MP.evDs, MP.evOs, MP.evAs, MP.evP, MP.evI, MP.lks, MP.M.bd, MP.M.ret, MP.lk, MP.lift, MP.unf, MP.look, MP.cap, MP.guard, MP.sv, MP.st, MP.tru, MP.cmpD, MP.ordD, MP.binD, MP.startE, MP.pad, MP.fitsA, MP.outsOf, MP.retR, MP.stoR, MP.onOwn, MP.onSlot, MP.augV, MP.bindT, MP.bindTs, MP.putOuts, MP.inD, MP.isD, MP.runFd, edgN, List.range_succ]
    have hlt : (edgN face ts size i).length < LIM := by simp [MP.exSs, MP.evT, MP.evTA, MP.evTO, MP.evTs, MP.evAnd, MP.evOr, MP.evDs, MP.evOs, MP.evAs, MP.evP, MP.evI, MP.lks, MP.M.bd, MP.M.ret, MP.lk, MP.lift, MP.unf, MP.look, MP.cap, MP.guard, MP.sv, MP.st, MP.tru, MP.cmpD, MP.ordD, MP.binD, MP.startE, MP.pad, MP.fitsA, MP.outsOf, MP.retR, MP.stoR, MP.onOwn, MP.onSlot, MP.augV, MP.bindT, MP.bindTs, MP.putOuts, MP.inD, MP.isD, MP.runFd, edgN]; unfold LIM; omega
    refine ⟨_, .nx, [a, .own xs, .val (.str face), .val (.str ts), .val (.int size), .own ((edgN face ts size (i + 1)).map D.int), .val (.int (tw face (ts.take (i + 1)))), .val (.int i), v8, v9, v10, v11, v12, v13, v14], rfl, ?_, .inl rfl, by omega, _, rfl, rfl⟩
    have w := law_wide_ok 4 (ts.getD i 0) face
    rw [hg, st]
    by_cases hi0 : 0 < i
    · have at2 : atD ts ((i : Int) - 1) = some (ts.getD (i - 1) 0) := by
        rw [show (i : Int) - 1 = ((i - 1 : Nat) : Int) by omega, atD_nat]; simp [MP.exSs, MP.evT, MP.evTA, MP.evTO, MP.evTs, MP.evAnd, MP.evOr, MP.evDs, MP.evOs, MP.evAs, MP.evP, MP.evI, MP.lks, MP.M.bd, MP.M.ret, MP.lk, MP.lift, MP.unf, MP.look, MP.cap, MP.guard, MP.sv, MP.st, MP.tru, MP.cmpD, MP.ordD, MP.binD, MP.startE, MP.pad, MP.fitsA, MP.outsOf, MP.retR, MP.stoR, MP.onOwn, MP.onSlot, MP.augV, MP.bindT, MP.bindTs, MP.putOuts, MP.inD, MP.isD, MP.runFd, List.getD, show i - 1 < ts.length by omega]
      have n := near_ok 4 (ts.getD (i - 1) 0) (ts.getD i 0) face
      simp [MP.exSs, MP.evT, MP.evTA, MP.evTO, MP.evTs, MP.evAnd, MP.evOr, MP.evDs, MP.evOs, MP.evAs, MP.evP, MP.evI, MP.lks, MP.M.bd, MP.M.ret, MP.lk, MP.lift, MP.unf, MP.look, MP.cap, MP.guard, MP.sv, MP.st, MP.tru, MP.cmpD, MP.ordD, MP.binD, MP.startE, MP.pad, MP.fitsA, MP.outsOf, MP.retR, MP.stoR, MP.onOwn, MP.onSlot, MP.augV, MP.bindT, MP.bindTs, MP.putOuts, MP.inD, MP.isD, MP.runFd, f_law_b0, idx_str _ hL, at1, at2, w, n, hi0, hs, hlt, -List.getD_eq_getElem?_getD]
    · simp [MP.exSs, MP.evT, MP.evTA, MP.evTO, MP.evTs, MP.evAnd, MP.evOr, MP.evDs, MP.evOs, MP.evAs, MP.evP, MP.evI, MP.lks, MP.M.bd, MP.M.ret, MP.lk, MP.lift, MP.unf, MP.look, MP.cap, MP.guard, MP.sv, MP.st, MP.tru, MP.cmpD, MP.ordD, MP.binD, MP.startE, MP.pad, MP.fitsA, MP.outsOf, MP.retR, MP.stoR, MP.onOwn, MP.onSlot, MP.augV, MP.bindT, MP.bindTs, MP.putOuts, MP.inD, MP.isD, MP.runFd, f_law_b0, idx_str _ hL, at1, w, hi0, hs, hlt, -List.getD_eq_getElem?_getD])
  obtain ⟨_, w7, hw, rfl⟩ := g2
  refine ⟨w7, hw, ?_⟩
  rw [g1] at hf
  simp only [Nat.zero_add, List.length_map, List.length_range, List.take_length] at hf
  exact hf

theorem s3_ok (xs : List D) (face ts : List Nat) (size : Int) (hl : ts.length ≤ 24) (h1 : 1 ≤ size) (h4 : size ≤ 4) (a v7 v8 v9 v10 v11 v12 v13 v14 : SV) (hv : nO v8 = true) : exS (prog.ctx 5) f_law_s3 [a, .own xs, .val (.str face), .val (.str ts), .val (.int size), .own ((edg face ts size).map D.int), .val (.int (tw face ts)), v7, v8, v9, v10, v11, v12, v13, v14] =
    some (.nx, [a, .own xs, .val (.str face), .val (.str ts), .val (.int size), .own ((edg face ts size).map D.int), .val (.int (tw face ts)), v7, v8, v9, v10, v11, v12, v13, v14]) := by
  have hL : ts.length ≤ LIM := by unfold LIM; omega
  have hs : big64 size = true := big_le (by omega)
  have M0 : evE (prog.ctx 5) f_law_c0 [a, .own xs, .val (.str face), .val (.str ts), .val (.int size), .own ((edg face ts size).map D.int), .val (.int (tw face ts)), v7, v8, v9, v10, v11, v12, v13, v14] = some (.fresh ((ts.map (signW face)).map D.int), [a, .own xs, .val (.str face), .val (.str ts), .val (.int size), .own ((edg face ts size).map D.int), .val (.int (tw face ts)), v7, v8, v9, v10, v11, v12, v13, v14]) := by
    rw [f_law_c0, evLc (xs := ts.map fun c => .str [c]) (e1 := [a, .own xs, .val (.str face), .val (.str ts), .val (.int size), .own ((edg face ts size).map D.int), .val (.int (tw face ts)), v7, v8, v9, v10, v11, v12, v13, v14]) (ys := (ts.map (signW face)).map D.int) (e2 := [a, .own xs, .val (.str face), .val (.str ts), .val (.int size), .own ((edg face ts size).map D.int), .val (.int (tw face ts)), v7, .no, v9, v10, v11, v12, v13, v14]) ?_ ?_ ?_ ?_]
    · rfl
    · simp [MP.exSs, MP.evT, MP.evTA, MP.evTO, MP.evTs, MP.evAnd, MP.evOr, MP.evDs, MP.evOs, MP.evAs, MP.evP, MP.evI, MP.lks, MP.M.bd, MP.M.ret, MP.lk, MP.lift, MP.unf, MP.look, MP.cap, MP.guard, MP.sv, MP.st, MP.tru, MP.cmpD, MP.ordD, MP.binD, MP.startE, MP.pad, MP.fitsA, MP.outsOf, MP.retR, MP.stoR, MP.onOwn, MP.onSlot, MP.augV, MP.bindT, MP.bindTs, MP.putOuts, MP.inD, MP.isD, MP.runFd, seqD]
    · simpa [MP.exSs, MP.evT, MP.evTA, MP.evTO, MP.evTs, MP.evAnd, MP.evOr, MP.evDs, MP.evOs, MP.evAs, MP.evP, MP.evI, MP.lks, MP.M.bd, MP.M.ret, MP.lk, MP.lift, MP.unf, MP.look, MP.cap, MP.guard, MP.sv, MP.st, MP.tru, MP.cmpD, MP.ordD, MP.binD, MP.startE, MP.pad, MP.fitsA, MP.outsOf, MP.retR, MP.stoR, MP.onOwn, MP.onSlot, MP.augV, MP.bindT, MP.bindTs, MP.putOuts, MP.inD, MP.isD, MP.runFd] using hL
    · show (nO v8 && true) = true
      rw [hv]; rfl
    · rw [lcGo_all (fun d => match d with | .str [c] => .int (signW face c) | d => d)]
      · simp [MP.exSs, MP.evT, MP.evTA, MP.evTO, MP.evTs, MP.evAnd, MP.evOr, MP.evDs, MP.evOs, MP.evAs, MP.evP, MP.evI, MP.lks, MP.M.bd, MP.M.ret, MP.lk, MP.lift, MP.unf, MP.look, MP.cap, MP.guard, MP.sv, MP.st, MP.tru, MP.cmpD, MP.ordD, MP.binD, MP.startE, MP.pad, MP.fitsA, MP.outsOf, MP.retR, MP.stoR, MP.onOwn, MP.onSlot, MP.augV, MP.bindT, MP.bindTs, MP.putOuts, MP.inD, MP.isD, MP.runFd, wipeE]
      · intro x hx
        simp only [List.mem_map] at hx
        obtain ⟨c, _, rfl⟩ := hx
        refine ⟨_, rfl, ?_⟩
        have := sign_width_ok 4 c face
        simp [MP.exSs, MP.evT, MP.evTA, MP.evTO, MP.evTs, MP.evAnd, MP.evOr, MP.evDs, MP.evOs, MP.evAs, MP.evP, MP.evI, MP.lks, MP.M.bd, MP.M.ret, MP.lk, MP.lift, MP.unf, MP.look, MP.cap, MP.guard, MP.sv, MP.st, MP.tru, MP.cmpD, MP.ordD, MP.binD, MP.startE, MP.pad, MP.fitsA, MP.outsOf, MP.retR, MP.stoR, MP.onOwn, MP.onSlot, MP.augV, MP.bindT, MP.bindTs, MP.putOuts, MP.inD, MP.isD, MP.runFd, wipeE, this, putOuts]
  have M1 : evE (prog.ctx 5) f_law_c1 [a, .own xs, .val (.str face), .val (.str ts), .val (.int size), .own ((edg face ts size).map D.int), .val (.int (tw face ts)), v7, v8, v9, v10, v11, v12, v13, v14] = some (.fresh ((ts.map (signW face)).map D.int), [a, .own xs, .val (.str face), .val (.str ts), .val (.int size), .own ((edg face ts size).map D.int), .val (.int (tw face ts)), v7, v8, v9, v10, v11, v12, v13, v14]) := by
    rw [f_law_c1, evLc (xs := ts.map fun c => .str [c]) (e1 := [a, .own xs, .val (.str face), .val (.str ts), .val (.int size), .own ((edg face ts size).map D.int), .val (.int (tw face ts)), v7, v8, v9, v10, v11, v12, v13, v14]) (ys := (ts.map (signW face)).map D.int) (e2 := [a, .own xs, .val (.str face), .val (.str ts), .val (.int size), .own ((edg face ts size).map D.int), .val (.int (tw face ts)), v7, .no, v9, v10, v11, v12, v13, v14]) ?_ ?_ ?_ ?_]
    · rfl
    · simp [MP.exSs, MP.evT, MP.evTA, MP.evTO, MP.evTs, MP.evAnd, MP.evOr, MP.evDs, MP.evOs, MP.evAs, MP.evP, MP.evI, MP.lks, MP.M.bd, MP.M.ret, MP.lk, MP.lift, MP.unf, MP.look, MP.cap, MP.guard, MP.sv, MP.st, MP.tru, MP.cmpD, MP.ordD, MP.binD, MP.startE, MP.pad, MP.fitsA, MP.outsOf, MP.retR, MP.stoR, MP.onOwn, MP.onSlot, MP.augV, MP.bindT, MP.bindTs, MP.putOuts, MP.inD, MP.isD, MP.runFd, seqD]
    · simpa [MP.exSs, MP.evT, MP.evTA, MP.evTO, MP.evTs, MP.evAnd, MP.evOr, MP.evDs, MP.evOs, MP.evAs, MP.evP, MP.evI, MP.lks, MP.M.bd, MP.M.ret, MP.lk, MP.lift, MP.unf, MP.look, MP.cap, MP.guard, MP.sv, MP.st, MP.tru, MP.cmpD, MP.ordD, MP.binD, MP.startE, MP.pad, MP.fitsA, MP.outsOf, MP.retR, MP.stoR, MP.onOwn, MP.onSlot, MP.augV, MP.bindT, MP.bindTs, MP.putOuts, MP.inD, MP.isD, MP.runFd] using hL
    · show (nO v8 && true) = true
      rw [hv]; rfl
    · rw [lcGo_all (fun d => match d with | .str [c] => .int (signW face c) | d => d)]
      · simp [MP.exSs, MP.evT, MP.evTA, MP.evTO, MP.evTs, MP.evAnd, MP.evOr, MP.evDs, MP.evOs, MP.evAs, MP.evP, MP.evI, MP.lks, MP.M.bd, MP.M.ret, MP.lk, MP.lift, MP.unf, MP.look, MP.cap, MP.guard, MP.sv, MP.st, MP.tru, MP.cmpD, MP.ordD, MP.binD, MP.startE, MP.pad, MP.fitsA, MP.outsOf, MP.retR, MP.stoR, MP.onOwn, MP.onSlot, MP.augV, MP.bindT, MP.bindTs, MP.putOuts, MP.inD, MP.isD, MP.runFd, wipeE]
      · intro x hx
        simp only [List.mem_map] at hx
        obtain ⟨c, _, rfl⟩ := hx
        refine ⟨_, rfl, ?_⟩
        have := law_wide_ok 4 c face
        simp [MP.exSs, MP.evT, MP.evTA, MP.evTO, MP.evTs, MP.evAnd, MP.evOr, MP.evDs, MP.evOs, MP.evAs, MP.evP, MP.evI, MP.lks, MP.M.bd, MP.M.ret, MP.lk, MP.lift, MP.unf, MP.look, MP.cap, MP.guard, MP.sv, MP.st, MP.tru, MP.cmpD, MP.ordD, MP.binD, MP.startE, MP.pad, MP.fitsA, MP.outsOf, MP.retR, MP.stoR, MP.onOwn, MP.onSlot, MP.augV, MP.bindT, MP.bindTs, MP.putOuts, MP.inD, MP.isD, MP.runFd, wipeE, this, putOuts]
  have e1 := eqD_self (ok_ints (ts.map (signW face)))
  have e2 := eqD_self (ok_ints (edg face ts size))
  have w := text_width_ok 3 ts face size (by omega) hs
  have g := edges_ok 2 ts face size (by omega) hs
  simp [MP.exSs, MP.evT, MP.evTA, MP.evTO, MP.evTs, MP.evAnd, MP.evOr, MP.evDs, MP.evOs, MP.evAs, MP.evP, MP.evI, MP.lks, MP.M.bd, MP.M.ret, MP.lk, MP.lift, MP.unf, MP.look, MP.cap, MP.guard, MP.sv, MP.st, MP.tru, MP.cmpD, MP.ordD, MP.binD, MP.startE, MP.pad, MP.fitsA, MP.outsOf, MP.retR, MP.stoR, MP.onOwn, MP.onSlot, MP.augV, MP.bindT, MP.bindTs, MP.putOuts, MP.inD, MP.isD, MP.runFd, f_law_s3, M0, M1, e1, e2, w, g, hs, -List.map_map]
/-- the places whose edges hold x -/
def und (E : List Int) (x : Int) (n : Nat) : List Nat := (List.range n).filter fun k => decide ((if 0 < k then E.getD (k - 1) 0 else 0) ≤ x) && decide (x < E.getD k 0)
theorem s4_ok (xs : List D) (face ts : List Nat) (size : Int) (hl : ts.length ≤ 24) (h1 : 1 ≤ size) (h4 : size ≤ 4) (a v7 v8 v9 v10 v11 v12 v13 v14 : SV) (hv : nO v7 = true) : ∃ w7 w9 w10, nO w7 = true ∧ exS (prog.ctx 5) f_law_s4 [a, .own xs, .val (.str face), .val (.str ts), .val (.int size), .own ((edg face ts size).map D.int), .val (.int (tw face ts)), v7, v8, v9, v10, v11, v12, v13, v14] =
    some (.nx, [a, .own xs, .val (.str face), .val (.str ts), .val (.int size), .own ((edg face ts size).map D.int), .val (.int (tw face ts)), w7, v8, w9, w10, v11, v12, v13, v14]) := by
  have hL : ts.length ≤ LIM := by unfold LIM; omega
  have hs : big64 size = true := big_le (by omega)
  have hb := tW_le face ts none
  have hb1 : -24 ≤ tw face ts ∧ tw face ts ≤ 192 := by unfold tw; omega
  have hb2 : -96 ≤ tw face ts * size ∧ tw face ts * size ≤ 768 := by
    have : size = 1 ∨ size = 2 ∨ size = 3 ∨ size = 4 := by omega
    rcases this with rfl | rfl | rfl | rfl <;> omega
  have hr := rng2 (a := -2) (b := tw face ts * size + 3) (by omega) (by omega)
  have hi : evI (prog.ctx 5) (.rng [.bin .Sub (.cst (.int 0)) (.cst (.int 2)), .bin .Add (.bin .Mult (.var 6) (.var 4)) (.cst (.int 3))]) [a, .own xs, .val (.str face), .val (.str ts), .val (.int size), .own ((edg face ts size).map D.int), .val (.int (tw face ts)), v7, v8, v9, v10, v11, v12, v13, v14] = some (rngI (-2) (tw face ts * size + 3), [a, .own xs, .val (.str face), .val (.str ts), .val (.int size), .own ((edg face ts size).map D.int), .val (.int (tw face ts)), v7, v8, v9, v10, v11, v12, v13, v14]) := by
    simp [MP.exSs, MP.evT, MP.evTA, MP.evTO, MP.evTs, MP.evAnd, MP.evOr, MP.evDs, MP.evOs, MP.evAs, MP.evP, MP.evI, MP.lks, MP.M.bd, MP.M.ret, MP.lk, MP.lift, MP.unf, MP.look, MP.cap, MP.guard, MP.sv, MP.st, MP.tru, MP.cmpD, MP.ordD, MP.binD, MP.startE, MP.pad, MP.fitsA, MP.outsOf, MP.retR, MP.stoR, MP.onOwn, MP.onSlot, MP.augV, MP.bindT, MP.bindTs, MP.putOuts, MP.inD, MP.isD, MP.runFd, hs, hr]
  obtain ⟨e', g1, w7, w9, w10, g2, rfl⟩ := for_inv (c := prog.ctx 5) (t := .nam 9) (b := f_law_b1) (fun n e => ∃ w7 w9 w10, nO w7 = true ∧ e = [a, .own xs, .val (.str face), .val (.str ts), .val (.int size), .own ((edg face ts size).map D.int), .val (.int (tw face ts)), w7, v8, w9, w10, v11, v12, v13, v14]) hi ⟨v7, v9, v10, hv, rfl⟩ (by
    intro i x e hx ⟨w7, w9, w10, hw, he⟩
    subst he
    obtain ⟨x, rfl⟩ := rngI_int _ _ _ (List.mem_of_getElem? hx)
    have hel : (edg face ts size).length = ts.length := by simp [MP.exSs, MP.evT, MP.evTA, MP.evTO, MP.evTs, MP.evAnd, MP.evOr, MP.evDs, MP.evOs, MP.evAs, MP.evP, MP.evI, MP.lks, MP.M.bd, MP.M.ret, MP.lk, MP.lift, MP.unf, MP.look, MP.cap, MP.guard, MP.sv, MP.st, MP.tru, MP.cmpD, MP.ordD, MP.binD, MP.startE, MP.pad, MP.fitsA, MP.outsOf, MP.retR, MP.stoR, MP.onOwn, MP.onSlot, MP.augV, MP.bindT, MP.bindTs, MP.putOuts, MP.inD, MP.isD, MP.runFd, edg]
    have M : evE (prog.ctx 5) f_law_c2 [a, .own xs, .val (.str face), .val (.str ts), .val (.int size), .own ((edg face ts size).map D.int), .val (.int (tw face ts)), w7, v8, .val (.int x), w10, v11, v12, v13, v14] = some (.fresh ((und (edg face ts size) x ts.length).map fun (i : Nat) => D.int (i : Int)), [a, .own xs, .val (.str face), .val (.str ts), .val (.int size), .own ((edg face ts size).map D.int), .val (.int (tw face ts)), w7, v8, .val (.int x), w10, v11, v12, v13, v14]) := by
      rw [f_law_c2, evLc (xs := (List.range ts.length).map (fun (i : Nat) => D.int (i : Int))) (e1 := [a, .own xs, .val (.str face), .val (.str ts), .val (.int size), .own ((edg face ts size).map D.int), .val (.int (tw face ts)), w7, v8, .val (.int x), w10, v11, v12, v13, v14]) (ys := (und (edg face ts size) x ts.length).map fun (i : Nat) => D.int (i : Int)) (e2 := [a, .own xs, .val (.str face), .val (.str ts), .val (.int size), .own ((edg face ts size).map D.int), .val (.int (tw face ts)), .no, v8, .val (.int x), w10, v11, v12, v13, v14]) ?_ ?_ ?_ ?_]
      · rfl
      · have := rngN (n := ts.length) (by omega)
        simp [MP.exSs, MP.evT, MP.evTA, MP.evTO, MP.evTs, MP.evAnd, MP.evOr, MP.evDs, MP.evOs, MP.evAs, MP.evP, MP.evI, MP.lks, MP.M.bd, MP.M.ret, MP.lk, MP.lift, MP.unf, MP.look, MP.cap, MP.guard, MP.sv, MP.st, MP.tru, MP.cmpD, MP.ordD, MP.binD, MP.startE, MP.pad, MP.fitsA, MP.outsOf, MP.retR, MP.stoR, MP.onOwn, MP.onSlot, MP.augV, MP.bindT, MP.bindTs, MP.putOuts, MP.inD, MP.isD, MP.runFd, len_str hL, this]
      · simpa [MP.exSs, MP.evT, MP.evTA, MP.evTO, MP.evTs, MP.evAnd, MP.evOr, MP.evDs, MP.evOs, MP.evAs, MP.evP, MP.evI, MP.lks, MP.M.bd, MP.M.ret, MP.lk, MP.lift, MP.unf, MP.look, MP.cap, MP.guard, MP.sv, MP.st, MP.tru, MP.cmpD, MP.ordD, MP.binD, MP.startE, MP.pad, MP.fitsA, MP.outsOf, MP.retR, MP.stoR, MP.onOwn, MP.onSlot, MP.augV, MP.bindT, MP.bindTs, MP.putOuts, MP.inD, MP.isD, MP.runFd] using hL
      · show (nO w7 && true) = true
        rw [hw]; rfl
      · rw [lcGo_map (fun d => match d with | .int i => decide ((if 0 < i.toNat then (edg face ts size).getD (i.toNat - 1) 0 else 0) ≤ x) && decide (x < (edg face ts size).getD i.toNat 0) | _ => false) (fun d => d)]
        · rw [List.filter_map, List.map_map]; rfl
        · intro y hy
          simp only [List.mem_map, List.mem_range] at hy
          obtain ⟨j, hj, rfl⟩ := hy
          refine ⟨_, rfl, ?_⟩
          have at1 : atD ((edg face ts size).map D.int) (j : Int) = some (.int ((edg face ts size).getD j 0)) := by
            rw [atD_nat]; simp [MP.exSs, MP.evT, MP.evTA, MP.evTO, MP.evTs, MP.evAnd, MP.evOr, MP.evDs, MP.evOs, MP.evAs, MP.evP, MP.evI, MP.lks, MP.M.bd, MP.M.ret, MP.lk, MP.lift, MP.unf, MP.look, MP.cap, MP.guard, MP.sv, MP.st, MP.tru, MP.cmpD, MP.ordD, MP.binD, MP.startE, MP.pad, MP.fitsA, MP.outsOf, MP.retR, MP.stoR, MP.onOwn, MP.onSlot, MP.augV, MP.bindT, MP.bindTs, MP.putOuts, MP.inD, MP.isD, MP.runFd, List.getD, hel, hj]
          by_cases hj0 : 0 < j
          · have at2 : atD ((edg face ts size).map D.int) ((j : Int) - 1) = some (.int ((edg face ts size).getD (j - 1) 0)) := by
              rw [show (j : Int) - 1 = ((j - 1 : Nat) : Int) by omega, atD_nat]; simp [MP.exSs, MP.evT, MP.evTA, MP.evTO, MP.evTs, MP.evAnd, MP.evOr, MP.evDs, MP.evOs, MP.evAs, MP.evP, MP.evI, MP.lks, MP.M.bd, MP.M.ret, MP.lk, MP.lift, MP.unf, MP.look, MP.cap, MP.guard, MP.sv, MP.st, MP.tru, MP.cmpD, MP.ordD, MP.binD, MP.startE, MP.pad, MP.fitsA, MP.outsOf, MP.retR, MP.stoR, MP.onOwn, MP.onSlot, MP.augV, MP.bindT, MP.bindTs, MP.putOuts, MP.inD, MP.isD, MP.runFd, List.getD, hel, show j - 1 < ts.length by omega]
            by_cases q1 : (edg face ts size).getD (j - 1) 0 ≤ x <;> by_cases q2 : x < (edg face ts size).getD j 0 <;> simp [MP.exSs, MP.evT, MP.evTA, MP.evTO, MP.evTs, MP.evAnd, MP.evOr, MP.evDs, MP.evOs, MP.evAs, MP.evP, MP.evI, MP.lks, MP.M.bd, MP.M.ret, MP.lk, MP.lift, MP.unf, MP.look, MP.cap, MP.guard, MP.sv, MP.st, MP.tru, MP.cmpD, MP.ordD, MP.binD, MP.startE, MP.pad, MP.fitsA, MP.outsOf, MP.retR, MP.stoR, MP.onOwn, MP.onSlot, MP.augV, MP.bindT, MP.bindTs, MP.putOuts, MP.inD, MP.isD, MP.runFd, wipeE, hj0, at1, at2, q1, q2, -List.getD_eq_getElem?_getD]
          · by_cases q1 : (0 : Int) ≤ x <;> by_cases q2 : x < (edg face ts size).getD j 0 <;> simp [MP.exSs, MP.evT, MP.evTA, MP.evTO, MP.evTs, MP.evAnd, MP.evOr, MP.evDs, MP.evOs, MP.evAs, MP.evP, MP.evI, MP.lks, MP.M.bd, MP.M.ret, MP.lk, MP.lift, MP.unf, MP.look, MP.cap, MP.guard, MP.sv, MP.st, MP.tru, MP.cmpD, MP.ordD, MP.binD, MP.startE, MP.pad, MP.fitsA, MP.outsOf, MP.retR, MP.stoR, MP.onOwn, MP.onSlot, MP.augV, MP.bindT, MP.bindTs, MP.putOuts, MP.inD, MP.isD, MP.runFd, wipeE, hj0, at1, q1, q2, -List.getD_eq_getElem?_getD]
    have P := under_ok 1 ts face size x (by omega) hs
    have hp := pu_filter x (edg face ts size) 0 0
    rw [hel] at hp
    change _ = ((und (edg face ts size) x ts.length).head?).map _ at hp
    cases hU : und (edg face ts size) x ts.length with
    | nil =>
      rw [hU] at M hp
      have z := eqD_ints [] []
      simp [MP.exSs, MP.evT, MP.evTA, MP.evTO, MP.evTs, MP.evAnd, MP.evOr, MP.evDs, MP.evOs, MP.evAs, MP.evP, MP.evI, MP.lks, MP.M.bd, MP.M.ret, MP.lk, MP.lift, MP.unf, MP.look, MP.cap, MP.guard, MP.sv, MP.st, MP.tru, MP.cmpD, MP.ordD, MP.binD, MP.startE, MP.pad, MP.fitsA, MP.outsOf, MP.retR, MP.stoR, MP.onOwn, MP.onSlot, MP.augV, MP.bindT, MP.bindTs, MP.putOuts, MP.inD, MP.isD, MP.runFd] at hp z
      rw [hp] at P
      refine ⟨_, .nx, [a, .own xs, .val (.str face), .val (.str ts), .val (.int size), .own ((edg face ts size).map D.int), .val (.int (tw face ts)), w7, v8, .val (.int x), .own [], v11, v12, v13, v14], rfl, ?_, .inl rfl, w7, _, _, hw, rfl⟩
      simp [MP.exSs, MP.evT, MP.evTA, MP.evTO, MP.evTs, MP.evAnd, MP.evOr, MP.evDs, MP.evOs, MP.evAs, MP.evP, MP.evI, MP.lks, MP.M.bd, MP.M.ret, MP.lk, MP.lift, MP.unf, MP.look, MP.cap, MP.guard, MP.sv, MP.st, MP.tru, MP.cmpD, MP.ordD, MP.binD, MP.startE, MP.pad, MP.fitsA, MP.outsOf, MP.retR, MP.stoR, MP.onOwn, MP.onSlot, MP.augV, MP.bindT, MP.bindTs, MP.putOuts, MP.inD, MP.isD, MP.runFd] at M
      simp [MP.exSs, MP.evT, MP.evTA, MP.evTO, MP.evTs, MP.evAnd, MP.evOr, MP.evDs, MP.evOs, MP.evAs, MP.evP, MP.evI, MP.lks, MP.M.bd, MP.M.ret, MP.lk, MP.lift, MP.unf, MP.look, MP.cap, MP.guard, MP.sv, MP.st, MP.tru, MP.cmpD, MP.ordD, MP.binD, MP.startE, MP.pad, MP.fitsA, MP.outsOf, MP.retR, MP.stoR, MP.onOwn, MP.onSlot, MP.augV, MP.bindT, MP.bindTs, MP.putOuts, MP.inD, MP.isD, MP.runFd, f_law_b1, M, P, z, oD]
    | cons u r =>
      rw [hU] at M hp
      simp [MP.exSs, MP.evT, MP.evTA, MP.evTO, MP.evTs, MP.evAnd, MP.evOr, MP.evDs, MP.evOs, MP.evAs, MP.evP, MP.evI, MP.lks, MP.M.bd, MP.M.ret, MP.lk, MP.lift, MP.unf, MP.look, MP.cap, MP.guard, MP.sv, MP.st, MP.tru, MP.cmpD, MP.ordD, MP.binD, MP.startE, MP.pad, MP.fitsA, MP.outsOf, MP.retR, MP.stoR, MP.onOwn, MP.onSlot, MP.augV, MP.bindT, MP.bindTs, MP.putOuts, MP.inD, MP.isD, MP.runFd] at hp
      rw [hp] at P
      have z : eqD (.lst (((u :: r).map fun (i : Nat) => D.int (i : Int)))) (.lst []) = some false := by
        have h := eqD_ints ((u :: r).map fun (i : Nat) => (i : Int)) []
        rw [List.map_map] at h
        exact h
      refine ⟨_, .nx, [a, .own xs, .val (.str face), .val (.str ts), .val (.int size), .own ((edg face ts size).map D.int), .val (.int (tw face ts)), w7, v8, .val (.int x), .own ((u :: r).map fun (i : Nat) => D.int (i : Int)), v11, v12, v13, v14], rfl, ?_, .inl rfl, w7, _, _, hw, rfl⟩
      have at0 : atD ((u :: r).map fun (i : Nat) => D.int (i : Int)) 0 = some (.int u) := rfl
      simp only [List.map_cons] at M z at0 ⊢
      simp [MP.exSs, MP.evT, MP.evTA, MP.evTO, MP.evTs, MP.evAnd, MP.evOr, MP.evDs, MP.evOs, MP.evAs, MP.evP, MP.evI, MP.lks, MP.M.bd, MP.M.ret, MP.lk, MP.lift, MP.unf, MP.look, MP.cap, MP.guard, MP.sv, MP.st, MP.tru, MP.cmpD, MP.ordD, MP.binD, MP.startE, MP.pad, MP.fitsA, MP.outsOf, MP.retR, MP.stoR, MP.onOwn, MP.onSlot, MP.augV, MP.bindT, MP.bindTs, MP.putOuts, MP.inD, MP.isD, MP.runFd, f_law_b1, M, P, z, oD, at0])
  exact ⟨w7, w9, w10, g2, g1⟩

theorem s5_ok {xs : List D} (hx : StOk xs) (face ts : List Nat) (size : Int) (hl : ts.length ≤ 24) (h1 : 1 ≤ size) (h4 : size ≤ 4) (a v7 v8 v9 v10 v11 v12 v13 v14 : SV) (hv : nO v12 = true) : ∃ ys w11, StOk ys ∧ exS (prog.ctx 5) f_law_s5 [a, .own xs, .val (.str face), .val (.str ts), .val (.int size), .own ((edg face ts size).map D.int), .val (.int (tw face ts)), v7, v8, v9, v10, v11, v12, v13, v14] =
    some (.nx, [a, .own ys, .val (.str face), .val (.str ts), .val (.int size), .val (.lst ((edg face ts size).map D.int)), .val (.int (tw face ts)), v7, v8, v9, v10, w11, v12, v13, v14]) := by
  have hs : big64 size = true := big_le (by omega)
  obtain ⟨r, ys, n1, n2, n3, n4⟩ := next_ok 4 (l := 200) hx (by omega) (by omega)
  have h5 : (5 ≤ LIM) = True := by simp [MP.exSs, MP.evT, MP.evTA, MP.evTO, MP.evTs, MP.evAnd, MP.evOr, MP.evDs, MP.evOs, MP.evAs, MP.evP, MP.evI, MP.lks, MP.M.bd, MP.M.ret, MP.lk, MP.lift, MP.unf, MP.look, MP.cap, MP.guard, MP.sv, MP.st, MP.tru, MP.cmpD, MP.ordD, MP.binD, MP.startE, MP.pad, MP.fitsA, MP.outsOf, MP.retR, MP.stoR, MP.onOwn, MP.onSlot, MP.augV, MP.bindT, MP.bindTs, MP.putOuts, MP.inD, MP.isD, MP.runFd, LIM]
  have hd : Nat.ble (2 : Int).toNat 1073741823 = true := by decide
  have hi : evI (prog.ctx 5) (.seq (.lst [.cst (.int 0), .bin .Mult (.var 6) (.var 4), .bin .FloorDiv (.bin .Mult (.var 6) (.var 4)) (.cst (.int 2)), .bin .Sub (.bin .Mult (.var 6) (.var 4)) (.cst (.int 1)), .cal "_law_next" [some 1, none] [.var 1, .cst (.int 200)]])) [a, .own xs, .val (.str face), .val (.str ts), .val (.int size), .own ((edg face ts size).map D.int), .val (.int (tw face ts)), v7, v8, v9, v10, v11, v12, v13, v14] =
      some ([0, tw face ts * size, tw face ts * size / 2, tw face ts * size - 1, r].map D.int, [a, .own ys, .val (.str face), .val (.str ts), .val (.int size), .own ((edg face ts size).map D.int), .val (.int (tw face ts)), v7, v8, v9, v10, v11, v12, v13, v14]) := by
    simp [MP.exSs, MP.evT, MP.evTA, MP.evTO, MP.evTs, MP.evAnd, MP.evOr, MP.evDs, MP.evOs, MP.evAs, MP.evP, MP.evI, MP.lks, MP.M.bd, MP.M.ret, MP.lk, MP.lift, MP.unf, MP.look, MP.cap, MP.guard, MP.sv, MP.st, MP.tru, MP.cmpD, MP.ordD, MP.binD, MP.startE, MP.pad, MP.fitsA, MP.outsOf, MP.retR, MP.stoR, MP.onOwn, MP.onSlot, MP.augV, MP.bindT, MP.bindTs, MP.putOuts, MP.inD, MP.isD, MP.runFd, hs, n1, h5, hd, seqD]
  obtain ⟨e', g1, w11, v5, q5, rfl⟩ := for_inv (c := prog.ctx 5) (t := .nam 11) (b := f_law_b2) (fun n e => ∃ w11 v5, (v5 = .own ((edg face ts size).map D.int) ∧ n = 0 ∨ v5 = .val (.lst ((edg face ts size).map D.int))) ∧ e = [a, .own ys, .val (.str face), .val (.str ts), .val (.int size), v5, .val (.int (tw face ts)), v7, v8, v9, v10, w11, v12, v13, v14]) hi ⟨v11, _, .inl ⟨rfl, rfl⟩, rfl⟩ (by
    intro i x e hx ⟨w11, v5, h5, he⟩
    subst he
    obtain ⟨w, _, rfl⟩ := List.mem_map.mp (List.mem_of_getElem? hx)
    refine ⟨_, .nx, [a, .own ys, .val (.str face), .val (.str ts), .val (.int size), .val (.lst ((edg face ts size).map D.int)), .val (.int (tw face ts)), v7, v8, v9, v10, .val (.int w), v12, v13, v14], rfl, ?_, .inl rfl, _, _, .inr rfl, rfl⟩
    have M : evE (prog.ctx 5) f_law_c3 [a, .own ys, .val (.str face), .val (.str ts), .val (.int size), v5, .val (.int (tw face ts)), v7, v8, v9, v10, .val (.int w), v12, v13, v14] = some (.fresh (((edg face ts size).filter fun e => decide (e ≤ w)).map D.int), [a, .own ys, .val (.str face), .val (.str ts), .val (.int size), .val (.lst ((edg face ts size).map D.int)), .val (.int (tw face ts)), v7, v8, v9, v10, .val (.int w), v12, v13, v14]) := by
      rw [f_law_c3, evLc (xs := (edg face ts size).map D.int) (e1 := [a, .own ys, .val (.str face), .val (.str ts), .val (.int size), .val (.lst ((edg face ts size).map D.int)), .val (.int (tw face ts)), v7, v8, v9, v10, .val (.int w), v12, v13, v14]) (ys := ((edg face ts size).filter fun e => decide (e ≤ w)).map D.int) (e2 := [a, .own ys, .val (.str face), .val (.str ts), .val (.int size), .val (.lst ((edg face ts size).map D.int)), .val (.int (tw face ts)), v7, v8, v9, v10, .val (.int w), .no, v13, v14]) ?_ ?_ ?_ ?_]
      · rfl
      · rcases h5 with ⟨rfl, _⟩ | rfl <;> simp [MP.exSs, MP.evT, MP.evTA, MP.evTO, MP.evTs, MP.evAnd, MP.evOr, MP.evDs, MP.evOs, MP.evAs, MP.evP, MP.evI, MP.lks, MP.M.bd, MP.M.ret, MP.lk, MP.lift, MP.unf, MP.look, MP.cap, MP.guard, MP.sv, MP.st, MP.tru, MP.cmpD, MP.ordD, MP.binD, MP.startE, MP.pad, MP.fitsA, MP.outsOf, MP.retR, MP.stoR, MP.onOwn, MP.onSlot, MP.augV, MP.bindT, MP.bindTs, MP.putOuts, MP.inD, MP.isD, MP.runFd, seqD]
      · simp [MP.exSs, MP.evT, MP.evTA, MP.evTO, MP.evTs, MP.evAnd, MP.evOr, MP.evDs, MP.evOs, MP.evAs, MP.evP, MP.evI, MP.lks, MP.M.bd, MP.M.ret, MP.lk, MP.lift, MP.unf, MP.look, MP.cap, MP.guard, MP.sv, MP.st, MP.tru, MP.cmpD, MP.ordD, MP.binD, MP.startE, MP.pad, MP.fitsA, MP.outsOf, MP.retR, MP.stoR, MP.onOwn, MP.onSlot, MP.augV, MP.bindT, MP.bindTs, MP.putOuts, MP.inD, MP.isD, MP.runFd, edg, LIM]; omega
      · show (nO v12 && true) = true
        rw [hv]; rfl
      · rw [lcGo_map (fun d => match d with | .int i => decide (i ≤ w) | _ => false) (fun d => d)]
        · simp [MP.exSs, MP.evT, MP.evTA, MP.evTO, MP.evTs, MP.evAnd, MP.evOr, MP.evDs, MP.evOs, MP.evAs, MP.evP, MP.evI, MP.lks, MP.M.bd, MP.M.ret, MP.lk, MP.lift, MP.unf, MP.look, MP.cap, MP.guard, MP.sv, MP.st, MP.tru, MP.cmpD, MP.ordD, MP.binD, MP.startE, MP.pad, MP.fitsA, MP.outsOf, MP.retR, MP.stoR, MP.onOwn, MP.onSlot, MP.augV, MP.bindT, MP.bindTs, MP.putOuts, MP.inD, MP.isD, MP.runFd, wipeE, List.filter_map]; rfl
        · intro y hy
          simp only [List.mem_map] at hy
          obtain ⟨i, _, rfl⟩ := hy
          refine ⟨_, rfl, ?_⟩
          simp [MP.exSs, MP.evT, MP.evTA, MP.evTO, MP.evTs, MP.evAnd, MP.evOr, MP.evDs, MP.evOs, MP.evAs, MP.evP, MP.evI, MP.lks, MP.M.bd, MP.M.ret, MP.lk, MP.lift, MP.unf, MP.look, MP.cap, MP.guard, MP.sv, MP.st, MP.tru, MP.cmpD, MP.ordD, MP.binD, MP.startE, MP.pad, MP.fitsA, MP.outsOf, MP.retR, MP.stoR, MP.onOwn, MP.onSlot, MP.augV, MP.bindT, MP.bindTs, MP.putOuts, MP.inD, MP.isD, MP.runFd, wipeE]
    have F := fitting_ok 1 ts face size w (by omega) hs
    simp [MP.exSs, MP.evT, MP.evTA, MP.evTO, MP.evTs, MP.evAnd, MP.evOr, MP.evDs, MP.evOs, MP.evAs, MP.evP, MP.evI, MP.lks, MP.M.bd, MP.M.ret, MP.lk, MP.lift, MP.unf, MP.look, MP.cap, MP.guard, MP.sv, MP.st, MP.tru, MP.cmpD, MP.ordD, MP.binD, MP.startE, MP.pad, MP.fitsA, MP.outsOf, MP.retR, MP.stoR, MP.onOwn, MP.onSlot, MP.augV, MP.bindT, MP.bindTs, MP.putOuts, MP.inD, MP.isD, MP.runFd, f_law_b2, M, F])
  rcases q5 with ⟨_, q⟩ | rfl
  · simp [MP.exSs, MP.evT, MP.evTA, MP.evTO, MP.evTs, MP.evAnd, MP.evOr, MP.evDs, MP.evOs, MP.evAs, MP.evP, MP.evI, MP.lks, MP.M.bd, MP.M.ret, MP.lk, MP.lift, MP.unf, MP.look, MP.cap, MP.guard, MP.sv, MP.st, MP.tru, MP.cmpD, MP.ordD, MP.binD, MP.startE, MP.pad, MP.fitsA, MP.outsOf, MP.retR, MP.stoR, MP.onOwn, MP.onSlot, MP.augV, MP.bindT, MP.bindTs, MP.putOuts, MP.inD, MP.isD, MP.runFd] at q
  · exact ⟨ys, w11, n2, g1⟩
theorem s6_ok {xs : List D} (hx : StOk xs) (face ts : List Nat) (size : Int) (hl : ts.length ≤ 24) (a v5 v7 v8 v9 v10 v11 v12 v13 v14 : SV) : ∃ ys, ∃ cut : Nat, StOk ys ∧ cut ≤ ts.length ∧ exS (prog.ctx 5) f_law_s6 [a, .own xs, .val (.str face), .val (.str ts), .val (.int size), v5, .val (.int (tw face ts)), v7, v8, v9, v10, v11, v12, v13, v14] =
    some (.nx, [a, .own ys, .val (.str face), .val (.str ts), .val (.int size), v5, .val (.int (tw face ts)), v7, v8, v9, v10, v11, v12, .val (.int cut), v14]) := by
  have hL : ts.length ≤ LIM := by unfold LIM; omega
  obtain ⟨r, ys, n1, n2, n3, n4⟩ := next_ok 4 (l := (ts.length : Int) + 1) hx (by omega) (by omega)
  refine ⟨ys, r.toNat, n2, by omega, ?_⟩
  rw [Int.toNat_of_nonneg n3]
  simp [MP.exSs, MP.evT, MP.evTA, MP.evTO, MP.evTs, MP.evAnd, MP.evOr, MP.evDs, MP.evOs, MP.evAs, MP.evP, MP.evI, MP.lks, MP.M.bd, MP.M.ret, MP.lk, MP.lift, MP.unf, MP.look, MP.cap, MP.guard, MP.sv, MP.st, MP.tru, MP.cmpD, MP.ordD, MP.binD, MP.startE, MP.pad, MP.fitsA, MP.outsOf, MP.retR, MP.stoR, MP.onOwn, MP.onSlot, MP.augV, MP.bindT, MP.bindTs, MP.putOuts, MP.inD, MP.isD, MP.runFd, f_law_s6, len_str hL, n1]
def lostV (face ts : List Nat) (cut : Nat) : Int := if 0 < cut ∧ cut < ts.length then nearV face (ts.getD (cut - 1) 0) (ts.getD cut 0) else 0
theorem s7_ok (xs : List D) (face ts : List Nat) (size : Int) (hl : ts.length ≤ 24) (cut : Nat) (a v5 v7 v8 v9 v10 v11 v12 v14 : SV) : exS (prog.ctx 5) f_law_s7 [a, .own xs, .val (.str face), .val (.str ts), .val (.int size), v5, .val (.int (tw face ts)), v7, v8, v9, v10, v11, v12, .val (.int cut), v14] =
    some (.nx, [a, .own xs, .val (.str face), .val (.str ts), .val (.int size), v5, .val (.int (tw face ts)), v7, v8, v9, v10, v11, v12, .val (.int cut), .val (.int (lostV face ts cut))]) := by
  have hL : ts.length ≤ LIM := by unfold LIM; omega
  unfold lostV
  by_cases h0 : 0 < cut
  · by_cases h1 : cut < ts.length
    · have at1 : atD ts (cut : Int) = some (ts.getD cut 0) := by rw [atD_nat]; simp [MP.exSs, MP.evT, MP.evTA, MP.evTO, MP.evTs, MP.evAnd, MP.evOr, MP.evDs, MP.evOs, MP.evAs, MP.evP, MP.evI, MP.lks, MP.M.bd, MP.M.ret, MP.lk, MP.lift, MP.unf, MP.look, MP.cap, MP.guard, MP.sv, MP.st, MP.tru, MP.cmpD, MP.ordD, MP.binD, MP.startE, MP.pad, MP.fitsA, MP.outsOf, MP.retR, MP.stoR, MP.onOwn, MP.onSlot, MP.augV, MP.bindT, MP.bindTs, MP.putOuts, MP.inD, MP.isD, MP.runFd, List.getD, h1]
      have at2 : atD ts ((cut : Int) - 1) = some (ts.getD (cut - 1) 0) := by
        rw [show (cut : Int) - 1 = ((cut - 1 : Nat) : Int) by omega, atD_nat]; simp [MP.exSs, MP.evT, MP.evTA, MP.evTO, MP.evTs, MP.evAnd, MP.evOr, MP.evDs, MP.evOs, MP.evAs, MP.evP, MP.evI, MP.lks, MP.M.bd, MP.M.ret, MP.lk, MP.lift, MP.unf, MP.look, MP.cap, MP.guard, MP.sv, MP.st, MP.tru, MP.cmpD, MP.ordD, MP.binD, MP.startE, MP.pad, MP.fitsA, MP.outsOf, MP.retR, MP.stoR, MP.onOwn, MP.onSlot, MP.augV, MP.bindT, MP.bindTs, MP.putOuts, MP.inD, MP.isD, MP.runFd, List.getD, show cut - 1 < ts.length by omega]
      have n := near_ok 4 (ts.getD (cut - 1) 0) (ts.getD cut 0) face
      simp [MP.exSs, MP.evT, MP.evTA, MP.evTO, MP.evTs, MP.evAnd, MP.evOr, MP.evDs, MP.evOs, MP.evAs, MP.evP, MP.evI, MP.lks, MP.M.bd, MP.M.ret, MP.lk, MP.lift, MP.unf, MP.look, MP.cap, MP.guard, MP.sv, MP.st, MP.tru, MP.cmpD, MP.ordD, MP.binD, MP.startE, MP.pad, MP.fitsA, MP.outsOf, MP.retR, MP.stoR, MP.onOwn, MP.onSlot, MP.augV, MP.bindT, MP.bindTs, MP.putOuts, MP.inD, MP.isD, MP.runFd, f_law_s7, len_str hL, h0, h1, idx_str _ hL, at1, at2, n, -List.getD_eq_getElem?_getD]
    · simp [MP.exSs, MP.evT, MP.evTA, MP.evTO, MP.evTs, MP.evAnd, MP.evOr, MP.evDs, MP.evOs, MP.evAs, MP.evP, MP.evI, MP.lks, MP.M.bd, MP.M.ret, MP.lk, MP.lift, MP.unf, MP.look, MP.cap, MP.guard, MP.sv, MP.st, MP.tru, MP.cmpD, MP.ordD, MP.binD, MP.startE, MP.pad, MP.fitsA, MP.outsOf, MP.retR, MP.stoR, MP.onOwn, MP.onSlot, MP.augV, MP.bindT, MP.bindTs, MP.putOuts, MP.inD, MP.isD, MP.runFd, f_law_s7, len_str hL, h0, h1]
  · simp [MP.exSs, MP.evT, MP.evTA, MP.evTO, MP.evTs, MP.evAnd, MP.evOr, MP.evDs, MP.evOs, MP.evAs, MP.evP, MP.evI, MP.lks, MP.M.bd, MP.M.ret, MP.lk, MP.lift, MP.unf, MP.look, MP.cap, MP.guard, MP.sv, MP.st, MP.tru, MP.cmpD, MP.ordD, MP.binD, MP.startE, MP.pad, MP.fitsA, MP.outsOf, MP.retR, MP.stoR, MP.onOwn, MP.onSlot, MP.augV, MP.bindT, MP.bindTs, MP.putOuts, MP.inD, MP.isD, MP.runFd, f_law_s7, len_str hL, h0]
theorem cutA {ts : List Nat} {i : Nat} (h : i ≤ ts.length) : cutL ts none (some (i : Int)) = ts.take i := by
  have e2 : sixD ts.length ts.length (some (i : Int)) = i := by
    simp only [sixD]
    rw [if_neg (by omega)]
    omega
  unfold cutL
  rw [e2]
  simp [MP.exSs, MP.evT, MP.evTA, MP.evTO, MP.evTs, MP.evAnd, MP.evOr, MP.evDs, MP.evOs, MP.evAs, MP.evP, MP.evI, MP.lks, MP.M.bd, MP.M.ret, MP.lk, MP.lift, MP.unf, MP.look, MP.cap, MP.guard, MP.sv, MP.st, MP.tru, MP.cmpD, MP.ordD, MP.binD, MP.startE, MP.pad, MP.fitsA, MP.outsOf, MP.retR, MP.stoR, MP.onOwn, MP.onSlot, MP.augV, MP.bindT, MP.bindTs, MP.putOuts, MP.inD, MP.isD, MP.runFd, sixD]
theorem cutB {ts : List Nat} {i : Nat} (h : i ≤ ts.length) : cutL ts (some (i : Int)) none = ts.drop i := by
  have e2 : sixD ts.length 0 (some (i : Int)) = i := by
    simp only [sixD]
    rw [if_neg (by omega)]
    omega
  unfold cutL
  rw [e2]
  simp only [sixD]
  rw [List.take_of_length_le (by simp [MP.exSs, MP.evT, MP.evTA, MP.evTO, MP.evTs, MP.evAnd, MP.evOr, MP.evDs, MP.evOs, MP.evAs, MP.evP, MP.evI, MP.lks, MP.M.bd, MP.M.ret, MP.lk, MP.lift, MP.unf, MP.look, MP.cap, MP.guard, MP.sv, MP.st, MP.tru, MP.cmpD, MP.ordD, MP.binD, MP.startE, MP.pad, MP.fitsA, MP.outsOf, MP.retR, MP.stoR, MP.onOwn, MP.onSlot, MP.augV, MP.bindT, MP.bindTs, MP.putOuts, MP.inD, MP.isD, MP.runFd])]
theorem s8_ok (xs : List D) (face ts : List Nat) (size : Int) (hl : ts.length ≤ 24) (h1 : 1 ≤ size) (h4 : size ≤ 4) (cut : Nat) (hc : cut ≤ ts.length) (a v5 v7 v8 v9 v10 v11 v12 : SV) : exS (prog.ctx 5) f_law_s8 [a, .own xs, .val (.str face), .val (.str ts), .val (.int size), v5, .val (.int (tw face ts)), v7, v8, v9, v10, v11, v12, .val (.int cut), .val (.int (lostV face ts cut))] =
    some (.nx, [a, .own xs, .val (.str face), .val (.str ts), .val (.int size), v5, .val (.int (tw face ts)), v7, v8, v9, v10, v11, v12, .val (.int cut), .val (.int (lostV face ts cut))]) := by
  have hL : ts.length ≤ LIM := by unfold LIM; omega
  have hs : big64 size = true := big_le (by omega)
  have b1 : big64 1 = true := by decide
  have w0 := text_width_ok 3 (ts.take cut) face size (by simp [MP.exSs, MP.evT, MP.evTA, MP.evTO, MP.evTs, MP.evAnd, MP.evOr, MP.evDs, MP.evOs, MP.evAs, MP.evP, MP.evI, MP.lks, MP.M.bd, MP.M.ret, MP.lk, MP.lift, MP.unf, MP.look, MP.cap, MP.guard, MP.sv, MP.st, MP.tru, MP.cmpD, MP.ordD, MP.binD, MP.startE, MP.pad, MP.fitsA, MP.outsOf, MP.retR, MP.stoR, MP.onOwn, MP.onSlot, MP.augV, MP.bindT, MP.bindTs, MP.putOuts, MP.inD, MP.isD, MP.runFd]; omega) hs
  have w1 := text_width_ok 3 (ts.drop cut) face size (by simp [MP.exSs, MP.evT, MP.evTA, MP.evTO, MP.evTs, MP.evAnd, MP.evOr, MP.evDs, MP.evOs, MP.evAs, MP.evP, MP.evI, MP.lks, MP.M.bd, MP.M.ret, MP.lk, MP.lift, MP.unf, MP.look, MP.cap, MP.guard, MP.sv, MP.st, MP.tru, MP.cmpD, MP.ordD, MP.binD, MP.startE, MP.pad, MP.fitsA, MP.outsOf, MP.retR, MP.stoR, MP.onOwn, MP.onSlot, MP.augV, MP.bindT, MP.bindTs, MP.putOuts, MP.inD, MP.isD, MP.runFd]; omega) hs
  have w2 := text_width_ok 3 ts face 1 (by omega) b1
  have e : tw face (ts.take cut) * size + tw face (ts.drop cut) * size = (tw face ts - lostV face ts cut) * size := by
    rw [← Int.add_mul, tw_cut face ts cut hc]; rfl
  simp [MP.exSs, MP.evT, MP.evTA, MP.evTO, MP.evTs, MP.evAnd, MP.evOr, MP.evDs, MP.evOs, MP.evAs, MP.evP, MP.evI, MP.lks, MP.M.bd, MP.M.ret, MP.lk, MP.lift, MP.unf, MP.look, MP.cap, MP.guard, MP.sv, MP.st, MP.tru, MP.cmpD, MP.ordD, MP.binD, MP.startE, MP.pad, MP.fitsA, MP.outsOf, MP.retR, MP.stoR, MP.onOwn, MP.onSlot, MP.augV, MP.bindT, MP.bindTs, MP.putOuts, MP.inD, MP.isD, MP.runFd, f_law_s8, sli_str _ _ hL, cutA hc, cutB hc, w0, w1, w2, hs, e]
theorem s9_ok (xs : List D) (face ts : List Nat) (size : Int) (hl : ts.length ≤ 24) (h1 : 1 ≤ size) (h4 : size ≤ 4) (a v5 v7 v8 v9 v10 v11 v12 v13 v14 : SV) : exS (prog.ctx 5) f_law_s9 [a, .own xs, .val (.str face), .val (.str ts), .val (.int size), v5, .val (.int (tw face ts)), v7, v8, v9, v10, v11, v12, v13, v14] =
    some (.nx, [a, .own xs, .val (.str face), .val (.str ts), .val (.int size), v5, .val (.int (tw face ts)), v7, v8, v9, v10, v11, v12, v13, v14]) := by
  have hL : ts.length ≤ LIM := by unfold LIM; omega
  have hs : big64 size = true := big_le (by omega)
  have b4 : big64 4 = true := by decide
  have w0 := text_width_ok 3 ts [115, 116, 114, 111, 110, 103] size (by omega) hs
  have w1 := text_width_ok 3 ts [112, 108, 97, 105, 110] size (by omega) hs
  have w2 := text_width_ok 3 ts [115, 111, 102, 116] size (by omega) hs
  have w3 := text_width_ok 3 ts [109, 97, 114, 107] size (by omega) hs
  have w4 := text_width_ok 3 ts [99, 111, 100, 101] size (by omega) hs
  have e1 : tw [115, 116, 114, 111, 110, 103] ts * size = tw [112, 108, 97, 105, 110] ts * size + (ts.length : Int) * size := by
    rw [← Int.add_mul]; congr 1; exact tW_strong ts none
  have e2 : tw [115, 111, 102, 116] ts = tw [109, 97, 114, 107] ts := tW_soft ts none
  have e3 : tw [99, 111, 100, 101] ts * size = 4 * size * (ts.length : Int) := by
    rw [show tw [99, 111, 100, 101] ts = 4 * (ts.length : Int) from tW_c ts none, Int.mul_assoc, Int.mul_comm (ts.length : Int) size, Int.mul_assoc]
  have b5 : big64 (ts.length : Int) = true := big_le (by omega)
  by_cases hf : face = [115, 116, 114, 111, 110, 103]
  · simp [MP.exSs, MP.evT, MP.evTA, MP.evTO, MP.evTs, MP.evAnd, MP.evOr, MP.evDs, MP.evOs, MP.evAs, MP.evP, MP.evI, MP.lks, MP.M.bd, MP.M.ret, MP.lk, MP.lift, MP.unf, MP.look, MP.cap, MP.guard, MP.sv, MP.st, MP.tru, MP.cmpD, MP.ordD, MP.binD, MP.startE, MP.pad, MP.fitsA, MP.outsOf, MP.retR, MP.stoR, MP.onOwn, MP.onSlot, MP.augV, MP.bindT, MP.bindTs, MP.putOuts, MP.inD, MP.isD, MP.runFd, f_law_s9, len_str hL, w0, w1, w2, w3, w4, e1, e2, e3, hs, b4, b5, hf]
  · simp [MP.exSs, MP.evT, MP.evTA, MP.evTO, MP.evTs, MP.evAnd, MP.evOr, MP.evDs, MP.evOs, MP.evAs, MP.evP, MP.evI, MP.lks, MP.M.bd, MP.M.ret, MP.lk, MP.lift, MP.unf, MP.look, MP.cap, MP.guard, MP.sv, MP.st, MP.tru, MP.cmpD, MP.ordD, MP.binD, MP.startE, MP.pad, MP.fitsA, MP.outsOf, MP.retR, MP.stoR, MP.onOwn, MP.onSlot, MP.augV, MP.bindT, MP.bindTs, MP.putOuts, MP.inD, MP.isD, MP.runFd, f_law_s9, len_str hL, w0, w1, w2, w3, w4, e1, e2, e3, hs, b4, b5, hf]
theorem s10_ok (xs : List D) (face ts : List Nat) (size : Int) (hl : ts.length ≤ 24) (h1 : 1 ≤ size) (h4 : size ≤ 4) (a v5 v7 v8 v9 v10 v11 v12 v13 v14 : SV) : exS (prog.ctx 5) f_law_s10 [a, .own xs, .val (.str face), .val (.str ts), .val (.int size), v5, .val (.int (tw face ts)), v7, v8, v9, v10, v11, v12, v13, v14] =
    some (.nx, [a, .own xs, .val (.str face), .val (.str ts), .val (.int size), v5, .val (.int (tw face ts)), v7, v8, v9, v10, v11, v12, v13, v14]) := by
  have hs : big64 size = true := big_le (by omega)
  have b3 : big64 3 = true := by decide
  have b4 : big64 4 = true := by decide
  have w0 := space_ok 4 size
  have w1 := height_ok 4 size
  have w2 := under_ok 1 [] face size 0 (by simp [MP.exSs, MP.evT, MP.evTA, MP.evTO, MP.evTs, MP.evAnd, MP.evOr, MP.evDs, MP.evOs, MP.evAs, MP.evP, MP.evI, MP.lks, MP.M.bd, MP.M.ret, MP.lk, MP.lift, MP.unf, MP.look, MP.cap, MP.guard, MP.sv, MP.st, MP.tru, MP.cmpD, MP.ordD, MP.binD, MP.startE, MP.pad, MP.fitsA, MP.outsOf, MP.retR, MP.stoR, MP.onOwn, MP.onSlot, MP.augV, MP.bindT, MP.bindTs, MP.putOuts, MP.inD, MP.isD, MP.runFd]) hs
  have e : eqD (.tup [.int (4 * size), .int (3 * size), .int size]) (.tup [.int (4 * size), .int (3 * size), .int size]) = some true := eqD_self (by simp [MP.exSs, MP.evT, MP.evTA, MP.evTO, MP.evTs, MP.evAnd, MP.evOr, MP.evDs, MP.evOs, MP.evAs, MP.evP, MP.evI, MP.lks, MP.M.bd, MP.M.ret, MP.lk, MP.lift, MP.unf, MP.look, MP.cap, MP.guard, MP.sv, MP.st, MP.tru, MP.cmpD, MP.ordD, MP.binD, MP.startE, MP.pad, MP.fitsA, MP.outsOf, MP.retR, MP.stoR, MP.onOwn, MP.onSlot, MP.augV, MP.bindT, MP.bindTs, MP.putOuts, MP.inD, MP.isD, MP.runFd, okE, dep, deps])
  have h3 : (3 ≤ LIM) = True := by simp [MP.exSs, MP.evT, MP.evTA, MP.evTO, MP.evTs, MP.evAnd, MP.evOr, MP.evDs, MP.evOs, MP.evAs, MP.evP, MP.evI, MP.lks, MP.M.bd, MP.M.ret, MP.lk, MP.lift, MP.unf, MP.look, MP.cap, MP.guard, MP.sv, MP.st, MP.tru, MP.cmpD, MP.ordD, MP.binD, MP.startE, MP.pad, MP.fitsA, MP.outsOf, MP.retR, MP.stoR, MP.onOwn, MP.onSlot, MP.augV, MP.bindT, MP.bindTs, MP.putOuts, MP.inD, MP.isD, MP.runFd, LIM]
  simp [MP.exSs, MP.evT, MP.evTA, MP.evTO, MP.evTs, MP.evAnd, MP.evOr, MP.evDs, MP.evOs, MP.evAs, MP.evP, MP.evI, MP.lks, MP.M.bd, MP.M.ret, MP.lk, MP.lift, MP.unf, MP.look, MP.cap, MP.guard, MP.sv, MP.st, MP.tru, MP.cmpD, MP.ordD, MP.binD, MP.startE, MP.pad, MP.fitsA, MP.outsOf, MP.retR, MP.stoR, MP.onOwn, MP.onSlot, MP.augV, MP.bindT, MP.bindTs, MP.putOuts, MP.inD, MP.isD, MP.runFd, f_law_s10, w0, w1, w2, e, b3, b4, hs, h3, edg, pu, oD]

def lawE (a : SV) (xs : List D) (f : SV) (v3 v4 v5 v6 v7 v8 v9 v10 v11 v12 v13 v14 : SV) : MP.Env := [a, .own xs, f, v3, v4, v5, v6, v7, v8, v9, v10, v11, v12, v13, v14]
theorem nx {c : MP.Ctx} {s : S} {ss : List S} {e e1 : MP.Env} {p : O × MP.Env} (h : exS c s e = some (.nx, e1)) (q : exSs c ss e1 = some p) : exSs c (s :: ss) e = some p := by
  simp only [exSs]
  rw [h]; exact q
theorem turn_ok {xs : List D} (hx : StOk xs) (face : List Nat) (a v3 v4 v5 v6 v7 v8 v9 v10 v11 v12 v13 v14 : SV) (h7 : nO v7 = true) (h8 : nO v8 = true) (h12 : nO v12 = true) : ∃ ys w3 w4 w5 w6 w7 w9 w10 w11 w13 w14, StOk ys ∧ nO w7 = true ∧
    exSs (prog.ctx 5) f_law_b3 [a, .own xs, .val (.str face), v3, v4, v5, v6, v7, v8, v9, v10, v11, v12, v13, v14] = some (.nx, [a, .own ys, .val (.str face), w3, w4, w5, w6, w7, v8, w9, w10, w11, v12, w13, w14]) := by
  obtain ⟨ts, y0, size, e0, hy0, hl, hs1, hs4⟩ := s0_ok hx a (.val (.str face)) v3 v4 v5 v6 v7 v8 v9 v10 v11 v12 v13 v14
  have e1 : exS (prog.ctx 5) f_law_s1 [a, .own y0, .val (.str face), .val (.str ts), .val (.int size), v5, v6, v7, v8, v9, v10, v11, v12, v13, v14] = some (.nx, [a, .own y0, .val (.str face), .val (.str ts), .val (.int size), .own [], .val (.int 0), v7, v8, v9, v10, v11, v12, v13, v14]) := by
    simp [MP.exSs, MP.evT, MP.evTA, MP.evTO, MP.evTs, MP.evAnd, MP.evOr, MP.evDs, MP.evOs, MP.evAs, MP.evP, MP.evI, MP.lks, MP.M.bd, MP.M.ret, MP.lk, MP.lift, MP.unf, MP.look, MP.cap, MP.guard, MP.sv, MP.st, MP.tru, MP.cmpD, MP.ordD, MP.binD, MP.startE, MP.pad, MP.fitsA, MP.outsOf, MP.retR, MP.stoR, MP.onOwn, MP.onSlot, MP.augV, MP.bindT, MP.bindTs, MP.putOuts, MP.inD, MP.isD, MP.runFd, f_law_s1, LIM]
  obtain ⟨w7, hw7, e2⟩ := s2_ok y0 face ts size hl hs1 hs4 a v7 v8 v9 v10 v11 v12 v13 v14 h7
  have e3 := s3_ok y0 face ts size hl hs1 hs4 a w7 v8 v9 v10 v11 v12 v13 v14 h8
  obtain ⟨u7, w9, w10, hu7, e4⟩ := s4_ok y0 face ts size hl hs1 hs4 a w7 v8 v9 v10 v11 v12 v13 v14 hw7
  obtain ⟨y5, w11, hy5, e5⟩ := s5_ok hy0 face ts size hl hs1 hs4 a u7 v8 w9 w10 v11 v12 v13 v14 h12
  obtain ⟨y6, cut, hy6, hc, e6⟩ := s6_ok hy5 face ts size hl a (.val (.lst ((edg face ts size).map D.int))) u7 v8 w9 w10 w11 v12 v13 v14
  have e7 := s7_ok y6 face ts size hl cut a (.val (.lst ((edg face ts size).map D.int))) u7 v8 w9 w10 w11 v12 v14
  have e8 := s8_ok y6 face ts size hl hs1 hs4 cut hc a (.val (.lst ((edg face ts size).map D.int))) u7 v8 w9 w10 w11 v12
  have e9 := s9_ok y6 face ts size hl hs1 hs4 a (.val (.lst ((edg face ts size).map D.int))) u7 v8 w9 w10 w11 v12 (.val (.int cut)) (.val (.int (lostV face ts cut)))
  have e10 := s10_ok y6 face ts size hl hs1 hs4 a (.val (.lst ((edg face ts size).map D.int))) u7 v8 w9 w10 w11 v12 (.val (.int cut)) (.val (.int (lostV face ts cut)))
  refine ⟨y6, .val (.str ts), .val (.int size), .val (.lst ((edg face ts size).map D.int)), .val (.int (tw face ts)), u7, w9, w10, w11, .val (.int cut), .val (.int (lostV face ts cut)), hy6, hu7, ?_⟩
  unfold f_law_b3
  exact nx e0 (nx e1 (nx e2 (nx e3 (nx e4 (nx e5 (nx e6 (nx e7 (nx e8 (nx e9 (nx e10 (by simp only [exSs])))))))))))
theorem math (ns : List Int) (h : ns.length ≤ 63) : ∃ os, MP.Prog.call prog 6 "law" (MP.script ns) = some (.d (.bl true), os) := by
  refine ⟨[.d .non], ?_⟩
  rw [call_eq _ (show findFd "law" prog.defs = some f_law from rfl)]
  have st0 : StOk [.lst (ns.map D.int), .int 0, .int 0, .int 1] := ⟨ns, 0, 0, 1, rfl, by omega⟩
  have h5 : (5 ≤ LIM) = True := by simp [MP.exSs, MP.evT, MP.evTA, MP.evTO, MP.evTs, MP.evAnd, MP.evOr, MP.evDs, MP.evOs, MP.evAs, MP.evP, MP.evI, MP.lks, MP.M.bd, MP.M.ret, MP.lk, MP.lift, MP.unf, MP.look, MP.cap, MP.guard, MP.sv, MP.st, MP.tru, MP.cmpD, MP.ordD, MP.binD, MP.startE, MP.pad, MP.fitsA, MP.outsOf, MP.retR, MP.stoR, MP.onOwn, MP.onSlot, MP.augV, MP.bindT, MP.bindTs, MP.putOuts, MP.inD, MP.isD, MP.runFd, LIM]
  have h4 : (4 ≤ LIM) = True := by simp [MP.exSs, MP.evT, MP.evTA, MP.evTO, MP.evTs, MP.evAnd, MP.evOr, MP.evDs, MP.evOs, MP.evAs, MP.evP, MP.evI, MP.lks, MP.M.bd, MP.M.ret, MP.lk, MP.lift, MP.unf, MP.look, MP.cap, MP.guard, MP.sv, MP.st, MP.tru, MP.cmpD, MP.ordD, MP.binD, MP.startE, MP.pad, MP.fitsA, MP.outsOf, MP.retR, MP.stoR, MP.onOwn, MP.onSlot, MP.augV, MP.bindT, MP.bindTs, MP.putOuts, MP.inD, MP.isD, MP.runFd, LIM]
  have hi : evI (prog.ctx 5) (.seq (.lst [.cst (.str [112, 108, 97, 105, 110]), .cst (.str [115, 116, 114, 111, 110, 103]), .cst (.str [115, 111, 102, 116]), .cst (.str [99, 111, 100, 101]), .cst (.str [109, 97, 114, 107])])) [.val (.frz (ns.map D.int)), .own [.lst (ns.map D.int), .int 0, .int 0, .int 1], .no, .no, .no, .no, .no, .no, .no, .no, .no, .no, .no, .no, .no] =
      some ([[112, 108, 97, 105, 110], [115, 116, 114, 111, 110, 103], [115, 111, 102, 116], [99, 111, 100, 101], [109, 97, 114, 107]].map D.str, [.val (.frz (ns.map D.int)), .own [.lst (ns.map D.int), .int 0, .int 0, .int 1], .no, .no, .no, .no, .no, .no, .no, .no, .no, .no, .no, .no, .no]) := by
    simp [MP.exSs, MP.evT, MP.evTA, MP.evTO, MP.evTs, MP.evAnd, MP.evOr, MP.evDs, MP.evOs, MP.evAs, MP.evP, MP.evI, MP.lks, MP.M.bd, MP.M.ret, MP.lk, MP.lift, MP.unf, MP.look, MP.cap, MP.guard, MP.sv, MP.st, MP.tru, MP.cmpD, MP.ordD, MP.binD, MP.startE, MP.pad, MP.fitsA, MP.outsOf, MP.retR, MP.stoR, MP.onOwn, MP.onSlot, MP.augV, MP.bindT, MP.bindTs, MP.putOuts, MP.inD, MP.isD, MP.runFd, h5, seqD]
  obtain ⟨e', g1, ys, w2, w3, w4, w5, w6, w7, w8, w9, w10, w11, w12, w13, w14, _, _, _, _, rfl⟩ := for_inv (c := prog.ctx 5) (t := .nam 2) (b := f_law_b3) (fun n e => ∃ ys w2 w3 w4 w5 w6 w7 w8 w9 w10 w11 w12 w13 w14, StOk ys ∧ nO w7 = true ∧ nO w8 = true ∧ nO w12 = true ∧ e = [.val (.frz (ns.map D.int)), .own ys, w2, w3, w4, w5, w6, w7, w8, w9, w10, w11, w12, w13, w14]) hi ⟨_, _, _, _, _, _, _, _, _, _, _, _, _, _, st0, rfl, rfl, rfl, rfl⟩ (by
    intro i x e hx ⟨ys, w2, w3, w4, w5, w6, w7, w8, w9, w10, w11, w12, w13, w14, hy, h7, h8, h12, he⟩
    subst he
    obtain ⟨face, _, rfl⟩ := List.mem_map.mp (List.mem_of_getElem? hx)
    obtain ⟨zs, u3, u4, u5, u6, u7, u9, u10, u11, u13, u14, q1, q2, q3⟩ := turn_ok hy face (.val (.frz (ns.map D.int))) w3 w4 w5 w6 w7 w8 w9 w10 w11 w12 w13 w14 h7 h8 h12
    exact ⟨_, .nx, _, rfl, q3, .inl rfl, zs, _, u3, u4, u5, u6, u7, w8, u9, u10, u11, w12, u13, u14, q1, q2, h8, h12, rfl⟩)
  have b1 : big64 1 = true := by decide
  have b2 : big64 2 = true := by decide
  have p1 := under_ok 1 [65, 86, 65] [112, 108, 97, 105, 110] 1 3 (by simp [MP.exSs, MP.evT, MP.evTA, MP.evTO, MP.evTs, MP.evAnd, MP.evOr, MP.evDs, MP.evOs, MP.evAs, MP.evP, MP.evI, MP.lks, MP.M.bd, MP.M.ret, MP.lk, MP.lift, MP.unf, MP.look, MP.cap, MP.guard, MP.sv, MP.st, MP.tru, MP.cmpD, MP.ordD, MP.binD, MP.startE, MP.pad, MP.fitsA, MP.outsOf, MP.retR, MP.stoR, MP.onOwn, MP.onSlot, MP.augV, MP.bindT, MP.bindTs, MP.putOuts, MP.inD, MP.isD, MP.runFd]) b1
  have p2 := under_ok 1 [65, 86, 65] [112, 108, 97, 105, 110] 1 4 (by simp [MP.exSs, MP.evT, MP.evTA, MP.evTO, MP.evTs, MP.evAnd, MP.evOr, MP.evDs, MP.evOs, MP.evAs, MP.evP, MP.evI, MP.lks, MP.M.bd, MP.M.ret, MP.lk, MP.lift, MP.unf, MP.look, MP.cap, MP.guard, MP.sv, MP.st, MP.tru, MP.cmpD, MP.ordD, MP.binD, MP.startE, MP.pad, MP.fitsA, MP.outsOf, MP.retR, MP.stoR, MP.onOwn, MP.onSlot, MP.augV, MP.bindT, MP.bindTs, MP.putOuts, MP.inD, MP.isD, MP.runFd]) b1
  have p3 := under_ok 1 [65, 86, 65] [112, 108, 97, 105, 110] 1 9 (by simp [MP.exSs, MP.evT, MP.evTA, MP.evTO, MP.evTs, MP.evAnd, MP.evOr, MP.evDs, MP.evOs, MP.evAs, MP.evP, MP.evI, MP.lks, MP.M.bd, MP.M.ret, MP.lk, MP.lift, MP.unf, MP.look, MP.cap, MP.guard, MP.sv, MP.st, MP.tru, MP.cmpD, MP.ordD, MP.binD, MP.startE, MP.pad, MP.fitsA, MP.outsOf, MP.retR, MP.stoR, MP.onOwn, MP.onSlot, MP.augV, MP.bindT, MP.bindTs, MP.putOuts, MP.inD, MP.isD, MP.runFd]) b1
  have p4 := under_ok 1 [65, 86, 65] [112, 108, 97, 105, 110] 1 10 (by simp [MP.exSs, MP.evT, MP.evTA, MP.evTO, MP.evTs, MP.evAnd, MP.evOr, MP.evDs, MP.evOs, MP.evAs, MP.evP, MP.evI, MP.lks, MP.M.bd, MP.M.ret, MP.lk, MP.lift, MP.unf, MP.look, MP.cap, MP.guard, MP.sv, MP.st, MP.tru, MP.cmpD, MP.ordD, MP.binD, MP.startE, MP.pad, MP.fitsA, MP.outsOf, MP.retR, MP.stoR, MP.onOwn, MP.onSlot, MP.augV, MP.bindT, MP.bindTs, MP.putOuts, MP.inD, MP.isD, MP.runFd]) b1
  have p5 := text_width_ok 3 [99, 111, 114, 110, 101, 114] [112, 108, 97, 105, 110] 2 (by simp [MP.exSs, MP.evT, MP.evTA, MP.evTO, MP.evTs, MP.evAnd, MP.evOr, MP.evDs, MP.evOs, MP.evAs, MP.evP, MP.evI, MP.lks, MP.M.bd, MP.M.ret, MP.lk, MP.lift, MP.unf, MP.look, MP.cap, MP.guard, MP.sv, MP.st, MP.tru, MP.cmpD, MP.ordD, MP.binD, MP.startE, MP.pad, MP.fitsA, MP.outsOf, MP.retR, MP.stoR, MP.onOwn, MP.onSlot, MP.augV, MP.bindT, MP.bindTs, MP.putOuts, MP.inD, MP.isD, MP.runFd]) b2
  have c1 : oD (pu 3 0 0 (edg [112, 108, 97, 105, 110] [65, 86, 65] 1)) = .int 0 := by rfl
  have c2 : oD (pu 4 0 0 (edg [112, 108, 97, 105, 110] [65, 86, 65] 1)) = .int 1 := by rfl
  have c3 : oD (pu 9 0 0 (edg [112, 108, 97, 105, 110] [65, 86, 65] 1)) = .int 2 := by rfl
  have c4 : oD (pu 10 0 0 (edg [112, 108, 97, 105, 110] [65, 86, 65] 1)) = .non := by rfl
  have c5 : tw [112, 108, 97, 105, 110] [99, 111, 114, 110, 101, 114] * 2 = 50 := by rfl
  rw [c1] at p1
  rw [c2] at p2
  rw [c3] at p3
  rw [c4] at p4
  rw [c5] at p5
  simp [MP.exSs, MP.evT, MP.evTA, MP.evTO, MP.evTs, MP.evAnd, MP.evOr, MP.evDs, MP.evOs, MP.evAs, MP.evP, MP.evI, MP.lks, MP.M.bd, MP.M.ret, MP.lk, MP.lift, MP.unf, MP.look, MP.cap, MP.guard, MP.sv, MP.st, MP.tru, MP.cmpD, MP.ordD, MP.binD, MP.startE, MP.pad, MP.fitsA, MP.outsOf, MP.retR, MP.stoR, MP.onOwn, MP.onSlot, MP.augV, MP.bindT, MP.bindTs, MP.putOuts, MP.inD, MP.isD, MP.runFd, f_law, MP.script, h4, g1, p1, p2, p3, p4, p5]
end K50

namespace K50
open PySem PySem.Spec L2 MP
def topS (i : Nat) : Stmt := PySem.Challenge.pw_settledpages_k50_widths_of_signs_and_edg.main.body.getD i (.Pass ⟨0, 0, 0, 0⟩)
abbrev s_sign_width : Stmt := topS 4
abbrev s_text_width : Stmt := topS 5
abbrev s_space_of : Stmt := topS 6
abbrev s_line_height : Stmt := topS 7
abbrev s_edges_of : Stmt := topS 8
abbrev s_place_under : Stmt := topS 9
abbrev s_fitting : Stmt := topS 10
abbrev s_law_next : Stmt := topS 12
abbrev s_law_wide : Stmt := topS 13
abbrev s_law_near : Stmt := topS 14
abbrev s_law_text : Stmt := topS 15
abbrev s_law : Stmt := topS 16
def sts : List Stmt := [s_sign_width, s_text_width, s_space_of, s_line_height, s_edges_of, s_place_under, s_fitting, s_law_next, s_law_wide, s_law_near, s_law_text, s_law]
def okB : Bool := (prog.defs.zip sts).all fun q => mFd bn (fsOf prog.defs) q.1 q.2
set_option maxHeartbeats 0 in
theorem ok_all : okB = true := by decide +kernel
theorem nd_all : (prog.defs.map (·.name)).Nodup := by decide +kernel
set_option maxHeartbeats 0 in
theorem all_mk {l : PySem.W.OpenLaw} {w : World} {K : PySem.W.Frag} {h : Heap} {mg : Str → Option Value} {fa : Addr} (X : K.In h) (G : h.Ns mainGlobals mg) (hfa : mg "law" = some (.ref fa))
    {f0 : Addr} {od0 an0 : Option Addr} {sl0 : Array (Option Value)} {oc0 kV0 dc0 pm0 cd0 ct0 : Value} (a0 : PySem.W.nsIn K mainGlobals "sign_width" = some (some (.ref f0)))
    (l0 : K.lookup f0 = some ⟨oc0, od0, .func (PySem.W.fnOf "sign_width" "sign_width" (defArgs s_sign_width) (defBody s_sign_width) (defScope s_sign_width) .none kV0 dc0 pm0 an0 cd0 ct0), sl0⟩) (c0 : PySem.W.codeIn K cd0 "sign_width" = true) (k0 : PySem.W.keepIn K (.ref f0) = true)
    {f1 : Addr} {od1 an1 : Option Addr} {sl1 : Array (Option Value)} {oc1 kV1 dc1 pm1 cd1 ct1 : Value} (a1 : PySem.W.nsIn K mainGlobals "text_width" = some (some (.ref f1)))
    (l1 : K.lookup f1 = some ⟨oc1, od1, .func (PySem.W.fnOf "text_width" "text_width" (defArgs s_text_width) (defBody s_text_width) (defScope s_text_width) .none kV1 dc1 pm1 an1 cd1 ct1), sl1⟩) (c1 : PySem.W.codeIn K cd1 "text_width" = true) (k1 : PySem.W.keepIn K (.ref f1) = true)
    {f2 : Addr} {od2 an2 : Option Addr} {sl2 : Array (Option Value)} {oc2 kV2 dc2 pm2 cd2 ct2 : Value} (a2 : PySem.W.nsIn K mainGlobals "space_of" = some (some (.ref f2)))
    (l2 : K.lookup f2 = some ⟨oc2, od2, .func (PySem.W.fnOf "space_of" "space_of" (defArgs s_space_of) (defBody s_space_of) (defScope s_space_of) .none kV2 dc2 pm2 an2 cd2 ct2), sl2⟩) (c2 : PySem.W.codeIn K cd2 "space_of" = true) (k2 : PySem.W.keepIn K (.ref f2) = true)
    {f3 : Addr} {od3 an3 : Option Addr} {sl3 : Array (Option Value)} {oc3 kV3 dc3 pm3 cd3 ct3 : Value} (a3 : PySem.W.nsIn K mainGlobals "line_height" = some (some (.ref f3)))
    (l3 : K.lookup f3 = some ⟨oc3, od3, .func (PySem.W.fnOf "line_height" "line_height" (defArgs s_line_height) (defBody s_line_height) (defScope s_line_height) .none kV3 dc3 pm3 an3 cd3 ct3), sl3⟩) (c3 : PySem.W.codeIn K cd3 "line_height" = true) (k3 : PySem.W.keepIn K (.ref f3) = true)
    {f4 : Addr} {od4 an4 : Option Addr} {sl4 : Array (Option Value)} {oc4 kV4 dc4 pm4 cd4 ct4 : Value} (a4 : PySem.W.nsIn K mainGlobals "edges_of" = some (some (.ref f4)))
    (l4 : K.lookup f4 = some ⟨oc4, od4, .func (PySem.W.fnOf "edges_of" "edges_of" (defArgs s_edges_of) (defBody s_edges_of) (defScope s_edges_of) .none kV4 dc4 pm4 an4 cd4 ct4), sl4⟩) (c4 : PySem.W.codeIn K cd4 "edges_of" = true) (k4 : PySem.W.keepIn K (.ref f4) = true)
    {f5 : Addr} {od5 an5 : Option Addr} {sl5 : Array (Option Value)} {oc5 kV5 dc5 pm5 cd5 ct5 : Value} (a5 : PySem.W.nsIn K mainGlobals "place_under" = some (some (.ref f5)))
    (l5 : K.lookup f5 = some ⟨oc5, od5, .func (PySem.W.fnOf "place_under" "place_under" (defArgs s_place_under) (defBody s_place_under) (defScope s_place_under) .none kV5 dc5 pm5 an5 cd5 ct5), sl5⟩) (c5 : PySem.W.codeIn K cd5 "place_under" = true) (k5 : PySem.W.keepIn K (.ref f5) = true)
    {f6 : Addr} {od6 an6 : Option Addr} {sl6 : Array (Option Value)} {oc6 kV6 dc6 pm6 cd6 ct6 : Value} (a6 : PySem.W.nsIn K mainGlobals "fitting" = some (some (.ref f6)))
    (l6 : K.lookup f6 = some ⟨oc6, od6, .func (PySem.W.fnOf "fitting" "fitting" (defArgs s_fitting) (defBody s_fitting) (defScope s_fitting) .none kV6 dc6 pm6 an6 cd6 ct6), sl6⟩) (c6 : PySem.W.codeIn K cd6 "fitting" = true) (k6 : PySem.W.keepIn K (.ref f6) = true)
    {f7 : Addr} {od7 an7 : Option Addr} {sl7 : Array (Option Value)} {oc7 kV7 dc7 pm7 cd7 ct7 : Value} (a7 : PySem.W.nsIn K mainGlobals "_law_next" = some (some (.ref f7)))
    (l7 : K.lookup f7 = some ⟨oc7, od7, .func (PySem.W.fnOf "_law_next" "_law_next" (defArgs s_law_next) (defBody s_law_next) (defScope s_law_next) .none kV7 dc7 pm7 an7 cd7 ct7), sl7⟩) (c7 : PySem.W.codeIn K cd7 "_law_next" = true) (k7 : PySem.W.keepIn K (.ref f7) = true)
    {f8 : Addr} {od8 an8 : Option Addr} {sl8 : Array (Option Value)} {oc8 kV8 dc8 pm8 cd8 ct8 : Value} (a8 : PySem.W.nsIn K mainGlobals "_law_wide" = some (some (.ref f8)))
    (l8 : K.lookup f8 = some ⟨oc8, od8, .func (PySem.W.fnOf "_law_wide" "_law_wide" (defArgs s_law_wide) (defBody s_law_wide) (defScope s_law_wide) .none kV8 dc8 pm8 an8 cd8 ct8), sl8⟩) (c8 : PySem.W.codeIn K cd8 "_law_wide" = true) (k8 : PySem.W.keepIn K (.ref f8) = true)
    {f9 : Addr} {od9 an9 : Option Addr} {sl9 : Array (Option Value)} {oc9 kV9 dc9 pm9 cd9 ct9 : Value} (a9 : PySem.W.nsIn K mainGlobals "_law_near" = some (some (.ref f9)))
    (l9 : K.lookup f9 = some ⟨oc9, od9, .func (PySem.W.fnOf "_law_near" "_law_near" (defArgs s_law_near) (defBody s_law_near) (defScope s_law_near) .none kV9 dc9 pm9 an9 cd9 ct9), sl9⟩) (c9 : PySem.W.codeIn K cd9 "_law_near" = true) (k9 : PySem.W.keepIn K (.ref f9) = true)
    {f10 : Addr} {od10 an10 : Option Addr} {sl10 : Array (Option Value)} {oc10 kV10 dc10 pm10 cd10 ct10 : Value} (a10 : PySem.W.nsIn K mainGlobals "_law_text" = some (some (.ref f10)))
    (l10 : K.lookup f10 = some ⟨oc10, od10, .func (PySem.W.fnOf "_law_text" "_law_text" (defArgs s_law_text) (defBody s_law_text) (defScope s_law_text) .none kV10 dc10 pm10 an10 cd10 ct10), sl10⟩) (c10 : PySem.W.codeIn K cd10 "_law_text" = true) (k10 : PySem.W.keepIn K (.ref f10) = true)
    {f11 : Addr} {od11 an11 : Option Addr} {sl11 : Array (Option Value)} {oc11 kV11 dc11 pm11 cd11 ct11 : Value} (a11 : PySem.W.nsIn K mainGlobals "law" = some (some (.ref f11)))
    (l11 : K.lookup f11 = some ⟨oc11, od11, .func (PySem.W.fnOf "law" "law" (defArgs s_law) (defBody s_law) (defScope s_law) .none kV11 dc11 pm11 an11 cd11 ct11), sl11⟩) (c11 : PySem.W.codeIn K cd11 "law" = true) (k11 : PySem.W.keepIn K (.ref f11) = true)
    {gt0 : Tok} (mpg0 : PySem.W.nsIn K mainGlobals "NARROW" = some (some (.str "iljtf.,:;'!|()[]-" gt0)))
    {gt1 : Tok} (mpg1 : PySem.W.nsIn K mainGlobals "WIDE" = some (some (.str "mwMWQ@&" gt1)))
    {ga2 gn2 : Nat} {ge2 : Array DictEntry} (mpg2 : PySem.W.nsIn K mainGlobals "PAIRS" = some (some (.ref ga2))) (mpgl2 : K.lookup ga2 = some ⟨.type "dict", none, .dict ge2 gn2, #[]⟩) (mpgm2 : (ga2 == sysModules) = false) (mpgx2 : EntOk w.params [.inr "AV", .inr "VA", .inr "To", .inr "Yo", .inr "fi", .inr "rn"] [.int (-1), .int (-1), .int (-1), .int (-1), .int (-1), .int 1] ge2.toList)
    (z0 : PySem.W.nsIn K mainGlobals "enumerate" = some none)
    (z1 : PySem.W.nsIn K mainGlobals "int" = some none)
    (z2 : PySem.W.nsIn K mainGlobals "len" = some none)
    (z3 : PySem.W.nsIn K mainGlobals "list" = some none)
    (z4 : PySem.W.nsIn K mainGlobals "range" = some none)
    (z5 : PySem.W.nsIn K mainGlobals "sum" = some none) :
    ∃ fd : FuncData, (∀ (s : Shared) (v : Value), BindsTo s fd ⟨[v], []⟩ [("script", v)]) ∧ ∀ base : Heap, K.In base → base.Ns mainGlobals mg → FnOk l.prog w K mg base CX0 6 fa fd ["script"] (spLaw K) := by
  have e := hfa.symm.trans (PySem.W.mg_of X G a11)
  cases e
  have F0 := fun_mk (st := s_sign_width) l0 c0 k0
  have b0 := F0.binds (ps := f_sign_width.ps) fun _ _ _ _ _ _ us hl => match us, hl with | [_, _], _ => rfl
  have d0 : DefOk K mg f_sign_width s_sign_width := ⟨_, _, PySem.W.mg_of X G a0, F0, b0⟩
  have F1 := fun_mk (st := s_text_width) l1 c1 k1
  have b1 := F1.binds (ps := f_text_width.ps) fun _ _ _ _ _ _ us hl => match us, hl with | [_, _, _], _ => rfl
  have d1 : DefOk K mg f_text_width s_text_width := ⟨_, _, PySem.W.mg_of X G a1, F1, b1⟩
  have F2 := fun_mk (st := s_space_of) l2 c2 k2
  have b2 := F2.binds (ps := f_space_of.ps) fun _ _ _ _ _ _ us hl => match us, hl with | [_], _ => rfl
  have d2 : DefOk K mg f_space_of s_space_of := ⟨_, _, PySem.W.mg_of X G a2, F2, b2⟩
  have F3 := fun_mk (st := s_line_height) l3 c3 k3
  have b3 := F3.binds (ps := f_line_height.ps) fun _ _ _ _ _ _ us hl => match us, hl with | [_], _ => rfl
  have d3 : DefOk K mg f_line_height s_line_height := ⟨_, _, PySem.W.mg_of X G a3, F3, b3⟩
  have F4 := fun_mk (st := s_edges_of) l4 c4 k4
  have b4 := F4.binds (ps := f_edges_of.ps) fun _ _ _ _ _ _ us hl => match us, hl with | [_, _, _], _ => rfl
  have d4 : DefOk K mg f_edges_of s_edges_of := ⟨_, _, PySem.W.mg_of X G a4, F4, b4⟩
  have F5 := fun_mk (st := s_place_under) l5 c5 k5
  have b5 := F5.binds (ps := f_place_under.ps) fun _ _ _ _ _ _ us hl => match us, hl with | [_, _, _, _], _ => rfl
  have d5 : DefOk K mg f_place_under s_place_under := ⟨_, _, PySem.W.mg_of X G a5, F5, b5⟩
  have F6 := fun_mk (st := s_fitting) l6 c6 k6
  have b6 := F6.binds (ps := f_fitting.ps) fun _ _ _ _ _ _ us hl => match us, hl with | [_, _, _, _], _ => rfl
  have d6 : DefOk K mg f_fitting s_fitting := ⟨_, _, PySem.W.mg_of X G a6, F6, b6⟩
  have F7 := fun_mk (st := s_law_next) l7 c7 k7
  have b7 := F7.binds (ps := f_law_next.ps) fun _ _ _ _ _ _ us hl => match us, hl with | [_, _], _ => rfl
  have d7 : DefOk K mg f_law_next s_law_next := ⟨_, _, PySem.W.mg_of X G a7, F7, b7⟩
  have F8 := fun_mk (st := s_law_wide) l8 c8 k8
  have b8 := F8.binds (ps := f_law_wide.ps) fun _ _ _ _ _ _ us hl => match us, hl with | [_, _], _ => rfl
  have d8 : DefOk K mg f_law_wide s_law_wide := ⟨_, _, PySem.W.mg_of X G a8, F8, b8⟩
  have F9 := fun_mk (st := s_law_near) l9 c9 k9
  have b9 := F9.binds (ps := f_law_near.ps) fun _ _ _ _ _ _ us hl => match us, hl with | [_, _, _], _ => rfl
  have d9 : DefOk K mg f_law_near s_law_near := ⟨_, _, PySem.W.mg_of X G a9, F9, b9⟩
  have F10 := fun_mk (st := s_law_text) l10 c10 k10
  have b10 := F10.binds (ps := f_law_text.ps) fun _ _ _ _ _ _ us hl => match us, hl with | [_, _], _ => rfl
  have d10 : DefOk K mg f_law_text s_law_text := ⟨_, _, PySem.W.mg_of X G a10, F10, b10⟩
  have F11 := fun_mk (st := s_law) l11 c11 k11
  have b11 := F11.binds (ps := f_law.ps) fun _ _ _ _ _ _ us hl => match us, hl with | [_], _ => rfl
  have d11 : DefOk K mg f_law s_law := ⟨_, _, PySem.W.mg_of X G a11, F11, b11⟩
  have bz : ∀ x ∈ bn, mg (Str.ofString x) = none := by
    intro x hx
    simp only [bn, List.mem_cons, List.not_mem_nil, or_false] at hx
    rcases hx with rfl | rfl | rfl | rfl | rfl | rfl
    · exact PySem.W.mg_none_of X G z0
    · exact PySem.W.mg_none_of X G z1
    · exact PySem.W.mg_none_of X G z2
    · exact PySem.W.mg_none_of X G z3
    · exact PySem.W.mg_none_of X G z4
    · exact PySem.W.mg_none_of X G z5
  have gz : GlobsOk K w.params mg prog.globs := by
    intro x d hd
    simp only [prog, globs, findG] at hd
    by_cases e0 : x = "NARROW"
    · rw [if_pos e0] at hd; cases hd; subst e0; exact ⟨_, V.str "iljtf.,:;'!|()[]-", PySem.W.mg_of X G mpg0, ⟨gt0, rfl⟩, fun _ => rfl⟩
    rw [if_neg e0] at hd
    by_cases e1 : x = "WIDE"
    · rw [if_pos e1] at hd; cases hd; subst e1; exact ⟨_, V.str "mwMWQ@&", PySem.W.mg_of X G mpg1, ⟨gt1, rfl⟩, fun _ => rfl⟩
    rw [if_neg e1] at hd
    by_cases e2 : x = "PAIRS"
    · rw [if_pos e2] at hd; cases hd; subst e2; exact ⟨_, .ref ga2, PySem.W.mg_of X G mpg2, rfl, fun _ => ⟨ga2, _, rfl, ⟨_, _, rfl, rfl, ⟨_, _, rfl, rfl, ⟨_, _, rfl, rfl, ⟨_, _, rfl, rfl, ⟨_, _, rfl, rfl, ⟨_, _, rfl, rfl, rfl⟩⟩⟩⟩⟩⟩, rfl, ge2, gn2, mpgl2, mpgm2, mpgx2⟩⟩
    rw [if_neg e2] at hd
    cases hd
  have fz : ∀ q ∈ prog.defs.zip sts, DefOk K mg q.1 q.2 := by
    intro q hq
    simp only [prog, defs, sts, List.zip_cons_cons, List.zip_nil_right, List.mem_cons, List.not_mem_nil, or_false] at hq
    rcases hq with rfl | rfl | rfl | rfl | rfl | rfl | rfl | rfl | rfl | rfl | rfl | rfl
    · exact d0
    · exact d1
    · exact d2
    · exact d3
    · exact d4
    · exact d5
    · exact d6
    · exact d7
    · exact d8
    · exact d9
    · exact d10
    · exact d11
  have O : ProgOk K w.params mg prog sts bn := ⟨rfl, nd_all, List.all_eq_true.mp ok_all, fz, bz, gz⟩
  refine ⟨PySem.W.fnOf "law" "law" (defArgs s_law) (defBody s_law) (defScope s_law) .none kV11 dc11 pm11 an11 cd11 ct11, fun s v => .of_eq rfl, fun base _ _ => ?_⟩
  exact law_fn (k := 5) (f := f_law) F11 O (List.mem_of_getElem? (i := 11) rfl) rfl math
end K50
open PySem PySem.W PyProof.Rows
set_option maxHeartbeats 0 in
theorem PySem.Challenge.cw_settledpages_k50_widths_of_signs_and_edg_holds : PySem.Challenge.rw_settledpages_k50_widths_of_signs_and_edg.Holds := by
  w_on; o_law; k_head; (case hw => w_witness2)
  k_fill
  refine L2.walk_of (l := PySem.Challenge.rw_settledpages_k50_widths_of_signs_and_edg) (n := 63) (k := 6) (x := "script") (CX := fun _ => L2.CX0) (sp := fun w => MP.spLaw _) rfl (by decide) rfl ⟨rfl, by decide, by decide⟩ (fun w h Y => PySem.W.kIn_of Y) ?F (fun _ _ a ns hl _ hS => ⟨a, ns, rfl, hS, hl, fun _ => rfl⟩) (fun _ _ _ _ _ h => h)
  case F =>
    intro w mg fa h KX G hmg
    refine' K50.all_mk KX G hmg ?a0 ?l0 ?c0 ?k0 ?a1 ?l1 ?c1 ?k1 ?a2 ?l2 ?c2 ?k2 ?a3 ?l3 ?c3 ?k3 ?a4 ?l4 ?c4 ?k4 ?a5 ?l5 ?c5 ?k5 ?a6 ?l6 ?c6 ?k6 ?a7 ?l7 ?c7 ?k7 ?a8 ?l8 ?c8 ?k8 ?a9 ?l9 ?c9 ?k9 ?a10 ?l10 ?c10 ?k10 ?a11 ?l11 ?c11 ?k11 ?mpg0 ?mpg1 ?mpg2 ?mpgl2 ?mpgm2 ?mpgx2 ?z0 ?z1 ?z2 ?z3 ?z4 ?z5
    (case a0 => k_is)
    (case l0 => k_is)
    (case c0 => k_is)
    (case k0 => k_is)
    (case a1 => k_is)
    (case l1 => k_is)
    (case c1 => k_is)
    (case k1 => k_is)
    (case a2 => k_is)
    (case l2 => k_is)
    (case c2 => k_is)
    (case k2 => k_is)
    (case a3 => k_is)
    (case l3 => k_is)
    (case c3 => k_is)
    (case k3 => k_is)
    (case a4 => k_is)
    (case l4 => k_is)
    (case c4 => k_is)
    (case k4 => k_is)
    (case a5 => k_is)
    (case l5 => k_is)
    (case c5 => k_is)
    (case k5 => k_is)
    (case a6 => k_is)
    (case l6 => k_is)
    (case c6 => k_is)
    (case k6 => k_is)
    (case a7 => k_is)
    (case l7 => k_is)
    (case c7 => k_is)
    (case k7 => k_is)
    (case a8 => k_is)
    (case l8 => k_is)
    (case c8 => k_is)
    (case k8 => k_is)
    (case a9 => k_is)
    (case l9 => k_is)
    (case c9 => k_is)
    (case k9 => k_is)
    (case a10 => k_is)
    (case l10 => k_is)
    (case c10 => k_is)
    (case k10 => k_is)
    (case a11 => k_is)
    (case l11 => k_is)
    (case c11 => k_is)
    (case k11 => k_is)
    (case mpg0 => k_is)
    (case mpg1 => k_is)
    (case mpg2 => k_is)
    (case mpgl2 => k_is)
    (case mpgm2 => rfl)
    (case mpgx2 => exact .cons rfl rfl ⟨_, rfl⟩ (.cons rfl rfl ⟨_, rfl⟩ (.cons rfl rfl ⟨_, rfl⟩ (.cons rfl rfl ⟨_, rfl⟩ (.cons rfl rfl ⟨_, rfl⟩ (.cons rfl rfl ⟨_, rfl⟩ (.nil)))))))
    (case z0 => k_is)
    (case z1 => k_is)
    (case z2 => k_is)
    (case z3 => k_is)
    (case z4 => k_is)
    (case z5 => k_is)
