import PyProof.Rows.All
import Wide.All
import OpenK.AllK
import Wide.FinOn
import HandS.ForMost
import HandS.Flow
import HandS.Walk
import HandS.TupAny
import HandS.Star
import HandS.Deep
import HandS.IsInst
import HandS.Wide
import KE.KeyNested
import HandS.Defaults
import HandS.HeadEnd
import HandS.TupMul
import HandS.Style
import PyProof.StrOps2
import PyProof.CallFns
import HandS.ClsMeth
import HandS.ListItems
import PyProof.ReprRoads
import HandS.Small
import HandS.Codes
import HandS.Head0
import HandS.Head1
import HandS.Head2
import HandS.HeadHook1
import HandS.HeadHook2
import PyProof.StrLawsRepr
import KE.KStateDown
import PySem.Challenge.RW_oncepost_k02_what_is_a_handler
set_option linter.all false
set_option maxRecDepth 100000
/-! EvS: a small plain semantics of the part of Python that the program and its laws are written in.
    D: data by value (lists, dicts by value are those that nobody changes any more); W: a value: data, or a place of the heap (a list, a dict, an instance that may still be changed). -/
namespace Ev

inductive D where
  | non | bl (b : Bool) | int (i : Int) | str (s : List Nat)
  | tup (xs : List D) | lst (xs : List D) | dct (ks vs : List D) | set (xs : List D)
  | obj (c : Nat) (fs : List D) | fn (i : Nat)
  /-- the script as it is handed in -/
  | scr (xs : List D)
inductive W where
  | d (x : D) | ref (n : Nat)
/-- what stands at a place: frozen data, a list, a dict, an instance -/
inductive Ob where
  | frz (x : D) | lst (ws : List W) | dct (ks : List D) (ws : List W) | ins (c : Nat) (fs : List (Nat × W))
  /-- a dict whose keys are tuples, nested -/
  | dcn (ks : List D) (ws : List W)
def Ob.live : Ob → Bool
  | .frz _ => false
  | _ => true
abbrev Hs := List Ob
abbrev Sl := List (Option W)
inductive Res (α : Type) where
  | ok (a : α) (L : Hs) | exc (c : Nat) (ds : List D) (L : Hs) | bad
/-- expressions, argument lists, tests; B: the heap of the callers (read only), L: the part of the heap that may change -/
abbrev SE := Hs → Sl → Hs → Res W
abbrev SA := Hs → Sl → Hs → Res (List W)
abbrev ST := Hs → Sl → Hs → Res Bool
inductive SR where
  | next (ρ : Sl) (L : Hs) | ret (w : W) (L : Hs) | brk (ρ : Sl) (L : Hs) | cnt (ρ : Sl) (L : Hs) | exc (c : Nat) (ds : List D) (ρ : Sl) (L : Hs) | bad
abbrev SS := Hs → Sl → Hs → SR
abbrev Fn := List W → Hs → Hs → Res W

def sizeL : Nat := 16777216
def look (B L : Hs) (n : Nat) : Option Ob := (B ++ L)[n]?
/-- all are data -/
def allD : List W → Option (List D)
  | [] => some []
  | .d x :: r => match allD r with
    | some xs => some (x :: xs)
    | none => none
  | .ref _ :: _ => none
/-- the data that a value is at this moment -/
def vw (B L : Hs) : W → Option D
  | .d x => some x
  | .ref n => match look B L n with
    | some (.frz x) => some x
    | some (.lst ws) => (allD ws).map .lst
    | some (.dct ks ws) => (allD ws).map (.dct ks)
    | _ => none
/-- data for good: what may still be changed is frozen -/
def own (B L : Hs) : W → Option (D × Hs)
  | .d x => some (x, L)
  | .ref n => match look B L n with
    | some (.frz x) => some (x, L)
    | some (.lst ws) => if n < B.length then none else match allD ws with
      | some xs => some (.lst xs, L.set (n - B.length) (.frz (.lst xs)))
      | none => none
    | some (.dct ks ws) => if n < B.length then none else match allD ws with
      | some xs => some (.dct ks xs, L.set (n - B.length) (.frz (.dct ks xs)))
      | none => none
    | _ => none
def ownAll (B : Hs) : Hs → List W → Option (List D × Hs)
  | L, [] => some ([], L)
  | L, w :: ws => match own B L w with
    | some (x, L1) => match ownAll B L1 ws with
      | some (xs, L2) => some (x :: xs, L2)
      | none => none
    | none => none

/-! ### binding -/
def Res.bind {α β : Type} (r : Res α) (k : α → Hs → Res β) : Res β := match r with
  | .ok a L => k a L
  | .exc c ds L => .exc c ds L
  | .bad => .bad
def ofOpt {α : Type} (o : Option α) (L : Hs) : Res α := match o with
  | some a => .ok a L
  | none => .bad

def vwR (B L : Hs) (w : W) : Res D := ofOpt (vw B L w) L
def ownR (B L : Hs) (w : W) : Res D := match own B L w with
  | some (x, L1) => .ok x L1
  | none => .bad
def ownsR (B L : Hs) (ws : List W) : Res (List D) := match ownAll B L ws with
  | some (x, L1) => .ok x L1
  | none => .bad
def guardR (c : Bool) (L : Hs) : Res Unit := match c with
  | true => .ok () L
  | false => .bad

/-! ### expressions -/
def eVar (i : Nat) : SE := fun _ ρ L => match ρ[i]? with
  | some (some w) => .ok w L
  | _ => .bad
def eC (x : D) : SE := fun _ _ L => .ok (.d x) L
def e1 (op : D → Option D) (a : SE) : SE := fun B ρ L => (a B ρ L).bind fun x L1 => (vwR B L1 x).bind fun p L1 => (ofOpt (op p) L1).bind fun r L2 => .ok (.d r) L2
def e2 (op : D → D → Option D) (a b : SE) : SE := fun B ρ L => (a B ρ L).bind fun x L1 => (b B ρ L1).bind fun y L2 => (vwR B L2 x).bind fun p L2 => (vwR B L2 y).bind fun q L2 => (ofOpt (op p q) L2).bind fun r L3 => .ok (.d r) L3
def aNil : SA := fun _ _ L => .ok [] L
def aCons (a : SE) (r : SA) : SA := fun B ρ L => (a B ρ L).bind fun x L1 => (r B ρ L1).bind fun xs L2 => .ok (x :: xs) L2
/-- the items of a tuple or a list -/
def seqD : D → Option (List D)
  | .tup xs => some xs
  | .lst xs => some xs
  | _ => none
/-- *a, .. -/
def aStar (a : SE) (r : SA) : SA := fun B ρ L => (a B ρ L).bind fun x L1 => (vwR B L1 x).bind fun p L1 => (ofOpt (seqD p) L1).bind fun ys L1 => (r B ρ L1).bind fun xs L2 => .ok (ys.map .d ++ xs) L2
def eTup (a : SA) : SE := fun B ρ L => (a B ρ L).bind fun ws L1 => (ownsR B L1 ws).bind fun xs L2 => (guardR (decide (xs.length ≤ sizeL)) L2).bind fun _ L2 => .ok (.d (.tup xs)) L2
/-- a list that is not changed any more -/
def eLst (a : SA) : SE := fun B ρ L => (a B ρ L).bind fun ws L1 => (ownsR B L1 ws).bind fun xs L2 => (guardR (decide (xs.length ≤ sizeL)) L2).bind fun _ L2 => .ok (.d (.lst xs)) L2
/-- a list that may be changed -/
def eLstM (a : SA) : SE := fun B ρ L => (a B ρ L).bind fun ws L1 => (guardR (decide (ws.length ≤ sizeL)) L1).bind fun _ L1 => .ok (.ref (B.length + L1.length)) (L1 ++ [.lst ws])
/-- a call of a def of np parameters -/
def eCall (np : Nat) (F : Fn) (a : SA) : SE := fun B ρ L => (a B ρ L).bind fun ws L1 => (guardR (decide (ws.length = np)) L1).bind fun _ L1 => F ws B L1
/-- a call with nk keywords alone, g puts their values in order -/
def eCallK (nk np : Nat) (F : Fn) (g : List W → List W) (a : SA) : SE := fun B ρ L => (a B ρ L).bind fun ws L1 => (guardR (decide (ws.length = nk)) L1).bind fun _ L1 => F (g ws) B L1
/-- tests -/
def tru : D → Option Bool
  | .non => some false
  | .bl b => some b
  | .int i => some (decide (i ≠ 0))
  | .str s => if s.length ≤ sizeL then some (!s.isEmpty) else none
  | .tup xs => some (!xs.isEmpty)
  | .lst xs => some (!xs.isEmpty)
  | _ => none
def tE (a : SE) : ST := fun B ρ L => (a B ρ L).bind fun x L1 => (vwR B L1 x).bind fun p L1 => ofOpt (tru p) L1
def tAnd (a b : ST) : ST := fun B ρ L => (a B ρ L).bind fun c L1 => if c = true then b B ρ L1 else .ok false L1
def tOr (a b : ST) : ST := fun B ρ L => (a B ρ L).bind fun c L1 => if c = true then .ok true L1 else b B ρ L1
def tNot (a : ST) : ST := fun B ρ L => (a B ρ L).bind fun c L1 => .ok (!c) L1
def tIfT (c a b : ST) : ST := fun B ρ L => (c B ρ L).bind fun k L1 => if k = true then a B ρ L1 else b B ρ L1
def eIf (c : ST) (a b : SE) : SE := fun B ρ L => (c B ρ L).bind fun k L1 => if k = true then a B ρ L1 else b B ρ L1
/-- x and y, x or y, not x as values -/
def eAnd (a b : SE) : SE := fun B ρ L => (a B ρ L).bind fun x L1 => (vwR B L1 x).bind fun p L1 => (ofOpt (tru p) L1).bind fun k L2 => if k = true then b B ρ L2 else .ok x L2
def eOr (a b : SE) : SE := fun B ρ L => (a B ρ L).bind fun x L1 => (vwR B L1 x).bind fun p L1 => (ofOpt (tru p) L1).bind fun k L2 => if k = true then .ok x L2 else b B ρ L2
def eNot (a : SE) : SE := fun B ρ L => (a B ρ L).bind fun x L1 => (vwR B L1 x).bind fun p L1 => (ofOpt (tru p) L1).bind fun k L2 => .ok (.d (.bl (!k))) L2

/-! ### statements -/
def SR.then (r : SR) (k : Sl → Hs → SR) : SR := match r with
  | .next ρ L => k ρ L
  | r => r
def Res.st {α : Type} (r : Res α) (ρ : Sl) (k : α → Hs → SR) : SR := match r with
  | .ok a L => k a L
  | .exc c ds L => .exc c ds ρ L
  | .bad => .bad
def sNil : SS := fun _ ρ L => .next ρ L
def sSeq (a b : SS) : SS := fun B ρ L => (a B ρ L).then fun ρ1 L1 => b B ρ1 L1
def sRet (a : SE) : SS := fun B ρ L => (a B ρ L).st ρ fun w L1 => .ret w L1
def sExpr (a : SE) : SS := fun B ρ L => (a B ρ L).st ρ fun _ L1 => .next ρ L1
def sIf (c : ST) (a b : SS) : SS := fun B ρ L => (c B ρ L).st ρ fun k L1 => if k = true then a B ρ L1 else b B ρ L1
def sBad : SS := fun _ _ _ => .bad
/-- targets: a value comes to its names -/
abbrev SG := W → Hs → Sl → Hs → Res Sl
def gVar (i : Nat) : SG := fun w _ ρ L => .ok (ρ.set i (some w)) L
def gAll : List SG → List D → Hs → Sl → Hs → Res Sl
  | [], [], _, ρ, L => .ok ρ L
  | g :: gs, x :: xs, B, ρ, L => (g (.d x) B ρ L).bind fun ρ1 L1 => gAll gs xs B ρ1 L1
  | _, _, _, _, _ => .bad
def tupD : D → Option (List D)
  | .tup xs => some xs
  | _ => none
def gTup (gs : List SG) : SG := fun w B ρ L => (vwR B L w).bind fun p L1 => (ofOpt (tupD p) L1).bind fun xs L1 => gAll gs xs B ρ L1
def sAsg (a : SE) (g : SG) : SS := fun B ρ L => (a B ρ L).st ρ fun w L1 => (g w B ρ L1).st ρ fun ρ' L2 => .next ρ' L2
/-- a, b = x, y: two plain names -/
def sPar (i j : Nat) (a : SA) : SS := fun B ρ L => (a B ρ L).st ρ fun ws L1 => match ws with
  | [v, w] => .next ((ρ.set i (some v)).set j (some w)) L1
  | _ => .bad
/-- a, b, c = x, y, z -/
def sPar3 (i j l : Nat) (a : SA) : SS := fun B ρ L => (a B ρ L).st ρ fun ws L1 => match ws with
  | [u, v, w] => .next (((ρ.set i (some u)).set j (some v)).set l (some w)) L1
  | _ => .bad
/-! ### loops -/
/-- what a turn leaves, and how it goes on -/
def SR.turn (r : SR) (k : Sl → Hs → SR) : SR := match r with
  | .next ρ L => k ρ L
  | .cnt ρ L => k ρ L
  | .brk ρ L => .next ρ L
  | .ret w L => .ret w L
  | .exc c ds ρ L => .exc c ds ρ L
  | .bad => .bad
def forGo (g : SG) (b : SS) (B : Hs) : List D → Sl → Hs → SR
  | [], ρ, L => .next ρ L
  | x :: xs, ρ, L => (g (.d x) B ρ L).st ρ fun ρ1 L1 => (b B ρ1 L1).turn fun ρ2 L2 => forGo g b B xs ρ2 L2
/-- what is walked: its items -/
abbrev SI := Hs → Sl → Hs → Res (List D)
def sFor (it : SI) (g : SG) (b : SS) : SS := fun B ρ L => (it B ρ L).st ρ fun xs L1 => forGo g b B xs ρ L1
def items : D → Option (List D)
  | .tup xs => some xs
  | .lst xs => some xs
  | .scr xs => some xs
  | .str s => some (s.map fun c => .str [c])
  | _ => none
/-- a place that is walked stands still: it is frozen, or the callers' -/
def still (B L : Hs) : W → Option D
  | .d p => some p
  | .ref n => match look B L n with
    | some (.frz p) => some p
    | some (.lst ws) => if n < B.length then (allD ws).map .lst else none
    | _ => none
def iE (a : SE) : SI := fun B ρ L => (a B ρ L).bind fun x L1 => (ofOpt (still B L1 x) L1).bind fun p L1 => ofOpt (items p) L1
def intD : D → Option Int
  | .int i => some i
  | _ => none
def iRange (a : SE) : SI := fun B ρ L => (a B ρ L).bind fun x L1 => (vwR B L1 x).bind fun p L1 => (ofOpt (intD p) L1).bind fun j L1 => (guardR (decide (-(2 ^ 62) ≤ j ∧ j < 2 ^ 62)) L1).bind fun _ L1 => .ok ((List.range j.toNat).map fun (i : Nat) => .int i) L1
def whileGo (c : ST) (b : SS) (B : Hs) : Nat → Sl → Hs → SR
  | 0, _, _ => .bad
  | n + 1, ρ, L => (c B ρ L).st ρ fun k L1 => if k = true then (b B ρ L1).turn fun ρ2 L2 => whileGo c b B n ρ2 L2 else .next ρ L1
def sWhile (n : Nat) (c : ST) (b : SS) : SS := fun B ρ L => whileGo c b B n ρ L
def wipe (ρ : Sl) : List Nat → Sl
  | [] => ρ
  | v :: vs => (wipe ρ vs).set v none
/-- a comprehension: the list of what comes, by value -/
def compGo (g : SG) (c : ST) (e : SE) (B : Hs) (ρ : Sl) : List D → List D → Hs → Res (List D)
  | [], acc, L => .ok acc L
  | x :: xs, acc, L => (g (.d x) B ρ L).bind fun ρ1 L1 => (c B ρ1 L1).bind fun k L2 => if k = true then
      (e B ρ1 L2).bind fun w L3 => (ownR B L3 w).bind fun y L4 => (guardR (decide (acc.length < sizeL)) L4).bind fun _ L4 => compGo g c e B ρ xs (acc ++ [y]) L4
    else compGo g c e B ρ xs acc L2
def tYes : ST := fun _ _ L => .ok true L
def eComp (it : SI) (g : SG) (c : ST) (e : SE) (vs : List Nat) : SE := fun B ρ L => (it B ρ L).bind fun xs L1 => (compGo g c e B (wipe ρ vs) xs [] L1).bind fun ys L2 => .ok (.d (.lst ys)) L2
/-- two fors -/
def compGo2 (g : SG) (c : ST) (it1 : SI) (g1 : SG) (c1 : ST) (e : SE) (B : Hs) (ρ : Sl) (vs1 : List Nat) : List D → List D → Hs → Res (List D)
  | [], acc, L => .ok acc L
  | x :: xs, acc, L => (g (.d x) B ρ L).bind fun ρ1 L1 => (c B ρ1 L1).bind fun k L2 => if k = true then (it1 B ρ1 L2).bind fun ys L3 =>
        (compGo g1 c1 e B (wipe ρ1 vs1) ys acc L3).bind fun acc' L4 => compGo2 g c it1 g1 c1 e B ρ vs1 xs acc' L4
    else compGo2 g c it1 g1 c1 e B ρ vs1 xs acc L2
def eComp2 (it : SI) (g : SG) (c : ST) (it1 : SI) (g1 : SG) (c1 : ST) (e : SE) (vs vs1 : List Nat) : SE := fun B ρ L => (it B ρ L).bind fun xs L1 => (compGo2 g c it1 g1 c1 e B (wipe ρ vs) vs1 xs [] L1).bind fun ys L2 => .ok (.d (.lst ys)) L2

/-! ### defs -/
/-- a def: its number of parameters, of names, its body -/
def fnBody (np ns : Nat) (b : SS) : Fn := fun ws B L => if ws.length = np then match b B (ws.map some ++ List.replicate (ns - np) none) L with
    | .next _ L1 => .ok (.d .non) L1
    | .ret w L1 => .ok w L1
    | .exc c ds _ L1 => .exc c ds L1
    | _ => .bad
  else .bad
/-- what a call hands out when its own part of the heap is dropped -/
def out (n : Nat) (L : Hs) : W → Option W
  | .d x => some (.d x)
  | .ref k => if k < n then some (.ref k) else match L[k - n]? with
    | some (.frz x) => some (.d x)
    | some (.lst ws) => (allD ws).map fun xs => .d (.lst xs)
    | some (.dct ks ws) => (allD ws).map fun xs => .d (.dct ks xs)
    | _ => none
/-- a call that changes nothing that stood before -/
def pureFn (F : Fn) : Fn := fun ws B L => match F ws (B ++ L) [] with
  | .ok w L' => match out (B ++ L).length L' w with
    | some w' => .ok w' L
    | none => .bad
  | .exc c ds _ => .exc c ds L
  | .bad => .bad

/-! ### operators by data -/
def opAdd : D → D → Option D
  | .int i, .int j => some (.int (i + j))
  | .str s, .str t => if s.length + t.length ≤ sizeL then some (.str (s ++ t)) else none
  | .tup xs, .tup ys => if xs.length + ys.length ≤ sizeL then some (.tup (xs ++ ys)) else none
  | .lst xs, .lst ys => if xs.length + ys.length ≤ sizeL then some (.lst (xs ++ ys)) else none
  | _, _ => none
def opSub : D → D → Option D
  | .int i, .int j => some (.int (i - j))
  | _, _ => none
def mulOk (i j : Int) : Bool := decide (i.natAbs < 2 ^ 64) || decide (j.natAbs < 2 ^ 64) || decide (i.natAbs.log2 + j.natAbs.log2 < 1000000)
def opMul : D → D → Option D
  | .int i, .int j => if mulOk i j = true then some (.int (i * j)) else none
  | .tup xs, .int k => if xs.isEmpty = false ∧ 0 ≤ k ∧ k ≤ 1000 ∧ xs.length ≤ 1000 then some (.tup (List.replicate k.toNat xs).flatten) else none
  | .lst xs, .int k => if -(2 ^ 63) ≤ k ∧ k < 2 ^ 63 ∧ xs.length * k.toNat ≤ sizeL then some (.lst (List.replicate k.toNat xs).flatten) else none
  | .str s, .int k => if 0 ≤ k ∧ k ≤ 1000 ∧ s.length ≤ 1000 then some (.str (List.replicate k.toNat s).flatten) else none
  | _, _ => none
def opFdiv : D → D → Option D
  | .int i, .int j => if 0 < j ∧ j.natAbs.log2 < 9000 then some (.int (i / j)) else none
  | _, _ => none
def opMod : D → D → Option D
  | .int i, .int j => if 0 < j then some (.int (i % j)) else none
  | _, _ => none
def opPow : D → D → Option D
  | .int i, .int j => if 0 ≤ j ∧ j ≤ 1000000 ∧ i.natAbs < 2 ^ 64 then some (.int (i ^ j.toNat)) else none
  | _, _ => none
/-- texts and numbers by their order -/
def opLt : D → D → Option D
  | .int i, .int j => some (.bl (decide (i < j)))
  | .str s, .str t => some (.bl (decide (s < t)))
  | _, _ => none
def opLe : D → D → Option D
  | .int i, .int j => some (.bl (decide (i ≤ j)))
  | _, _ => none
def opGt : D → D → Option D
  | .int i, .int j => some (.bl (decide (j < i)))
  | _, _ => none
def opGe : D → D → Option D
  | .int i, .int j => some (.bl (decide (j ≤ i)))
  | _, _ => none
/-! == of data without dicts, sets, objects -/
mutual
def eqD : D → D → Bool
  | .non, .non => true
  | .bl a, .bl b => a == b
  | .bl a, .int j => (if a then 1 else 0) == j
  | .int i, .bl b => i == (if b then 1 else 0)
  | .int i, .int j => i == j
  | .str x, .str y => decide (x = y)
  | .lst xs, .lst ys => eqDs xs ys
  | .tup xs, .tup ys => eqDs xs ys
  | _, _ => false
def eqDs : List D → List D → Bool
  | [], [] => true
  | x :: xs, y :: ys => eqD x y && eqDs xs ys
  | _, _ => false
end
mutual
def dOk : D → Bool
  | .non => true
  | .bl _ => true
  | .int _ => true
  | .str s => s.all (· < 0x110000)
  | .tup xs => dOks xs
  | .lst xs => dOks xs
  | _ => false
def dOks : List D → Bool
  | [] => true
  | x :: xs => dOk x && dOks xs
end
mutual
def dep : D → Nat
  | .tup xs => deps xs + 1
  | .lst xs => deps xs + 1
  | _ => 0
def deps : List D → Nat
  | [] => 0
  | x :: xs => max (dep x) (deps xs)
end
def okD (d : D) : Bool := dOk d && decide (dep d ≤ 64)
def opEq : D → D → Option D
  | .str s, .str t => some (.bl (decide (s = t)))
  | .int i, .int j => some (.bl (decide (i = j)))
  | .lst xs, .lst [] => some (.bl xs.isEmpty)
  | p, q => if (okD p && okD q) = true then some (.bl (eqD p q)) else none
def opNe : D → D → Option D
  | .str s, .str t => some (.bl (!decide (s = t)))
  | .int i, .int j => some (.bl (!decide (i = j)))
  | .lst xs, .lst [] => some (.bl (!xs.isEmpty))
  | p, q => if (okD p && okD q) = true then some (.bl (!eqD p q)) else none
/-- the place of a key -/
def keyEq : D → D → Bool
  | .int i, .int j => decide (i = j)
  | .str s, .str t => decide (s = t)
  | _, _ => false
def isKey : D → Bool
  | .int _ => true
  | .str _ => true
  | _ => false
def findK (k : D) : List D → List W → Option W
  | a :: ks, w :: ws => if keyEq a k then some w else findK k ks ws
  | _, _ => none
def findD (k : D) : List D → List D → Option D
  | a :: ks, w :: ws => if keyEq a k then some w else findD k ks ws
  | _, _ => none
/-- in -/
def opIn : D → D → Option D
  | p, .lst ys => if (okD p && okD (.lst ys)) = true then some (.bl (ys.any fun y => eqD y p)) else none
  | p, .tup ys => if (okD p && okD (.tup ys)) = true then some (.bl (ys.any fun y => eqD y p)) else none
  | .str [c], .str t => some (.bl (decide (c ∈ t)))
  | p, .dct ks vs => if isKey p = true then some (.bl (findD p ks vs).isSome) else none
  | _, _ => none
def opNotIn (p q : D) : Option D := match opIn p q with
  | some (.bl b) => some (.bl (!b))
  | _ => none
/-- calls by data -/
def bLen : List D → Option D
  | [.str s] => if s.length ≤ sizeL then some (.int s.length) else none
  | [.tup xs] => some (.int xs.length)
  | [.lst xs] => some (.int xs.length)
  | [.scr xs] => some (.int xs.length)
  | [.dct ks _] => some (.int ks.length)
  | _ => none
def bAbs : List D → Option D
  | [.int i] => some (.int (if i < 0 then -i else i))
  | _ => none
def allI : List D → Option (List Int)
  | [] => some []
  | .int i :: r => match allI r with
    | some is => some (i :: is)
    | none => none
  | _ => none
def maxI : List Int → Option Int
  | [] => none
  | i :: r => some (r.foldl (fun a b => if b > a then b else a) i)
def minI : List Int → Option Int
  | [] => none
  | i :: r => some (r.foldl (fun a b => if b < a then b else a) i)
def bMax : List D → Option D
  | [.int i, .int j] => some (.int (if j > i then j else i))
  | [.lst xs] => match allI xs with
    | some is => (maxI is).map .int
    | none => none
  | _ => none
def bMin : List D → Option D
  | [.int i, .int j] => some (.int (if j < i then j else i))
  | [.lst xs] => match allI xs with
    | some is => (minI is).map .int
    | none => none
  | _ => none
def bInt : List D → Option D
  | [.int i] => some (.int i)
  | [.bl b] => some (.int (if b then 1 else 0))
  | _ => none
def bList : List D → Option D
  | [.lst xs] => some (.lst xs)
  | [.tup xs] => some (.lst xs)
  | [.scr xs] => some (.lst xs)
  | _ => none
def bTuple : List D → Option D
  | [.lst xs] => some (.tup xs)
  | [.tup xs] => some (.tup xs)
  | [.scr xs] => some (.tup xs)
  | _ => none
def allB : List D → Option (List Bool)
  | [] => some []
  | .bl b :: r => match allB r with
    | some bs => some (b :: bs)
    | none => none
  | _ => none
def bAll : List D → Option D
  | [.lst xs] => match allB xs with
    | some bs => some (.bl (bs.all id))
    | none => none
  | _ => none
def bAny : List D → Option D
  | [.lst xs] => match allB xs with
    | some bs => some (.bl (bs.any id))
    | none => none
  | _ => none
def vwsR (B L : Hs) : List W → Res (List D)
  | [] => .ok [] L
  | w :: ws => (vwR B L w).bind fun p L => (vwsR B L ws).bind fun ps L => .ok (p :: ps) L
/-- a call of a builtin by data -/
def eB (op : List D → Option D) (a : SA) : SE := fun B ρ L => (a B ρ L).bind fun ws L1 => (vwsR B L1 ws).bind fun ps L1 => (ofOpt (op ps) L1).bind fun r L2 => .ok (.d r) L2
/-- isinstance with built-in classes: their names -/
inductive Ty where
  | int | str | bool | tuple | list | dict
  deriving DecidableEq
def isTy (t : Ty) : D → Option Bool
  | .non => some false
  | .bl _ => some (t == .bool || t == .int)
  | .int _ => some (t == .int)
  | .str _ => some (t == .str)
  | .tup _ => some (t == .tuple)
  | .lst _ => some (t == .list)
  | .dct _ _ => some (t == .dict)
  | _ => none
def bIsi (t : Ty) (p : D) : Option D := (isTy t p).map .bl
/-- is None -/
def isN : W → Bool
  | .d .non => true
  | _ => false
def eIsN (a : SE) : SE := fun B ρ L => (a B ρ L).bind fun x L1 => .ok (.d (.bl (isN x))) L1
def eNotN (a : SE) : SE := fun B ρ L => (a B ρ L).bind fun x L1 => .ok (.d (.bl (!isN x))) L1
/-- an index -/
def ixN (n : Nat) (i : Int) : Option Nat := if 0 ≤ i then (if i < n then some i.toNat else none) else if -(n : Int) ≤ i then some (i + n).toNat else none
def atI {α : Type} (xs : List α) (i : Int) : Option α := (ixN xs.length i).bind fun j => xs[j]?
def opIx : D → D → Option D
  | .lst xs, .int i => atI xs i
  | .scr xs, .int i => atI xs i
  | .tup xs, .int i => atI xs i
  | .str s, .int i => if s.length ≤ sizeL then (atI s i).map fun c => .str [c] else none
  | .dct ks vs, k => if isKey k = true then findD k ks vs else none
  | _, _ => none
/-- slices -/
def sIx (n d : Nat) : Option Int → Nat
  | none => d
  | some v => if v < 0 then (v + n).toNat else min v.toNat n
def cut {α : Type} (xs : List α) (lo hi : Option Int) : List α := (xs.drop (sIx xs.length 0 lo)).take (sIx xs.length xs.length hi - sIx xs.length 0 lo)
def opSl : D → Option Int → Option Int → Option D
  | .lst xs, lo, hi => some (.lst (cut xs lo hi))
  | .scr xs, lo, hi => some (.lst (cut xs lo hi))
  | .tup xs, lo, hi => some (.tup (cut xs lo hi))
  | .str s, lo, hi => if s.length ≤ sizeL then some (.str (cut s lo hi)) else none
  | _, _, _ => none
abbrev SO := Hs → Sl → Hs → Res (Option Int)
def oNone : SO := fun _ _ L => .ok none L
def oSome (a : SE) : SO := fun B ρ L => (a B ρ L).bind fun x L1 => (vwR B L1 x).bind fun p L1 => (ofOpt (intD p) L1).bind fun i L1 => .ok (some i) L1
def eSl (a : SE) (lo hi : SO) : SE := fun B ρ L => (a B ρ L).bind fun x L1 => (lo B ρ L1).bind fun l L2 => (hi B ρ L2).bind fun h L3 => (vwR B L3 x).bind fun p L3 => (ofOpt (opSl p l h) L3).bind fun r L4 => .ok (.d r) L4
/-- a chain a < b < c -/
def boolD : D → Option Bool
  | .bl b => some b
  | _ => none
def eChain (op op' : D → D → Option D) (a b c : SE) : SE := fun B ρ L => (a B ρ L).bind fun x L1 => (b B ρ L1).bind fun y L2 => (vwR B L2 x).bind fun p L2 => (vwR B L2 y).bind fun q L2 => (ofOpt (op p q) L2).bind fun r L2 => (ofOpt (boolD r) L2).bind fun k L2 =>
  if k = true then (c B ρ L2).bind fun z L3 => (vwR B L3 y).bind fun q L3 => (vwR B L3 z).bind fun s L3 => (ofOpt (op' q s) L3).bind fun r L4 => .ok (.d r) L4 else .ok (.d (.bl false)) L2

/-! ### dicts -/
def pairsGo (B : Hs) (ρ : Sl) : List (SE × SE) → Hs → Res (List W × List W)
  | [], L => .ok ([], []) L
  | (k, v) :: r, L => (k B ρ L).bind fun x L1 => (v B ρ L1).bind fun y L2 => (pairsGo B ρ r L2).bind fun ps L3 => .ok (x :: ps.1, y :: ps.2) L3
def putKs (k : D) (ks : List D) : List D := if ks.any (fun a => keyEq a k) then ks else ks ++ [k]
def putVs {α : Type} (k : D) (x : α) (ks : List D) (ys : List α) : List α := if ks.any (fun a => keyEq a k) then List.zipWith (fun a y => if keyEq a k then x else y) ks ys else ys ++ [x]
def mergeKV {α : Type} : List D → List α → List D → List α → List D × List α
  | ks, xs, k :: ks', x :: xs' => mergeKV (putKs k ks) (putVs k x ks xs) ks' xs'
  | ks, xs, _, _ => (ks, xs)
/-- {k: v, ..}, not changed any more -/
def eDct (ps : List (SE × SE)) : SE := fun B ρ L => (pairsGo B ρ ps L).bind fun ww L1 => (ownsR B L1 ww.2).bind fun xs L2 => (vwsR B L2 ww.1).bind fun ks L2 => (guardR (ks.all isKey && decide (ks.length ≤ 15)) L2).bind fun _ L2 =>
  .ok (.d (.dct (mergeKV [] [] ks xs).1 (mergeKV [] [] ks xs).2)) L2
/-- {k: v, ..}, that may be changed -/
def eDctM (ps : List (SE × SE)) : SE := fun B ρ L => (pairsGo B ρ ps L).bind fun ww L1 => (vwsR B L1 ww.1).bind fun ks L1 => (guardR (ks.all isKey && decide (ks.length ≤ 15)) L1).bind fun _ L1 =>
  .ok (.ref (B.length + L1.length)) (L1 ++ [.dct (mergeKV [] [] ks ww.2).1 (mergeKV [] [] ks ww.2).2])
/-- d[k] = v -/
def putAt (B L : Hs) (w : W) (k : D) (v : W) : Option Hs := match w with
  | .ref n => if n < B.length then none else match L[n - B.length]? with
    | some (.dct ks ws) => if isKey k = true ∧ ks.length < sizeL then some (L.set (n - B.length) (.dct (putKs k ks) (putVs k v ks ws))) else none
    | _ => none
  | _ => none
def sDPut (o i v : SE) : SS := fun B ρ L => (v B ρ L).st ρ fun z L1 => (o B ρ L1).st ρ fun x L2 => (i B ρ L2).st ρ fun y L3 => (vwR B L3 y).st ρ fun k L3 => match putAt B L3 x k z with
  | some L4 => .next ρ L4
  | none => .bad

/-! ### places that change -/
def lstD : D → Option (List D)
  | .lst xs => some xs
  | _ => none
def seqS : D → Option (List D)
  | .lst xs => some xs
  | .tup xs => some xs
  | .scr xs => some xs
  | _ => none
/-- list(x), that may be changed -/
def eListM (a : SE) : SE := fun B ρ L => (a B ρ L).bind fun x L1 => (vwR B L1 x).bind fun p L1 => (ofOpt (seqS p) L1).bind fun xs L1 => .ok (.ref (B.length + L1.length)) (L1 ++ [.lst (xs.map .d)])
/-- {}, of nested tuples as keys -/
def eDctN : SE := fun B _ L => .ok (.ref (B.length + L.length)) (L ++ [.dcn [] []])
/-- a place of one's own that is a list -/
def lstAt (B L : Hs) : W → Option (Nat × List W)
  | .ref n => if n < B.length then none else match L[n - B.length]? with
    | some (.lst ws) => some (n - B.length, ws)
    | _ => none
  | _ => none
def eApp (o a : SE) : SE := fun B ρ L => (o B ρ L).bind fun x L1 => (guardR (lstAt B L1 x).isSome L1).bind fun _ L1 => (a B ρ L1).bind fun y L2 => match lstAt B L2 x with
  | some (n, ws) => if ws.length < sizeL then .ok (.d .non) (L2.set n (.lst (ws ++ [y]))) else .bad
  | none => .bad
def eExt (o a : SE) : SE := fun B ρ L => (o B ρ L).bind fun x L1 => (guardR (lstAt B L1 x).isSome L1).bind fun _ L1 => (a B ρ L1).bind fun y L2 => (vwR B L2 y).bind fun p L2 => (ofOpt (lstD p) L2).bind fun ys L2 => match lstAt B L2 x with
  | some (n, ws) => if ws.length + ys.length ≤ sizeL then .ok (.d .non) (L2.set n (.lst (ws ++ ys.map .d))) else .bad
  | none => .bad
def ePop (o : SE) : SE := fun B ρ L => (o B ρ L).bind fun x L1 => match lstAt B L1 x with
  | some (n, ws) => match ws[ws.length - 1]? with
    | some y => .ok y (L1.set n (.lst ws.dropLast))
    | none => .bad
  | none => .bad
/-! keys that are tuples, nested -/
mutual
def nkOk : D → Bool
  | .non => true
  | .bl _ => true
  | .int _ => true
  | .str _ => true
  | .tup xs => nkOks xs
  | _ => false
def nkOks : List D → Bool
  | [] => true
  | x :: xs => nkOk x && nkOks xs
end
def isNK : D → Bool
  | .tup xs => nkOks xs && decide (dep (.tup xs) ≤ 8)
  | _ => false
def nkIn (k : D) (ks : List D) : Bool := ks.any fun a => eqD a k
def nkKs (k : D) (ks : List D) : List D := if nkIn k ks = true then ks else ks ++ [k]
def nkVs {α : Type} (k : D) (x : α) (ks : List D) (ys : List α) : List α := if nkIn k ks = true then List.zipWith (fun a y => if eqD a k = true then x else y) ks ys else ys ++ [x]
/-- x in d, x not in d: d such a dict -/
def eInN (neg : Bool) (k d : SE) : SE := fun B ρ L => (k B ρ L).bind fun x L1 => (d B ρ L1).bind fun y L2 => (vwR B L2 x).bind fun p L2 => match y with
  | .ref n => match look B L2 n with
    | some (.dcn ks _) => if isNK p = true then .ok (.d (.bl (if neg = true then !nkIn p ks else nkIn p ks))) L2 else .bad
    | _ => .bad
  | _ => .bad
/-- o[k] = v -/
def putIn (B L : Hs) (w : W) (k : D) (v : W) : Option Hs := match w with
  | .ref n => if n < B.length then none else match L[n - B.length]? with
    | some (.lst ws) => match k with
      | .int i => match ixN ws.length i with
        | some j => some (L.set (n - B.length) (.lst (ws.set j v)))
        | none => none
      | _ => none
    | some (.dct ks ws) => if isKey k = true ∧ ks.length < sizeL then some (L.set (n - B.length) (.dct (putKs k ks) (putVs k v ks ws))) else none
    | some (.dcn ks ws) => if isNK k = true ∧ ks.length < sizeL then some (L.set (n - B.length) (.dcn (nkKs k ks) (nkVs k v ks ws))) else none
    | _ => none
  | _ => none
def gItem (o i : SE) : SG := fun w B ρ L => (o B ρ L).bind fun x L1 => (i B ρ L1).bind fun y L2 => (vwR B L2 y).bind fun k L2 => match putIn B L2 x k w with
  | some L3 => .ok ρ L3
  | none => .bad
/-- a, b, c, .. = x, y, z, ..: names -/
def setAll : List Nat → List W → Sl → Option Sl
  | [], [], ρ => some ρ
  | i :: is, w :: ws, ρ => setAll is ws (ρ.set i (some w))
  | _, _, _ => none
def sParN (is : List Nat) (a : SA) : SS := fun B ρ L => (a B ρ L).st ρ fun ws L1 => match setAll is ws ρ with
  | some ρ' => if ws.length ≤ sizeL then .next ρ' L1 else .bad
  | none => .bad
/-! ### more operators -/
def opRev : D → Option D
  | .tup xs => some (.tup xs.reverse)
  | .lst xs => some (.lst xs.reverse)
  | _ => none
def opNeg : D → Option D
  | .int i => some (.int (-i))
  | _ => none
def opIsB : D → D → Option D
  | .bl a, .bl b => some (.bl (a == b))
  | _, _ => none
def allS : List D → Option (List (List Nat))
  | [] => some []
  | .str s :: r => match allS r with
    | some ss => some (s :: ss)
    | none => none
  | _ => none
def joinS (sep : List Nat) : List (List Nat) → List Nat
  | [] => []
  | [s] => s
  | s :: t :: r => s ++ (sep ++ joinS sep (t :: r))
def opJoin : D → D → Option D
  | .str a, .lst xs => match allS xs with
    | some ss => if (ss.map List.length).sum + ss.length * a.length ≤ sizeL then some (.str (joinS a ss)) else none
    | none => none
  | _, _ => none
def bSum : List D → Option D
  | [.lst xs] => match allI xs with
    | some is => some (.int is.sum)
    | none => none
  | _ => none
/-- a + b of lists, that may be changed -/
def eAddM (a b : SE) : SE := fun B ρ L => (a B ρ L).bind fun x L1 => (b B ρ L1).bind fun y L2 => (vwR B L2 x).bind fun p L2 => (vwR B L2 y).bind fun q L2 => (ofOpt (lstD p) L2).bind fun xs L2 => (ofOpt (lstD q) L2).bind fun ys L2 =>
  (guardR (decide (xs.length + ys.length ≤ sizeL)) L2).bind fun _ L2 => .ok (.ref (B.length + L2.length)) (L2 ++ [.lst ((xs ++ ys).map .d)])
/-- a def that calls itself, at the end of its room -/
def badFn : Fn := fun _ _ _ => .bad
end Ev

set_option Elab.async false
set_option linter.all false
set_option maxRecDepth 100000
set_option maxHeartbeats 1000000
set_option autoImplicit false
/-! EvR: the plain semantics EvS over the hand layer: what a value, a place, the heap stand for; judgements; calls. -/
namespace Ev
open PySem PySem.Spec PyProof.Rows L2

structure Tb where
  cls : Nat → Addr
  fns : Nat → Addr
  P : Program
  w : World
/-! keys that are tuples, nested -/
mutual
def nk : D → Option NestedKey
  | .non => some .none
  | .bl b => some (.num (if b = true then 1 else 0))
  | .int i => some (.num i)
  | .str s => some (.text ⟨s.toArray⟩)
  | .tup xs => match nks xs with
    | some ks => some (.tup ks)
    | none => none
  | _ => none
def nks : List D → Option (List NestedKey)
  | [] => some []
  | x :: xs => match nk x, nks xs with
    | some k, some ks => some (k :: ks)
    | _, _ => none
end
abbrev NV := NestedKey × Addr × V
def NR (p : NV) (q : NestedKey × Addr × Value) : Prop := p.1 = q.1 ∧ p.2.1 = q.2.1 ∧ RelV p.2.2 q.2.2
/-- a dict with such keys: its object, with its entries -/
def DNp (P : Program) (w : World) (a : Addr) (kvs : List NV) (h : Heap) : Prop := kvs.length ≤ sizeLine ∧ (a == sysModules) = false ∧ ∃ xs : List (NestedKey × Addr × Value), Paired NR kvs xs ∧
  ∃ o es ep, h.get? a = some o ∧ o.ExactDict ∧ o.data = .dict es ep ∧ es.toList = xs.map (entryOfKey (nestedKind P w)) ∧ (xs.map (·.1)).Nodup
def DN (P : Program) (w : World) (a : Addr) (kvs : List NV) : HO := .ext (DNp P w a kvs)
structure Mem where
  m : Nat → Addr
  A : Hs
  H : Hp
  S : List Addr
def liveAt (A : Hs) (n : Nat) : Prop := ∃ o, A[n]? = some o ∧ o.live = true
/-- a is no place that may be changed -/
def NP (M : Mem) (a : Addr) : Prop := ∀ n, liveAt M.A n → M.m n ≠ a
/-- .. and no object in the making -/
def Sep (M : Mem) (a : Addr) : Prop := NP M a ∧ a ∉ M.S
def keyD : D → Option Key
  | .int i => some (.inl i)
  | .str s => some (.inr ⟨s.toArray⟩)
  | _ => none
/-- a list of the written part -/
def KL (K : PySem.W.Frag) (a : Addr) (xs : List V) : Prop := ∃ (o : Obj) (its : Array Value) (n : Nat), K.lookup a = some o ∧ o.cls = .type "list" ∧ o.dict = none ∧ o.data = .seq its n ∧ its.size ≤ sizeLine ∧ Vals xs its.toList
section
variable (K : PySem.W.Frag) (T : Tb)
mutual
def RV (M : Mem) : D → V → Prop
  | .non, v => v = .non
  | .bl b, v => v = .bl b
  | .int i, v => v = .int i
  | .str s, v => v = .str ⟨s.toArray⟩
  | .tup xs, v => ∃ a vs, v = .ref a ∧ SqT K M.H a vs ∧ RVs M xs vs
  | .lst xs, v => ∃ a vs, v = .ref a ∧ Sep M a ∧ M.H a = some (.lst vs) ∧ RVs M xs vs
  | .scr xs, v => ∃ a vs, v = .ref a ∧ ((Sep M a ∧ Rd M.H a (.lst vs)) ∨ KL K a vs) ∧ RVs M xs vs
  | .dct ks xs, v => ∃ a kvs, v = .ref a ∧ Sep M a ∧ M.H a = some (.dK kvs) ∧ ks.map keyD = kvs.map (fun p => some p.1) ∧ RVs M xs (kvs.map (·.2))
  | .set _, _ => False
  | .obj _ _, _ => False
  | .fn i, v => v = .ref (T.fns i)
def RVs (M : Mem) : List D → List V → Prop
  | [], vs => vs = []
  | x :: xs, vs => ∃ v r, vs = v :: r ∧ RV M x v ∧ RVs M xs r
end
def RW (M : Mem) : W → V → Prop
  | .d x, v => RV K T M x v
  | .ref n, v => n < M.A.length ∧ v = .ref (M.m n)
def RWs (M : Mem) : List W → List V → Prop
  | [], vs => vs = []
  | x :: xs, vs => ∃ v r, vs = v :: r ∧ RW K T M x v ∧ RWs M xs r
def RO (M : Mem) (a : Addr) : Ob → Prop
  | .frz x => RV K T M x (.ref a)
  | .lst ws => ∃ vs, M.H a = some (.lst vs) ∧ RWs K T M ws vs
  | .dct ks ws => ∃ kvs, M.H a = some (.dK kvs) ∧ ks.map keyD = kvs.map (fun p => some p.1) ∧ RWs K T M ws (kvs.map (·.2))
  | .ins _ _ => False
  | .dcn ks ws => ∃ kvs : List NV, M.H a = some (DN T.P T.w a kvs) ∧ ks.all isNK = true ∧ ks.map nk = kvs.map (fun p => some p.1) ∧ RVs K T M ks (kvs.map fun p => V.ref p.2.1) ∧ RWs K T M ws (kvs.map (·.2.2))
structure Rep (M : Mem) : Prop where
  inj : ∀ i j, liveAt M.A i → liveAt M.A j → M.m i = M.m j → i = j
  at_ : ∀ (n : Nat) (o : Ob), M.A[n]? = some o → RO K T M (M.m n) o
  sc : ∀ a ∈ M.S, (∃ o, M.H a = some o ∧ (∀ xs, o ≠ .tup xs) ∧ (∀ q u, o ≠ .frz q u)) ∧ ∀ n, liveAt M.A n → M.m n ≠ a
/-- a later moment: objects in the making may have begun -/
structure Ext0 (M M' : Mem) : Prop where
  len : M.A.length ≤ M'.A.length
  same : ∀ (n : Nat), n < M.A.length → M'.m n = M.m n
  fz : ∀ (n : Nat) (x : D), M.A[n]? = some (Ob.frz x) → M'.A[n]? = some (Ob.frz x)
  new : ∀ n, M.A.length ≤ n → liveAt M'.A n → M.H (M'.m n) = none
  keep : ∀ a o, M.H a = some o → Sep M a → M'.H a = some o
  there : ∀ a, M.H a ≠ none → M'.H a ≠ none
  scr : ∀ a, a ∈ M'.S → a ∈ M.S ∨ M.H a = none
/-- a later moment of the same run -/
structure Ext (M M' : Mem) : Prop extends Ext0 M M' where
  sq : M'.S = M.S
  ks : ∀ a, a ∈ M.S → M'.H a = M.H a
def RS (M : Mem) (ρ : Sl) (σ : L2.St) : Prop := ρ.length = σ.length ∧ ∀ (i : Nat) (w : W), ρ[i]? = some (some w) → ∃ v : V, σ[i]? = some (some v) ∧ RW K T M w v
end

section
variable {K : PySem.W.Frag} {T : Tb} {M M1 M2 M' : Mem}
theorem Ext0.refl (M : Mem) : Ext0 M M := ⟨Nat.le_refl _, fun _ _ => rfl, fun _ _ h => h, fun n h ⟨o, e, _⟩ => absurd (List.getElem?_eq_some_iff.mp e).1 (by omega), fun _ _ h _ => h, fun _ h => h, fun _ h => .inl h⟩
theorem Ext.refl (M : Mem) : Ext M M := ⟨Ext0.refl M, rfl, fun _ _ => rfl⟩
theorem Ext0.live (e : Ext0 M M') {n : Nat} (hn : n < M.A.length) (l : liveAt M'.A n) : liveAt M.A n := by
  cases q : M.A[n]? with
  | none => exact absurd (List.getElem?_eq_none_iff.mp q) (by omega)
  | some o =>
    refine ⟨o, q, ?_⟩
    cases o with
    | frz x =>
      obtain ⟨o', e1, e2⟩ := l
      rw [e.fz n x q] at e1
      cases e1
      exact e2
    | _ => rfl
theorem NP.ext (e : Ext0 M M') {a : Addr} (s : NP M a) (h : M.H a ≠ none) : NP M' a := fun n l q => by
  by_cases hn : n < M.A.length
  · rw [e.same n hn] at q
    exact s n (e.live hn l) q
  · have := e.new n (by omega) l
    rw [q] at this
    exact h this
theorem Sep.ext (e : Ext0 M M') {a : Addr} (s : Sep M a) (h : M.H a ≠ none) : Sep M' a := ⟨s.1.ext e h, fun z => (e.scr a z).elim s.2 h⟩
theorem Ext0.trans (e : Ext0 M M1) (f : Ext0 M1 M2) : Ext0 M M2 where
  len := Nat.le_trans e.len f.len
  same := fun n hn => (f.same n (Nat.lt_of_lt_of_le hn e.len)).trans (e.same n hn)
  fz := fun n x h => f.fz n x (e.fz n x h)
  new := fun n hn l => by
    by_cases h1 : n < M1.A.length
    · rw [f.same n h1]
      exact e.new n hn (f.live h1 l)
    · have h2 := f.new n (by omega) l
      cases q : M.H (M2.m n) with
      | none => rfl
      | some o => exact absurd h2 (e.there _ (by rw [q]; intro z; cases z))
  keep := fun a o h s => f.keep a o (e.keep a o h s) (s.ext e (by rw [h]; intro z; cases z))
  there := fun a h => f.there a (e.there a h)
  scr := fun a h => (f.scr a h).elim (e.scr a) fun z => .inr (by
    cases q : M.H a with
    | none => rfl
    | some o => exact absurd z (e.there a (by rw [q]; intro y; cases y)))
theorem Ext.trans (e : Ext M M1) (f : Ext M1 M2) : Ext M M2 := ⟨e.toExt0.trans f.toExt0, f.sq.trans e.sq, fun a h => (f.ks a (by rw [e.sq]; exact h)).trans (e.ks a h)⟩
theorem Rep.live_kind (R : Rep K T M) {n : Nat} (l : liveAt M.A n) : ∃ o, M.H (M.m n) = some o ∧ (∀ xs, o ≠ .tup xs) ∧ (∀ q u, o ≠ .frz q u) := by
  obtain ⟨o, e, h⟩ := l
  have r := R.at_ n o e
  cases o with
  | frz x => cases h
  | lst ws => obtain ⟨vs, e1, _⟩ := r; exact ⟨_, e1, (fun _ z => by cases z), (fun _ _ z => by cases z)⟩
  | dct ks ws => obtain ⟨vs, e1, _⟩ := r; exact ⟨_, e1, (fun _ z => by cases z), (fun _ _ z => by cases z)⟩
  | ins c fs => exact r.elim
  | dcn ks ws => obtain ⟨kvs, e1, _⟩ := r; exact ⟨_, e1, (fun _ z => by unfold DN at z; cases z), (fun _ _ z => by unfold DN at z; cases z)⟩
theorem rd_tup {H : Hp} {a : Addr} {xs : List V} (h : Rd H a (.tup xs)) {o : HO} (e : H a = some o) (h1 : ∀ xs, o ≠ .tup xs) (h2 : ∀ q u, o ≠ .frz q u) : False := by
  rcases h with h | ⟨u, h⟩
  · rw [h] at e; cases e; exact h1 xs rfl
  · rw [h] at e; cases e; exact h2 _ _ rfl
theorem Rep.sep_tup (R : Rep K T M) {a : Addr} {xs : List V} (h : Rd M.H a (.tup xs)) : Sep M a := ⟨fun n l q => by
  obtain ⟨o, e, h1, h2⟩ := R.live_kind l
  rw [q] at e
  exact rd_tup h e h1 h2, fun hs => by
  obtain ⟨⟨o, e, h1, h2⟩, _⟩ := R.sc a hs
  exact rd_tup h e h1 h2⟩
theorem Ext0.rd (e : Ext0 M M') {a : Addr} {u : HO} (h : Rd M.H a u) (s : Sep M a) : Rd M'.H a u := by
  rcases h with h | ⟨o, h⟩
  · exact .inl (e.keep _ _ h s)
  · exact .inr ⟨o, e.keep _ _ h s⟩
theorem rd_ne {H : Hp} {a : Addr} {u : HO} (h : Rd H a u) : H a ≠ none := by
  rcases h with h | ⟨o, h⟩ <;> (rw [h]; intro z; cases z)
theorem Ext0.sqT (e : Ext0 M M') (R : Rep K T M) {a : Addr} {xs : List V} (h : SqT K M.H a xs) : SqT K M'.H a xs := by
  rcases h with h | h
  · exact .inl (e.rd h (R.sep_tup h))
  · exact .inr h
mutual
theorem RV.ext0 (R : Rep K T M) (e : Ext0 M M') : ∀ (d : D) (v : V), RV K T M d v → RV K T M' d v
  | .non, v, h => h
  | .bl b, v, h => h
  | .int i, v, h => h
  | .str s, v, h => h
  | .tup xs, v, h => by
    obtain ⟨a, vs, q, s, r⟩ := h
    exact ⟨a, vs, q, e.sqT R s, RVs.ext0 R e xs vs r⟩
  | .lst xs, v, h => by
    obtain ⟨a, vs, q, s, l, r⟩ := h
    exact ⟨a, vs, q, s.ext e (by rw [l]; intro z; cases z), e.keep _ _ l s, RVs.ext0 R e xs vs r⟩
  | .scr xs, v, h => by
    obtain ⟨a, vs, q, sl, r⟩ := h
    refine ⟨a, vs, q, ?_, RVs.ext0 R e xs vs r⟩
    rcases sl with ⟨s, l⟩ | k
    · exact .inl ⟨s.ext e (rd_ne l), e.rd l s⟩
    · exact .inr k
  | .dct ks xs, v, h => by
    obtain ⟨a, kvs, q, s, l, k, r⟩ := h
    exact ⟨a, kvs, q, s.ext e (by rw [l]; intro z; cases z), e.keep _ _ l s, k, RVs.ext0 R e xs _ r⟩
  | .set _, v, h => h
  | .obj _ _, v, h => h
  | .fn i, v, h => h
theorem RVs.ext0 (R : Rep K T M) (e : Ext0 M M') : ∀ (ds : List D) (vs : List V), RVs K T M ds vs → RVs K T M' ds vs
  | [], vs, h => h
  | x :: xs, vs, h => by
    obtain ⟨v, r, q, h1, h2⟩ := h
    exact ⟨v, r, q, RV.ext0 R e x v h1, RVs.ext0 R e xs r h2⟩
end
theorem RW.ext0 (R : Rep K T M) (e : Ext0 M M') : ∀ {w : W} {v : V}, RW K T M w v → RW K T M' w v
  | .d x, v, h => RV.ext0 R e x v h
  | .ref n, v, h => ⟨Nat.lt_of_lt_of_le h.1 e.len, by rw [e.same n h.1]; exact h.2⟩
theorem RWs.ext0 (R : Rep K T M) (e : Ext0 M M') : ∀ {ws : List W} {vs : List V}, RWs K T M ws vs → RWs K T M' ws vs
  | [], vs, h => h
  | x :: xs, vs, h => by
    obtain ⟨v, r, q, h1, h2⟩ := h
    exact ⟨v, r, q, h1.ext0 R e, RWs.ext0 R e h2⟩
theorem RS.ext0 (R : Rep K T M) (e : Ext0 M M') {ρ : Sl} {σ : L2.St} (h : RS K T M ρ σ) : RS K T M' ρ σ :=
  ⟨h.1, fun i w q => let ⟨v, e1, r⟩ := h.2 i w q; ⟨v, e1, r.ext0 R e⟩⟩
theorem RV.ext (R : Rep K T M) (e : Ext M M') (d : D) (v : V) (h : RV K T M d v) : RV K T M' d v := RV.ext0 R e.toExt0 d v h
theorem RVs.ext (R : Rep K T M) (e : Ext M M') (ds : List D) (vs : List V) (h : RVs K T M ds vs) : RVs K T M' ds vs := RVs.ext0 R e.toExt0 ds vs h
theorem RW.ext (R : Rep K T M) (e : Ext M M') {w : W} {v : V} (h : RW K T M w v) : RW K T M' w v := h.ext0 R e.toExt0
theorem RWs.ext (R : Rep K T M) (e : Ext M M') {ws : List W} {vs : List V} (h : RWs K T M ws vs) : RWs K T M' ws vs := h.ext0 R e.toExt0
theorem RS.ext (R : Rep K T M) (e : Ext M M') {ρ : Sl} {σ : L2.St} (h : RS K T M ρ σ) : RS K T M' ρ σ := h.ext0 R e.toExt0
theorem RVs.length : ∀ {ds : List D} {vs : List V}, RVs K T M ds vs → ds.length = vs.length
  | [], vs, h => by rw [show vs = [] from h]; rfl
  | x :: xs, vs, h => by
    obtain ⟨v, r, q, _, h2⟩ := h
    rw [q, List.length_cons, List.length_cons, RVs.length h2]
theorem RWs.length : ∀ {ds : List W} {vs : List V}, RWs K T M ds vs → ds.length = vs.length
  | [], vs, h => by rw [show vs = [] from h]; rfl
  | x :: xs, vs, h => by
    obtain ⟨v, r, q, _, h2⟩ := h
    rw [q, List.length_cons, List.length_cons, RWs.length h2]
theorem RVs.get : ∀ {ds : List D} {vs : List V} {i : Nat} {d : D}, RVs K T M ds vs → ds[i]? = some d → ∃ v, vs[i]? = some v ∧ RV K T M d v
  | [], vs, _, _, h, e => by simp at e
  | x :: xs, vs, 0, d, h, e => by
    obtain ⟨v, r, rfl, h1, h2⟩ := h
    simp at e; subst e
    exact ⟨v, rfl, h1⟩
  | x :: xs, vs, i + 1, d, h, e => by
    obtain ⟨v, r, rfl, h1, h2⟩ := h
    obtain ⟨u, e1, r1⟩ := RVs.get (i := i) (d := d) h2 (by simpa using e)
    exact ⟨u, by simpa using e1, r1⟩
theorem RVs.get' : ∀ {ds : List D} {vs : List V} {i : Nat} {v : V}, RVs K T M ds vs → vs[i]? = some v → ∃ d, ds[i]? = some d ∧ RV K T M d v := fun {ds vs i v} h e => by
  have hl := h.length
  have hi : i < ds.length := by rw [hl]; exact (List.getElem?_eq_some_iff.mp e).1
  obtain ⟨u, e1, r1⟩ := h.get (List.getElem?_eq_getElem hi)
  rw [e] at e1; cases e1
  exact ⟨_, List.getElem?_eq_getElem hi, r1⟩
theorem RVs.append : ∀ {ds es : List D} {vs us : List V}, RVs K T M ds vs → RVs K T M es us → RVs K T M (ds ++ es) (vs ++ us)
  | [], es, vs, us, h, h' => by rw [show vs = [] from h]; exact h'
  | x :: xs, es, vs, us, h, h' => by
    obtain ⟨v, r, rfl, h1, h2⟩ := h
    exact ⟨v, r ++ us, rfl, h1, RVs.append h2 h'⟩
theorem RVs.drop : ∀ (n : Nat) {ds : List D} {vs : List V}, RVs K T M ds vs → RVs K T M (ds.drop n) (vs.drop n)
  | 0, ds, vs, h => h
  | n + 1, [], vs, h => by rw [show vs = [] from h]; exact rfl
  | n + 1, x :: xs, vs, h => by
    obtain ⟨v, r, rfl, h1, h2⟩ := h
    exact RVs.drop n h2
theorem RVs.take : ∀ (n : Nat) {ds : List D} {vs : List V}, RVs K T M ds vs → RVs K T M (ds.take n) (vs.take n)
  | 0, ds, vs, h => by rw [List.take_zero, List.take_zero]; exact rfl
  | n + 1, [], vs, h => by rw [show vs = [] from h]; exact rfl
  | n + 1, x :: xs, vs, h => by
    obtain ⟨v, r, rfl, h1, h2⟩ := h
    exact ⟨v, r.take n, rfl, h1, RVs.take n h2⟩
theorem RWs.ofD : ∀ {ds : List D} {vs : List V}, RVs K T M ds vs → RWs K T M (ds.map .d) vs
  | [], vs, h => h
  | x :: xs, vs, h => by
    obtain ⟨v, r, rfl, h1, h2⟩ := h
    exact ⟨v, r, rfl, h1, RWs.ofD h2⟩
theorem RWs.toD : ∀ {ws : List W} {ds : List D} {vs : List V}, allD ws = some ds → RWs K T M ws vs → RVs K T M ds vs
  | [], ds, vs, e, h => by
    cases e
    exact h
  | .d x :: xs, ds, vs, e, h => by
    obtain ⟨v, r, rfl, h1, h2⟩ := h
    unfold allD at e
    cases q : allD xs with
    | none => rw [q] at e; cases e
    | some ys =>
      rw [q] at e
      cases e
      exact ⟨v, r, rfl, h1, RWs.toD q h2⟩
  | .ref _ :: xs, ds, vs, e, h => by cases e
theorem RWs.append : ∀ {ds es : List W} {vs us : List V}, RWs K T M ds vs → RWs K T M es us → RWs K T M (ds ++ es) (vs ++ us)
  | [], es, vs, us, h, h' => by rw [show vs = [] from h]; exact h'
  | x :: xs, es, vs, us, h, h' => by
    obtain ⟨v, r, rfl, h1, h2⟩ := h
    exact ⟨v, r ++ us, rfl, h1, RWs.append h2 h'⟩
end

/-! ### the wish behind a run -/
section
variable (K : PySem.W.Frag) (T : Tb)
def post {α : Type} (M : Mem) (B : Hs) (r : Res α) (Q : α → Hs → Mem → Prop) : Prop := match r with
  | .ok a L' => ∀ M', M'.A = B ++ L' → Rep K T M' → Ext M M' → Q a L' M'
  | .exc _ _ _ => False
  | .bad => False
/-- at the point: a heap that is told, slots that are told -/
structure Pt (M : Mem) (B L : Hs) (ρ : Sl) (σ : L2.St) (H : Hp) : Prop where
  eH : M.H = H
  eA : M.A = B ++ L
  rep : Rep K T M
  rs : RS K T M ρ σ
def rE (f : SE) : TE := fun σ H Q => ∃ M B L ρ, Pt K T M B L ρ σ H ∧ post K T M B (f B ρ L) fun w _ M' => ∀ v, RW K T M' w v → Q v M'.H
def rT (f : ST) : TT := fun σ H Q => ∃ M B L ρ, Pt K T M B L ρ σ H ∧ post K T M B (f B ρ L) fun k _ M' => Q k M'.H
def rA (f : SA) : TA := fun σ H Q => ∃ M B L ρ, Pt K T M B L ρ σ H ∧ post K T M B (f B ρ L) fun ws _ M' => ∀ vs, RWs K T M' ws vs → Q vs M'.H
def postS (M : Mem) (B : Hs) (r : SR) (Dn : Ends) : Prop := match r with
  | .next ρ' L' => ∀ M' σ', M'.A = B ++ L' → Rep K T M' → Ext M M' → RS K T M' ρ' σ' → Dn.nx σ' M'.H
  | .brk ρ' L' => ∀ M' σ', M'.A = B ++ L' → Rep K T M' → Ext M M' → RS K T M' ρ' σ' → Dn.bk σ' M'.H
  | .cnt ρ' L' => ∀ M' σ', M'.A = B ++ L' → Rep K T M' → Ext M M' → RS K T M' ρ' σ' → Dn.ct σ' M'.H
  | .ret w L' => ∀ M' v, M'.A = B ++ L' → Rep K T M' → Ext M M' → RW K T M' w v → Dn.rt v M'.H
  | .exc _ _ _ _ => False
  | .bad => False
def rS (f : SS) : TS := fun Dn σ H => ∃ M B L ρ, Pt K T M B L ρ σ H ∧ postS K T M B (f B ρ L) Dn
end
section
variable {K : PySem.W.Frag} {T : Tb} {M M1 : Mem} {B L : Hs}
theorem post.later {α : Type} {r : Res α} {Q : α → Hs → Mem → Prop} (h : post K T M B r Q) (e : Ext M M1) : post K T M1 B r Q := by
  cases r with
  | ok a L' => exact fun M' eA R x => h M' eA R (e.trans x)
  | exc _ _ _ => exact h
  | bad => exact h
theorem post.mono {α : Type} {r : Res α} {Q Q' : α → Hs → Mem → Prop} (h : post K T M B r Q) (f : ∀ a L' M', M'.A = B ++ L' → Rep K T M' → Ext M M' → Q a L' M' → Q' a L' M') : post K T M B r Q' := by
  cases r with
  | ok a L' => exact fun M' eA R x => f a L' M' eA R x (h M' eA R x)
  | exc _ _ _ => exact h
  | bad => exact h
theorem post.bind {α β : Type} {r : Res α} {k : α → Hs → Res β} {Q : β → Hs → Mem → Prop} (h : post K T M B (r.bind k) Q) : post K T M B r fun a L1 M1 => post K T M1 B (k a L1) Q := by
  cases r with
  | ok a L' => exact fun M' eA R x => post.later h x
  | exc _ _ _ => exact h
  | bad => exact h
theorem postS.later {r : SR} {Dn : Ends} (h : postS K T M B r Dn) (e : Ext M M1) : postS K T M1 B r Dn := by
  cases r with
  | next ρ' L' => exact fun M' σ' eA R x rs => h M' σ' eA R (e.trans x) rs
  | brk ρ' L' => exact fun M' σ' eA R x rs => h M' σ' eA R (e.trans x) rs
  | cnt ρ' L' => exact fun M' σ' eA R x rs => h M' σ' eA R (e.trans x) rs
  | ret w L' => exact fun M' v eA R x rs => h M' v eA R (e.trans x) rs
  | exc _ _ _ _ => exact h
  | bad => exact h
theorem post.st {α : Type} {r : Res α} {ρ : Sl} {k : α → Hs → SR} {Dn : Ends} (h : postS K T M B (r.st ρ k) Dn) : post K T M B r fun a L1 M1 => postS K T M1 B (k a L1) Dn := by
  cases r with
  | ok a L' => exact fun M' eA R x => postS.later h x
  | exc _ _ _ => exact h
  | bad => exact h
theorem Pt.next {ρ : Sl} {σ : L2.St} {H : Hp} {L1 : Hs} (p : Pt K T M B L ρ σ H) (eA : M1.A = B ++ L1) (R : Rep K T M1) (e : Ext M M1) : Pt K T M1 B L1 ρ σ M1.H := ⟨rfl, eA, R, p.rs.ext p.rep e⟩
end

/-! ### judgements -/
abbrev JE (X : Cx) (T : Tb) (e : Expr) (f : SE) : Prop := PE X e (rE X.K T f)
abbrev JT (X : Cx) (T : Tb) (e : Expr) (f : ST) : Prop := PT X e (rT X.K T f)
abbrev JW (X : Cx) (T : Tb) (e : Expr) (f : ST) : Prop := PW X e (rT X.K T f)
abbrev JA (X : Cx) (T : Tb) (es : List Expr) (f : SA) : Prop := PA X es (rA X.K T f)
abbrev JS (X : Cx) (T : Tb) (st : Stmt) (f : SS) : Prop := PS X st (rS X.K T f)
abbrev JSs (X : Cx) (T : Tb) (sts : List Stmt) (f : SS) : Prop := PSs X sts (rS X.K T f)
/-- weaker readings -/
theorem PE.weak {X : Cx} {e : Expr} {t u : TE} (h : PE X e t) (w : ∀ σ H Q, u σ H Q → t σ H Q) : PE X e u := ⟨fun pins s σ H Q I q => h.run pins s σ H Q I (w σ H Q q)⟩
theorem PT.weak {X : Cx} {e : Expr} {t u : TT} (h : PT X e t) (w : ∀ σ H Q, u σ H Q → t σ H Q) : PT X e u := ⟨fun pins s σ H Q I q => h.run pins s σ H Q I (w σ H Q q)⟩
theorem PW.weak {X : Cx} {e : Expr} {t u : TT} (h : PW X e t) (w : ∀ σ H Q, u σ H Q → t σ H Q) : PW X e u := ⟨fun wh pins s σ H Q I q => h.run wh pins s σ H Q I (w σ H Q q)⟩
theorem PA.weak {X : Cx} {es : List Expr} {t u : TA} (h : PA X es t) (w : ∀ σ H Q, u σ H Q → t σ H Q) : PA X es u := ⟨fun pos pins s σ H Q I q => h.run pos pins s σ H Q I (w σ H Q q)⟩
theorem PS.weak {X : Cx} {e : Stmt} {t u : TS} (h : PS X e t) (w : ∀ D σ H, u D σ H → t D σ H) : PS X e u := ⟨fun pins s σ H D I q => h.run pins s σ H D I (w D σ H q)⟩
theorem PSs.weak {X : Cx} {e : List Stmt} {t u : TS} (h : PSs X e t) (w : ∀ D σ H, u D σ H → t D σ H) : PSs X e u := ⟨fun pins s σ H D I q => h.run pins s σ H D I (w D σ H q)⟩

section
variable {X : Cx} {T : Tb}
/-- an expression's reading from its post -/
theorem rE.of {K : PySem.W.Frag} {f : SE} {σ : L2.St} {H : Hp} {Q : VK} {M : Mem} {B L : Hs} {ρ : Sl} (p : Pt K T M B L ρ σ H) {R : W → Hs → Mem → Prop} (h : post K T M B (f B ρ L) R) (k : ∀ w L' M', M'.A = B ++ L' → Rep K T M' → Ext M M' → R w L' M' → ∀ v, RW K T M' w v → Q v M'.H) : rE K T f σ H Q :=
  ⟨M, B, L, ρ, p, h.mono fun w L' M' eA Rp x r v rv => k w L' M' eA Rp x r v rv⟩
theorem je_var {i : Nat} {x : Str} {pos : Pos} (hN : X.N[i]? = some x := by rfl) (hv : Vis X.env.scope x := by first | exact Or.inl rfl | exact Or.inr (Or.inl rfl) | exact Or.inr (Or.inr rfl)) (hd : (x == ("__debug__" : Str)) = false := by decide)
    (hcd : (x == ("__classdict__" : Str)) = false := by decide) : JE X T (.Name x pos) (eVar i) := by
  refine PE.weak (pe_var hN hv hd hcd) fun σ H Q h => ?_
  obtain ⟨M, B, L, ρ, p, h⟩ := h
  unfold eVar at h
  split at h
  · rename_i w e
    obtain ⟨v, e1, r⟩ := p.rs.2 i w e
    refine ⟨v, e1, ?_⟩
    have := h M p.eA p.rep (Ext.refl M) v r
    rw [p.eH] at this
    exact this
  · exact h.elim
theorem je_c {e : Expr} {v : V} {d : D} (h : PE X e (tC v)) (r : ∀ M, Rep X.K T M → RV X.K T M d v) : JE X T e (eC d) := by
  refine PE.weak h fun σ H Q h => ?_
  obtain ⟨M, B, L, ρ, p, h⟩ := h
  have := h M p.eA p.rep (Ext.refl M) v (r M p.rep)
  rw [p.eH] at this
  exact this
theorem je_int {i : Int} {j pos} : JE X T (.Constant (.int i) j pos) (eC (.int i)) := je_c pe_int fun _ _ => rfl
theorem je_bl {b : Bool} {j pos} : JE X T (.Constant (.bool b) j pos) (eC (.bl b)) := je_c pe_bl fun _ _ => rfl
theorem je_non {j pos} : JE X T (.Constant .none j pos) (eC .non) := je_c pe_non fun _ _ => rfl
theorem je_str {x : Str} {s : List Nat} {j pos} (hs : x = ⟨s.toArray⟩ := by decide) : JE X T (.Constant (.str x) j pos) (eC (.str s)) := je_c pe_str fun _ _ => by rw [hs]; exact rfl
end
end Ev

set_option Elab.async false
set_option linter.all false
set_option maxRecDepth 100000
set_option maxHeartbeats 1000000
set_option autoImplicit false
/-! EvC: views, frozen places, calls of defs, statements, loops. -/
namespace Ev
open PySem PySem.Spec PyProof.Rows L2

/-! ### the data that a value is at a moment -/
def DV (K : PySem.W.Frag) (T : Tb) (M : Mem) (p : D) (x : V) : Prop := RV K T M p x ∨ (∃ xs a vs, p = .lst xs ∧ x = .ref a ∧ M.H a = some (.lst vs) ∧ RVs K T M xs vs) ∨
  (∃ ks xs a kvs, p = .dct ks xs ∧ x = .ref a ∧ M.H a = some (.dK kvs) ∧ ks.map keyD = kvs.map (fun p => some p.1) ∧ RVs K T M xs (kvs.map (·.2)))
def DVs (K : PySem.W.Frag) (T : Tb) (M : Mem) : List D → List V → Prop
  | [], vs => vs = []
  | x :: xs, vs => ∃ v r, vs = v :: r ∧ DV K T M x v ∧ DVs K T M xs r
section
variable {K : PySem.W.Frag} {T : Tb} {M M1 M2 M' : Mem} {B L : Hs}
theorem RV.dv {p : D} {x : V} (h : RV K T M p x) : DV K T M p x := .inl h
theorem vw_dv (R : Rep K T M) (eA : M.A = B ++ L) {w : W} {v : V} {p : D} (h : vw B L w = some p) (r : RW K T M w v) : DV K T M p v := by
  cases w with
  | d x =>
    have e : x = p := Option.some.inj h
    subst e
    exact .inl r
  | ref n =>
    obtain ⟨hn, rfl⟩ := r
    unfold vw look at h
    rw [← eA] at h
    dsimp only at h
    split at h
    · rename_i x e
      have q := R.at_ n _ e
      cases h
      exact .inl q
    · rename_i ws e
      obtain ⟨vs, q, rw⟩ := R.at_ n _ e
      cases ea : allD ws with
      | none => rw [ea] at h; cases h
      | some xs =>
        rw [ea] at h
        cases h
        exact .inr (.inl ⟨xs, _, vs, rfl, rfl, q, RWs.toD ea rw⟩)
    · rename_i ks ws e
      obtain ⟨kvs, q, kk, rw⟩ := R.at_ n _ e
      cases ea : allD ws with
      | none => rw [ea] at h; cases h
      | some xs =>
        rw [ea] at h
        cases h
        exact .inr (.inr ⟨ks, xs, _, kvs, rfl, rfl, q, kk, RWs.toD ea rw⟩)
    · cases h
/-- a frozen place -/
theorem sep_of (R : Rep K T M) {n : Nat} {x : D} {A' : Hs} (hA : A' = M.A.set n (.frz x)) (hl : liveAt M.A n) : Sep { M with A := A' } (M.m n) := ⟨fun k l q => by
  have lk : liveAt M.A k ∧ k ≠ n := by
    obtain ⟨o, e, h⟩ := l
    rw [hA] at e
    by_cases hk : n = k
    · subst hk
      rw [List.getElem?_set_self' ] at e
      cases z : M.A[n]? with
      | none => rw [z] at e; cases e
      | some o' => rw [z] at e; cases e; cases h
    · rw [List.getElem?_set_ne hk] at e
      exact ⟨⟨o, e, h⟩, fun z => hk z.symm⟩
  exact lk.2 (R.inj k n lk.1 hl q), fun hs => (R.sc _ hs).2 n hl rfl⟩
theorem sep_less {A' : Hs} (hA : ∀ n, liveAt A' n → liveAt M.A n) {a : Addr} (s : Sep M a) : Sep { M with A := A' } a := ⟨fun n l q => s.1 n (hA n l) q, s.2⟩
mutual
theorem RV.less {A' : Hs} {H : Hp} {m : Nat → Addr} (hA : ∀ n, liveAt A' n → liveAt M.A n) : ∀ (d : D) (v : V), RV K T M d v → RV K T { M with A := A' } d v
  | .non, v, h => h
  | .bl b, v, h => h
  | .int i, v, h => h
  | .str s, v, h => h
  | .tup xs, v, h => by
    obtain ⟨a, vs, q, s, r⟩ := h
    exact ⟨a, vs, q, s, RVs.less (H := H) (m := m) hA xs vs r⟩
  | .lst xs, v, h => by
    obtain ⟨a, vs, q, s, l, r⟩ := h
    exact ⟨a, vs, q, sep_less hA s, l, RVs.less (H := H) (m := m) hA xs vs r⟩
  | .scr xs, v, h => by
    obtain ⟨a, vs, q, s, r⟩ := h
    refine ⟨a, vs, q, ?_, RVs.less (H := H) (m := m) hA xs vs r⟩
    rcases s with ⟨s, l⟩ | k
    · exact .inl ⟨sep_less hA s, l⟩
    · exact .inr k
  | .dct ks xs, v, h => by
    obtain ⟨a, kvs, q, s, l, k, r⟩ := h
    exact ⟨a, kvs, q, sep_less hA s, l, k, RVs.less (H := H) (m := m) hA xs _ r⟩
  | .set _, v, h => h
  | .obj _ _, v, h => h
  | .fn i, v, h => h
theorem RVs.less {A' : Hs} {H : Hp} {m : Nat → Addr} (hA : ∀ n, liveAt A' n → liveAt M.A n) : ∀ (ds : List D) (vs : List V), RVs K T M ds vs → RVs K T { M with A := A' } ds vs
  | [], vs, h => h
  | x :: xs, vs, h => by
    obtain ⟨v, r, q, h1, h2⟩ := h
    exact ⟨v, r, q, RV.less (H := H) (m := m) hA x v h1, RVs.less (H := H) (m := m) hA xs r h2⟩
end
theorem live_set {A : Hs} {n k : Nat} {x : D} (l : liveAt (A.set n (.frz x)) k) : liveAt A k := by
  obtain ⟨o, e, h⟩ := l
  by_cases hk : n = k
  · subst hk
    rw [List.getElem?_set_self'] at e
    cases z : A[n]? with
    | none => rw [z] at e; cases e
    | some o' => rw [z] at e; cases e; cases h
  · rw [List.getElem?_set_ne hk] at e
    exact ⟨o, e, h⟩
theorem RW.set {n : Nat} {x : D} : ∀ {w : W} {v : V}, RW K T M w v → RW K T { M with A := M.A.set n (.frz x) } w v
  | .d y, v, h => RV.less (H := M.H) (m := M.m) (fun _ l => live_set l) y v h
  | .ref k, v, h => ⟨by rw [List.length_set]; exact h.1, h.2⟩
theorem RWs.set {n : Nat} {x : D} : ∀ {ws : List W} {vs : List V}, RWs K T M ws vs → RWs K T { M with A := M.A.set n (.frz x) } ws vs
  | [], vs, h => h
  | w :: ws, vs, h => by
    obtain ⟨v, r, q, h1, h2⟩ := h
    exact ⟨v, r, q, h1.set, RWs.set h2⟩
/-- freezing -/
theorem freeze (R : Rep K T M) {n : Nat} {x : D} (hl : liveAt M.A n) (hx : RV K T { M with A := M.A.set n (.frz x) } x (.ref (M.m n))) : Rep K T { M with A := M.A.set n (.frz x) } ∧ Ext M { M with A := M.A.set n (.frz x) } := by
  have hn : n < M.A.length := let ⟨o, e, _⟩ := hl; (List.getElem?_eq_some_iff.mp e).1
  refine ⟨⟨fun i j li lj q => R.inj i j (live_set li) (live_set lj) q, fun k o e => ?_, fun a ha => ⟨(R.sc a ha).1, fun k l => (R.sc a ha).2 k (live_set l)⟩⟩, ⟨⟨by rw [List.length_set]; exact Nat.le_refl _, fun _ _ => rfl, fun k y e => ?_, fun k hk l => ?_, fun _ _ h _ => h, fun _ h => h, fun _ h => .inl h⟩, rfl, fun _ _ => rfl⟩⟩
  · have e' : (M.A.set n (.frz x))[k]? = some o := e
    by_cases hk : n = k
    · subst hk
      rw [List.getElem?_set_self hn] at e'
      cases e'
      exact hx
    · rw [List.getElem?_set_ne hk] at e'
      have r := R.at_ k o e'
      cases o with
      | frz y => exact RV.less (H := M.H) (m := M.m) (fun _ l => live_set l) y _ r
      | lst ws => obtain ⟨vs, h1, h2⟩ := r; exact ⟨vs, h1, h2.set⟩
      | dct ks ws => obtain ⟨kvs, h1, h2, h3⟩ := r; exact ⟨kvs, h1, h2, h3.set⟩
      | ins _ _ => exact r.elim
      | dcn ks ws => obtain ⟨kvs, h1, h2, h3, h4, h5⟩ := r; exact ⟨kvs, h1, h2, h3, RVs.less (H := M.H) (m := M.m) (fun _ l => live_set l) _ _ h4, h5.set⟩
  · show (M.A.set n (.frz x))[k]? = _
    by_cases hk : n = k
    · subst hk
      obtain ⟨o, e1, e2⟩ := hl
      rw [e] at e1
      cases e1
      cases e2
    · rw [List.getElem?_set_ne hk]
      exact e
  · obtain ⟨o, e, _⟩ := live_set l
    exact absurd (List.getElem?_eq_some_iff.mp e).1 (by omega)
theorem own_ok (R : Rep K T M) (eA : M.A = B ++ L) {w : W} {v : V} {x : D} {L1 : Hs} (h : own B L w = some (x, L1)) (r : RW K T M w v) :
    ∃ M', M'.A = B ++ L1 ∧ M'.H = M.H ∧ Rep K T M' ∧ Ext M M' ∧ RV K T M' x v := by
  cases w with
  | d y =>
    have e : (y, L) = (x, L1) := Option.some.inj h
    cases e
    exact ⟨M, eA, rfl, R, Ext.refl M, r⟩
  | ref n =>
    obtain ⟨hn, rfl⟩ := r
    unfold own look at h
    rw [← eA] at h
    dsimp only at h
    have fzn : ∀ y : D, ¬ n < B.length → { M with A := M.A.set n (.frz y) }.A = B ++ L.set (n - B.length) (.frz y) := fun y hb => by
      show M.A.set n (.frz y) = _
      rw [eA, List.set_append_right _ _ (by omega)]
    split at h
    · rename_i y e
      have q := R.at_ n _ e
      cases h
      exact ⟨M, eA, rfl, R, Ext.refl M, q⟩
    · rename_i ws e
      split at h
      · cases h
      · rename_i hb
        obtain ⟨vs, q, rw⟩ := R.at_ n _ e
        split at h
        · rename_i xs ea
          cases h
          have hx : RV K T { M with A := M.A.set n (.frz (.lst xs)) } (.lst xs) (.ref (M.m n)) :=
            ⟨M.m n, vs, rfl, sep_of R rfl ⟨_, e, rfl⟩, q, RVs.less (H := M.H) (m := M.m) (fun _ l => live_set l) xs vs (RWs.toD ea rw)⟩
          obtain ⟨R', E'⟩ := freeze R ⟨_, e, rfl⟩ hx
          exact ⟨_, fzn _ hb, rfl, R', E', hx⟩
        · cases h
    · rename_i ks ws e
      split at h
      · cases h
      · rename_i hb
        obtain ⟨kvs, q, kk, rw⟩ := R.at_ n _ e
        split at h
        · rename_i xs ea
          cases h
          have hx : RV K T { M with A := M.A.set n (.frz (.dct ks xs)) } (.dct ks xs) (.ref (M.m n)) :=
            ⟨M.m n, kvs, rfl, sep_of R rfl ⟨_, e, rfl⟩, q, kk, RVs.less (H := M.H) (m := M.m) (fun _ l => live_set l) xs _ (RWs.toD ea rw)⟩
          obtain ⟨R', E'⟩ := freeze R ⟨_, e, rfl⟩ hx
          exact ⟨_, fzn _ hb, rfl, R', E', hx⟩
        · cases h
    · cases h
theorem ownAll_ok : ∀ {ws : List W} {vs : List V} {xs : List D} {L L1 : Hs} {M : Mem}, Rep K T M → M.A = B ++ L → ownAll B L ws = some (xs, L1) → RWs K T M ws vs →
    ∃ M', M'.A = B ++ L1 ∧ M'.H = M.H ∧ Rep K T M' ∧ Ext M M' ∧ RVs K T M' xs vs
  | [], vs, xs, L, L1, M, R, eA, h, r => by
    cases h
    exact ⟨M, eA, rfl, R, Ext.refl M, r⟩
  | w :: ws, vs, xs, L, L1, M, R, eA, h, r => by
    obtain ⟨v, vr, rfl, r1, r2⟩ := r
    unfold ownAll at h
    split at h
    · rename_i x L2 e1
      split at h
      · rename_i ys L3 e2
        cases h
        obtain ⟨M1, a1, h1, R1, E1, x1⟩ := own_ok R eA e1 r1
        obtain ⟨M2, a2, h2, R2, E2, x2⟩ := ownAll_ok R1 a1 e2 (r2.ext R E1)
        exact ⟨M2, a2, h2.trans h1, R2, E1.trans E2, v, vr, rfl, RV.ext R1 E2 x v x1, x2⟩
      · cases h
    · cases h
/-- an object more that no place names -/
theorem garb (R : Rep K T M) {p : Addr} {o : HO} (hp : M.H p = none) : Rep K T { M with H := upd M.H p o } ∧ Ext M { M with H := upd M.H p o } := by
  have e : Ext M { M with H := upd M.H p o } := ⟨⟨Nat.le_refl _, fun _ _ => rfl, fun _ _ h => h, fun n h ⟨o, e, _⟩ => absurd (List.getElem?_eq_some_iff.mp e).1 (Nat.not_lt.mpr h),
    fun a u h _ => (upd_ne (ne_of_none h hp)).trans h, fun a h => by
      show upd M.H p o a ≠ none
      unfold upd
      split
      · intro z; cases z
      · exact h, fun _ h => .inl h⟩, rfl, fun a ha => by
      obtain ⟨⟨u, h1, _⟩, _⟩ := R.sc a ha
      exact upd_ne (ne_of_none h1 hp)⟩
  refine ⟨⟨R.inj, fun n ob q => ?_, fun a ha => ⟨?_, (R.sc a ha).2⟩⟩, e⟩
  rotate_left
  · obtain ⟨⟨u, h1, h2⟩, _⟩ := R.sc a ha
    exact ⟨u, (upd_ne (ne_of_none h1 hp)).trans h1, h2⟩
  have r := R.at_ n ob q
  cases ob with
  | frz x => exact RV.ext R e x _ r
  | lst ws => obtain ⟨vs, h1, h2⟩ := r; exact ⟨vs, (upd_ne (ne_of_none h1 hp)).trans h1, h2.ext R e⟩
  | dct ks ws => obtain ⟨kvs, h1, h2, h3⟩ := r; exact ⟨kvs, (upd_ne (ne_of_none h1 hp)).trans h1, h2, h3.ext R e⟩
  | ins _ _ => exact r.elim
  | dcn ks ws => obtain ⟨kvs, h1, h2, h3, h4, h5⟩ := r; exact ⟨kvs, (upd_ne (ne_of_none h1 hp)).trans h1, h2, h3, RVs.ext R e _ _ h4, h5.ext R e⟩
/-- it stands apart from all places -/
theorem sep_new (R : Rep K T M) {p : Addr} {o : HO} (hp : M.H p = none) : Sep { M with H := upd M.H p o } p := by
  refine ⟨fun n l q => ?_, fun hs => ?_⟩
  · obtain ⟨u, e, _⟩ := R.live_kind l
    have q' : M.m n = p := q
    rw [q', hp] at e
    cases e
  · obtain ⟨⟨u, e, _⟩, _⟩ := R.sc p hs
    rw [hp] at e
    cases e
end

/-! ### what a post says of the small steps -/
section
variable {K : PySem.W.Frag} {T : Tb} {M : Mem} {B L : Hs} {β : Type} {Q : β → Hs → Mem → Prop}
theorem post.opt {α : Type} {o : Option α} {k : α → Hs → Res β} (h : post K T M B ((ofOpt o L).bind k) Q) : ∃ z, o = some z ∧ post K T M B (k z L) Q := by
  cases o with
  | none => exact h.elim
  | some z => exact ⟨z, rfl, h⟩
theorem post.opt1 {α : Type} {o : Option α} {Q : α → Hs → Mem → Prop} (h : post K T M B (ofOpt o L) Q) : ∃ z, o = some z ∧ post K T M B (.ok z L) Q := by
  cases o with
  | none => exact h.elim
  | some z => exact ⟨z, rfl, h⟩
theorem post.guard {c : Bool} {k : Unit → Hs → Res β} (h : post K T M B ((guardR c L).bind k) Q) : c = true ∧ post K T M B (k () L) Q := by
  cases c with
  | false => exact h.elim
  | true => exact ⟨rfl, h⟩
theorem post.view {w : W} {v : V} {k : D → Hs → Res β} (h : post K T M B ((vwR B L w).bind k) Q) (R : Rep K T M) (eA : M.A = B ++ L) (r : RW K T M w v) : ∃ p, vw B L w = some p ∧ DV K T M p v ∧ post K T M B (k p L) Q := by
  obtain ⟨p, e, q⟩ := post.opt h
  exact ⟨p, e, vw_dv R eA e r, q⟩
theorem post.own {w : W} {v : V} {k : D → Hs → Res β} (h : post K T M B ((ownR B L w).bind k) Q) (R : Rep K T M) (eA : M.A = B ++ L) (r : RW K T M w v) :
    ∃ x L1 M1, M1.A = B ++ L1 ∧ M1.H = M.H ∧ Rep K T M1 ∧ Ext M M1 ∧ RV K T M1 x v ∧ post K T M1 B (k x L1) Q := by
  unfold ownR at h
  cases e : Ev.own B L w with
  | none => rw [e] at h; exact h.elim
  | some y =>
    obtain ⟨x, L1⟩ := y
    rw [e] at h
    obtain ⟨M1, a, hh, R1, E1, rx⟩ := own_ok R eA e r
    exact ⟨x, L1, M1, a, hh, R1, E1, rx, post.later h E1⟩
theorem post.owns {ws : List W} {vs : List V} {k : List D → Hs → Res β} (h : post K T M B ((ownsR B L ws).bind k) Q) (R : Rep K T M) (eA : M.A = B ++ L) (r : RWs K T M ws vs) :
    ∃ xs L1 M1, M1.A = B ++ L1 ∧ M1.H = M.H ∧ Rep K T M1 ∧ Ext M M1 ∧ RVs K T M1 xs vs ∧ post K T M1 B (k xs L1) Q := by
  unfold ownsR at h
  cases e : ownAll B L ws with
  | none => rw [e] at h; exact h.elim
  | some y =>
    obtain ⟨x, L1⟩ := y
    rw [e] at h
    obtain ⟨M1, a, hh, R1, E1, rx⟩ := ownAll_ok R eA e r
    exact ⟨x, L1, M1, a, hh, R1, E1, rx, post.later h E1⟩
/-- the end of a run -/
theorem post.here {a : β} (h : post K T M B (.ok a L) Q) (eA : M.A = B ++ L) (R : Rep K T M) : Q a L M := h M eA R (Ext.refl M)
end
/-- a sequence that is read -/
theorem seq_dv {K : PySem.W.Frag} {T : Tb} {M : Mem} {p : D} {v : V} {ys : List D} (h : seqD p = some ys) (d : DV K T M p v) : ∃ a vs, v = .ref a ∧ (SqT K M.H a vs ∨ SqL K M.H a vs) ∧ RVs K T M ys vs := by
  cases p with
  | tup xs =>
    cases h
    rcases d with ⟨a, vs, e1, e2, e3⟩ | ⟨xs, _, _, e, _⟩ | ⟨_, _, _, _, e, _⟩
    · exact ⟨a, vs, e1, .inl e2, e3⟩
    · cases e
    · cases e
  | lst xs =>
    cases h
    rcases d with ⟨a, vs, e1, _, e2, e3⟩ | ⟨xs, a, vs, e, e1, e2, e3⟩ | ⟨_, _, _, _, e, _⟩
    · exact ⟨a, vs, e1, .inr (.inl (.inl e2)), e3⟩
    · cases e
      exact ⟨a, vs, e1, .inr (.inl (.inl e2)), e3⟩
    · cases e
  | _ => cases h

/-! ### argument lists -/
section
variable {X : Cx} {T : Tb}
theorem ja_nil : JA X T [] aNil := PA.weak pa_nil fun σ H Q h => by
  obtain ⟨M, B, L, ρ, p, h⟩ := h
  have := h M p.eA p.rep (Ext.refl M) [] rfl
  rw [p.eH] at this
  exact this
theorem ja_cons {e : Expr} {es : List Expr} {f : SE} {g : SA} (ha : JE X T e f) (hr : JA X T es g) (hs : starEach (e :: es) X.env = (false, eval e X.env) :: starEach es X.env := by rfl) : JA X T (e :: es) (aCons f g) :=
  PA.weak (pa_cons ha hr hs) fun σ H Q h => by
    obtain ⟨M, B, L, ρ, p, h⟩ := h
    refine ⟨M, B, L, ρ, p, (post.bind h).mono fun w L1 M1 eA R x q v rv => ?_⟩
    refine ⟨M1, B, L1, ρ, p.next eA R x, (post.bind q).mono fun ws L2 M2 eA2 R2 x2 q2 vs rvs => ?_⟩
    exact q2.here eA2 R2 (v :: vs) ⟨v, vs, rfl, rv.ext R x2, rvs⟩
theorem ja_star {e : Expr} {p : Pos} {es : List Expr} {f : SE} {g : SA} (ha : JE X T e f) (hr : JA X T es g) (hs : starEach (.Starred e p :: es) X.env = (true, eval e X.env) :: starEach es X.env := by rfl) : JA X T (.Starred e p :: es) (aStar f g) :=
  PA.weak (StX.pa_star ha hr hs) fun σ H Q h => by
    obtain ⟨M, B, L, ρ, p, h⟩ := h
    refine ⟨M, B, L, ρ, p, (post.bind h).mono fun w L1 M1 eA R x q v rv => ?_⟩
    obtain ⟨pd, ev, dv, q⟩ := q.view R eA rv
    obtain ⟨ys, es, q⟩ := q.opt
    obtain ⟨a, vs, e1, e2, e3⟩ := seq_dv es dv
    refine ⟨a, vs, e1, e2, M1, B, L1, ρ, p.next eA R x, (post.bind q).mono fun ws L2 M2 eA2 R2 x2 q2 us rus => ?_⟩
    exact q2.here eA2 R2 (vs ++ us) ((RWs.ofD (RVs.ext R x2 ys vs e3)).append rus)

/-! ### displays -/
theorem sizeL_eq : sizeL = sizeLine := by rw [sizeLine_eq]; rfl
theorem je_tup {es : List Expr} {g : SA} {n : Nat} {pos : Pos} (h : JA X T es g) : JE X T (.Tuple es n pos) (eTup g) :=
  PE.weak (pe_tup h) fun σ H Q h => by
    obtain ⟨M, B, L, ρ, p, h⟩ := h
    refine ⟨M, B, L, ρ, p, (post.bind h).mono fun ws L1 M1 eA R x q vs rvs => ?_⟩
    obtain ⟨xs, L2, M2, a2, h2, R2, E2, x2, q⟩ := q.owns R eA rvs
    obtain ⟨hl, q⟩ := q.guard
    have hl := of_decide_eq_true hl
    refine ⟨by rw [← x2.length, ← sizeL_eq]; exact hl, fun a ha => ?_⟩
    rw [← h2] at ha ⊢
    obtain ⟨R3, E3⟩ := garb (o := .tup vs) R2 ha
    exact q { M2 with H := upd M2.H a (.tup vs) } a2 R3 E3 (.ref a) ⟨a, vs, rfl, .inl (.inl upd_same), RVs.ext R2 E3 xs vs x2⟩
theorem je_lst {es : List Expr} {g : SA} {pos : Pos} (h : JA X T es g) : JE X T (.List es pos) (eLst g) :=
  PE.weak (pe_lst h) fun σ H Q h => by
    obtain ⟨M, B, L, ρ, p, h⟩ := h
    refine ⟨M, B, L, ρ, p, (post.bind h).mono fun ws L1 M1 eA R x q vs rvs => ?_⟩
    obtain ⟨xs, L2, M2, a2, h2, R2, E2, x2, q⟩ := q.owns R eA rvs
    obtain ⟨hl, q⟩ := q.guard
    have hl := of_decide_eq_true hl
    refine ⟨by rw [← x2.length, ← sizeL_eq]; exact hl, fun a ha => ?_⟩
    rw [← h2] at ha ⊢
    obtain ⟨R3, E3⟩ := garb (o := .lst vs) R2 ha
    exact q { M2 with H := upd M2.H a (.lst vs) } a2 R3 E3 (.ref a) ⟨a, vs, rfl, sep_new R2 ha, upd_same, RVs.ext R2 E3 xs vs x2⟩

/-! ### operators by values -/
def Ok2 (K : PySem.W.Frag) (T : Tb) (g : D → D → Option D) (r : R2) : Prop := ∀ (M : Mem) (p q z : D) (x y : V) (Q : VK), Rep K T M → DV K T M p x → DV K T M q y → g p q = some z →
  (∀ M' v, M'.A = M.A → Rep K T M' → Ext M M' → RV K T M' z v → Q v M'.H) → r x y M.H Q
def OkN (K : PySem.W.Frag) (T : Tb) (g : List D → Option D) (r : List V → Hp → VK → Prop) : Prop := ∀ (M : Mem) (ps : List D) (z : D) (xs : List V) (Q : VK), Rep K T M → DVs K T M ps xs → g ps = some z →
  (∀ M' v, M'.A = M.A → Rep K T M' → Ext M M' → RV K T M' z v → Q v M'.H) → r xs M.H Q
theorem rd_op {K : PySem.W.Frag} {g : D → D → Option D} {r : R2} {fa fb : SE} (ok : Ok2 K T g r) {σ : L2.St} {H : Hp} {Q : VK} (h : rE K T (e2 g fa fb) σ H Q) : tOp r (rE K T fa) (rE K T fb) σ H Q := by
  obtain ⟨M, B, L, ρ, p, h⟩ := h
  refine ⟨M, B, L, ρ, p, (post.bind h).mono fun w L1 M1 eA R x q v rv => ?_⟩
  refine ⟨M1, B, L1, ρ, p.next eA R x, (post.bind q).mono fun w2 L2 M2 eA2 R2 x2 q2 v2 rv2 => ?_⟩
  obtain ⟨pd, e1, d1, q3⟩ := q2.view R2 eA2 (rv.ext R x2)
  obtain ⟨qd, e2', d2, q3⟩ := q3.view R2 eA2 rv2
  obtain ⟨z, ez, q3⟩ := q3.opt
  exact ok M2 pd qd z v v2 Q R2 d1 d2 ez fun M' u a' R' x' ru => q3 M' (a'.trans eA2) R' x' u ru
theorem je_op {op : Operator} {g : D → D → Option D} {r : R2} {a b : Expr} {fa fb : SE} {pos : Pos} (ho : OpR X (binaryOp op) r) (ok : Ok2 X.K T g r) (ha : JE X T a fa) (hb : JE X T b fb) : JE X T (.BinOp a op b pos) (e2 g fa fb) :=
  PE.weak (pe_op ho ha hb) fun σ H Q h => rd_op ok h
theorem je_cmp {op : CmpOp} {g : D → D → Option D} {r : R2} {a b : Expr} {fa fb : SE} {pos : Pos} (ho : OpR X (compareOp op) r) (ok : Ok2 X.K T g r) (ha : JE X T a fa) (hb : JE X T b fb) (hm : behindInMarks op b = false := by first | exact nomark _ | rfl) :
    JE X T (.Compare a [op] [b] pos) (e2 g fa fb) := PE.weak (pe_cmpR ho ha hb hm) fun σ H Q h => rd_op ok h
/-- a test whose value is a bool -/
theorem rd_test {K : PySem.W.Frag} {f : SE} {t : TE} (h : ∀ σ H Q, rE K T f σ H Q → t σ H Q) {σ : L2.St} {H : Hp} {Q : Bool → Hp → Prop} (hq : rT K T (tE f) σ H Q)
    (hb : ∀ B ρ L w L', f B ρ L = .ok w L' → ∃ k, w = .d (.bl k)) : tTest t σ H Q := by
  obtain ⟨M, B, L, ρ, p, hq⟩ := hq
  refine h σ H _ ⟨M, B, L, ρ, p, ?_⟩
  unfold tE at hq
  have hq := post.bind hq
  cases e : f B ρ L with
  | ok w L' =>
    rw [e] at hq
    obtain ⟨k, rfl⟩ := hb _ _ _ _ _ e
    intro M' eA R x v rv
    refine ⟨k, rv, ?_⟩
    have := hq M' eA R x
    exact (post.here this eA R)
  | exc _ _ _ => rw [e] at hq; exact hq.elim
  | bad => rw [e] at hq; exact hq.elim
theorem e2_bool {g : D → D → Option D} {fa fb : SE} (hg : ∀ p q z, g p q = some z → ∃ k, z = .bl k) : ∀ B ρ L w L', e2 g fa fb B ρ L = .ok w L' → ∃ k, w = .d (.bl k) := fun B ρ L w L' h => by
  unfold e2 at h
  cases e1 : fa B ρ L with
  | exc _ _ _ => rw [e1] at h; cases h
  | bad => rw [e1] at h; cases h
  | ok x L1 =>
    rw [e1] at h
    have h : (fb B ρ L1).bind _ = _ := h
    cases e2' : fb B ρ L1 with
    | exc _ _ _ => rw [e2'] at h; cases h
    | bad => rw [e2'] at h; cases h
    | ok y L2 =>
      rw [e2'] at h
      unfold vwR at h
      have h : (ofOpt (vw B L2 x) L2).bind _ = _ := h
      cases e3 : vw B L2 x with
      | none => rw [e3] at h; cases h
      | some p =>
        rw [e3] at h
        have h : (ofOpt (vw B L2 y) L2).bind _ = _ := h
        cases e4 : vw B L2 y with
        | none => rw [e4] at h; cases h
        | some q =>
          rw [e4] at h
          have h : (ofOpt (g p q) L2).bind _ = _ := h
          cases e5 : g p q with
          | none => rw [e5] at h; cases h
          | some z =>
            rw [e5] at h
            obtain ⟨k, rfl⟩ := hg p q z e5
            have h : Res.ok (W.d (D.bl k)) L2 = Res.ok w L' := h
            cases h
            exact ⟨k, rfl⟩
theorem jt_cmp {op : CmpOp} {g : D → D → Option D} {r : R2} {a b : Expr} {fa fb : SE} {pos : Pos} (ho : OpR X (compareOp op) r) (ok : Ok2 X.K T g r) (hg : ∀ p q z, g p q = some z → ∃ k, z = .bl k) (ha : JE X T a fa) (hb : JE X T b fb) (hm : behindInMarks op b = false := by first | exact nomark _ | rfl) :
    JT X T (.Compare a [op] [b] pos) (tE (e2 g fa fb)) := PT.weak (pt_cmpR ho ha hb hm) fun σ H Q h => rd_test (fun σ H Q h => rd_op ok h) h (e2_bool hg)

/-! ### truth -/
theorem tru_dv {K : PySem.W.Frag} {M : Mem} {p : D} {v : V} {k : Bool} (h : tru p = some k) (d : DV K T M p v) : TruV K v M.H k := by
  cases p with
  | non =>
    rcases d with rfl | ⟨_, _, _, e, _⟩ | ⟨_, _, _, _, e, _⟩
    · cases h; rfl
    · cases e
    · cases e
  | bl b =>
    rcases d with rfl | ⟨_, _, _, e, _⟩ | ⟨_, _, _, _, e, _⟩
    · cases h; rfl
    · cases e
    · cases e
  | int i =>
    rcases d with rfl | ⟨_, _, _, e, _⟩ | ⟨_, _, _, _, e, _⟩
    · cases h
      show decide (i ≠ 0) = (i != 0)
      by_cases hi : i = 0 <;> simp [hi]
    · cases e
    · cases e
  | str s =>
    rcases d with rfl | ⟨_, _, _, e, _⟩ | ⟨_, _, _, _, e, _⟩
    · have h : (if s.length ≤ sizeL then some (!s.isEmpty) else none) = some k := h
      split at h
      · rename_i hl
        cases h
        have el : (⟨s.toArray⟩ : Str).length = s.length := by show s.toArray.size = _; simp
        refine ⟨by rw [el, ← sizeL_eq]; exact hl, ?_⟩
        rw [el]
        cases s with
        | nil => rfl
        | cons c r =>
          show true = ((((c :: r).length : Nat) : Int) != 0)
          have h1 : (((c :: r).length : Nat) : Int) ≠ 0 := by rw [List.length_cons]; omega
          exact (bne_iff_ne.mpr h1).symm
      · cases h
    · cases e
    · cases e
  | tup xs =>
    rcases d with ⟨a, vs, rfl, e2, e3⟩ | ⟨_, _, _, e, _⟩ | ⟨_, _, _, _, e, _⟩
    · cases h
      refine .inr (.inl ⟨vs, e2, ?_⟩)
      have := e3.length
      cases xs <;> cases vs <;> simp_all
    · cases e
    · cases e
  | lst xs =>
    obtain ⟨a, vs, rfl, e2, e3⟩ := seq_dv (ys := xs) rfl d
    cases h
    have := e3.length
    rcases e2 with e2 | e2
    · refine .inr (.inl ⟨vs, e2, ?_⟩)
      cases xs <;> cases vs <;> simp_all
    · refine .inl ⟨vs, e2, ?_⟩
      cases xs <;> cases vs <;> simp_all
  | _ => cases h
theorem jt_plain {a : Expr} {fa : SE} (ha : JE X T a fa) (he : ∀ whole, isTrue a X.env whole = (do let v ← whole; standAt a.pos; holding [v] (truthy v)) := by intro _; rfl) : JT X T a (tE fa) :=
  PT.weak (pt_truth ha he) fun σ H Q h => by
    obtain ⟨M, B, L, ρ, p, h⟩ := h
    refine ⟨M, B, L, ρ, p, (post.bind h).mono fun w L1 M1 eA R x q v rv => ?_⟩
    obtain ⟨pd, e1, d1, q⟩ := q.view R eA rv
    obtain ⟨k, ek, q⟩ := q.opt1
    exact ⟨k, tru_dv ek d1, q.here eA R⟩
theorem rd_and {K : PySem.W.Frag} {f g : ST} {σ : L2.St} {H : Hp} {Q : Bool → Hp → Prop} (h : rT K T (tAnd f g) σ H Q) : L2.tAnd (rT K T f) (rT K T g) σ H Q := by
  obtain ⟨M, B, L, ρ, p, h⟩ := h
  refine ⟨M, B, L, ρ, p, (post.bind h).mono fun c L1 M1 eA R x q => ?_⟩
  cases c with
  | true => rw [if_pos rfl] at q; rw [if_pos rfl]; exact ⟨M1, B, L1, ρ, p.next eA R x, q⟩
  | false => rw [if_neg Bool.false_ne_true] at q; rw [if_neg Bool.false_ne_true]; exact q.here eA R
theorem rd_or {K : PySem.W.Frag} {f g : ST} {σ : L2.St} {H : Hp} {Q : Bool → Hp → Prop} (h : rT K T (tOr f g) σ H Q) : L2.tOr (rT K T f) (rT K T g) σ H Q := by
  obtain ⟨M, B, L, ρ, p, h⟩ := h
  refine ⟨M, B, L, ρ, p, (post.bind h).mono fun c L1 M1 eA R x q => ?_⟩
  cases c with
  | true => rw [if_pos rfl] at q; rw [if_pos rfl]; exact q.here eA R
  | false => rw [if_neg Bool.false_ne_true] at q; rw [if_neg Bool.false_ne_true]; exact ⟨M1, B, L1, ρ, p.next eA R x, q⟩
theorem jw_and1 {a : Expr} {f : ST} {pos : Pos} (ha : JT X T a f) : JW X T (.BoolOp .And [a] pos) f := pw_and1 ha
theorem jw_or1 {a : Expr} {f : ST} {pos : Pos} (ha : JT X T a f) : JW X T (.BoolOp .Or [a] pos) f := pw_or1 ha
theorem jw_and {a b : Expr} {rest : List Expr} {f g : ST} {pos : Pos} (ha : JT X T a f) (hb : JW X T (.BoolOp .And (b :: rest) pos) g) : JW X T (.BoolOp .And (a :: b :: rest) pos) (tAnd f g) := PW.weak (pw_and ha hb) fun σ H Q h => rd_and h
theorem jw_or {a b : Expr} {rest : List Expr} {f g : ST} {pos : Pos} (ha : JT X T a f) (hb : JW X T (.BoolOp .Or (b :: rest) pos) g) : JW X T (.BoolOp .Or (a :: b :: rest) pos) (tOr f g) := PW.weak (pw_or ha hb) fun σ H Q h => rd_or h
theorem JW.t {e : Expr} {f : ST} (h : JW X T e f) : JT X T e f := h.pt
theorem jt_not {a : Expr} {f : ST} {pos : Pos} (ha : JT X T a f) : JT X T (.UnaryOp .Not a pos) (tNot f) := PT.weak (pt_not ha) fun σ H Q h => by
  obtain ⟨M, B, L, ρ, p, h⟩ := h
  exact ⟨M, B, L, ρ, p, (post.bind h).mono fun c L1 M1 eA R x q => q.here eA R⟩
theorem jt_ifExp {c a b : Expr} {f fa fb : ST} {pos : Pos} (hc : JT X T c f) (ha : JT X T a fa) (hb : JT X T b fb) : JT X T (.IfExp c a b pos) (tIfT f fa fb) := ⟨fun pins s σ H Q I h => by
  obtain ⟨M, B, L, ρ, p, h⟩ := h
  refine isTrue_IfExp (thn (hc.run pins s σ H (fun c H1 => if c = true then rT X.K T fa σ H1 Q else rT X.K T fb σ H1 Q) I ⟨M, B, L, ρ, p, (post.bind h).mono fun c L1 M1 eA R x q => ?_⟩) fun d s1 ⟨H1, I1, q1⟩ => ?_)
  · cases c with
    | true => rw [if_pos rfl] at q; rw [if_pos rfl]; exact ⟨M1, B, L1, ρ, p.next eA R x, q⟩
    | false => rw [if_neg Bool.false_ne_true] at q; rw [if_neg Bool.false_ne_true]; exact ⟨M1, B, L1, ρ, p.next eA R x, q⟩
  · cases d with
    | true => rw [if_pos rfl] at q1 ⊢; exact ha.run pins s1 σ H1 Q I1 q1
    | false => rw [if_neg Bool.false_ne_true] at q1 ⊢; exact hb.run pins s1 σ H1 Q I1 q1⟩
theorem je_if {c a b : Expr} {f : ST} {fa fb : SE} {pos : Pos} (hc : JT X T c f) (ha : JE X T a fa) (hb : JE X T b fb) : JE X T (.IfExp c a b pos) (eIf f fa fb) := PE.weak (pe_ifExp hc ha hb) fun σ H Q h => by
  obtain ⟨M, B, L, ρ, p, h⟩ := h
  refine ⟨M, B, L, ρ, p, (post.bind h).mono fun c L1 M1 eA R x q => ?_⟩
  cases c with
  | true => rw [if_pos rfl] at q; rw [if_pos rfl]; exact ⟨M1, B, L1, ρ, p.next eA R x, q⟩
  | false => rw [if_neg Bool.false_ne_true] at q; rw [if_neg Bool.false_ne_true]; exact ⟨M1, B, L1, ρ, p.next eA R x, q⟩
theorem je_one {op : BoolOp} {a : Expr} {f : SE} {pos : Pos} (h : JE X T a f) : JE X T (.BoolOp op [a] pos) f := pe_one h
theorem je_and {a b : Expr} {rest : List Expr} {f g : SE} {pos : Pos} (ha : JE X T a f) (hb : JE X T (.BoolOp .And (b :: rest) pos) g) : JE X T (.BoolOp .And (a :: b :: rest) pos) (eAnd f g) := PE.weak (pe_andT ha hb) fun σ H Q h => by
  obtain ⟨M, B, L, ρ, p, h⟩ := h
  refine ⟨M, B, L, ρ, p, (post.bind h).mono fun w L1 M1 eA R x q v rv => ?_⟩
  obtain ⟨pd, e1, d1, q⟩ := q.view R eA rv
  obtain ⟨k, ek, q⟩ := q.opt
  refine ⟨k, tru_dv ek d1, ?_⟩
  cases k with
  | true => rw [if_pos rfl] at q; rw [if_pos rfl]; exact ⟨M1, B, L1, ρ, p.next eA R x, q⟩
  | false => rw [if_neg Bool.false_ne_true] at q; rw [if_neg Bool.false_ne_true]; exact q.here eA R v rv
theorem je_or {a b : Expr} {rest : List Expr} {f g : SE} {pos : Pos} (ha : JE X T a f) (hb : JE X T (.BoolOp .Or (b :: rest) pos) g) : JE X T (.BoolOp .Or (a :: b :: rest) pos) (eOr f g) := PE.weak (pe_orT ha hb) fun σ H Q h => by
  obtain ⟨M, B, L, ρ, p, h⟩ := h
  refine ⟨M, B, L, ρ, p, (post.bind h).mono fun w L1 M1 eA R x q v rv => ?_⟩
  obtain ⟨pd, e1, d1, q⟩ := q.view R eA rv
  obtain ⟨k, ek, q⟩ := q.opt
  refine ⟨k, tru_dv ek d1, ?_⟩
  cases k with
  | true => rw [if_pos rfl] at q; rw [if_pos rfl]; exact q.here eA R v rv
  | false => rw [if_neg Bool.false_ne_true] at q; rw [if_neg Bool.false_ne_true]; exact ⟨M1, B, L1, ρ, p.next eA R x, q⟩
theorem je_not {a : Expr} {f : SE} {pos : Pos} (ha : JE X T a f) : JE X T (.UnaryOp .Not a pos) (eNot f) := PE.weak (pe_notT ha) fun σ H Q h => by
  obtain ⟨M, B, L, ρ, p, h⟩ := h
  refine ⟨M, B, L, ρ, p, (post.bind h).mono fun w L1 M1 eA R x q v rv => ?_⟩
  obtain ⟨pd, e1, d1, q⟩ := q.view R eA rv
  obtain ⟨k, ek, q⟩ := q.opt
  exact ⟨k, tru_dv ek d1, q.here eA R (.bl (!k)) rfl⟩
end
end Ev

set_option Elab.async false
set_option linter.all false
set_option maxRecDepth 100000
set_option maxHeartbeats 1000000
set_option autoImplicit false
/-! EvG: the promise of a def where no repr is under way; its call; the end of a law over it. -/
namespace Ev
open PySem PySem.Spec PyProof.Rows L2
section
variable {P : Program} {w : World} {K : PySem.W.Frag} {mg : Str → Option Value} {base : Heap} {CX : CXT} {k : Nat} {f : Addr} {fd : FuncData} {ps : List Str} {sp : Sp}
/-- FnOk where no repr is under way -/
structure FnG (P : Program) (w : World) (K : PySem.W.Frag) (mg : Str → Option Value) (base : Heap) (CX : CXT) (k : Nat) (f : Addr) (fd : FuncData) (ps : List Str) (sp : Sp) : Prop where
  ln : ∀ vs H Q E, sp vs H Q E → vs.length = ps.length
  go : ∀ (A : Around) (ou : List Env) (s : Shared) (H : Hp) (args : Args) (us : List Value) (vs : List V) (Q : VK) (E : XK), A.guards = some [] → Room k A → Env0 P w K mg base A ou s H →
    BindsTo s fd args (ps.zip us) → Vals vs us → sp vs H Q E → codeAny (model P w) A (.call (.ref f) args) (CR CX ou P w H s Q E) s
theorem FnG.imp {sp' : Sp} (F : FnG P w K mg base CX k f fd ps sp) (h : ∀ vs H Q E, sp' vs H Q E → sp vs H Q E) : FnG P w K mg base CX k f fd ps sp' :=
  ⟨fun vs H Q E q => F.ln vs H Q E (h _ _ _ _ q), fun A ou s H args us vs Q E hg hr he hb hv q => F.go A ou s H args us vs Q E hg hr he hb hv (h _ _ _ _ q)⟩
theorem FnG.mono {j : Nat} (F : FnG P w K mg base CX j f fd ps sp) (h : j ≤ k) : FnG P w K mg base CX k f fd ps sp :=
  ⟨F.ln, fun A ou s H args us vs Q E hg hr => F.go A ou s H args us vs Q E hg (hr.mono h)⟩
/-- the rule for a def -/
theorem fnG_of {x qual : Str} {params : Arguments} {body : List Stmt} {scope : Scope} {dvs : List V} {kws : List (Str × V)} {N : List Str} (F : FunD K x qual params body scope dvs kws f fd) (S : FnScope N ps scope) (ln : ∀ vs H Q E, sp vs H Q E → vs.length = ps.length)
    (hB : ∀ (cdv : Value) (A : Around) (ou : List Env) (s : Shared) (H : Hp) (vs : List V) (Q : VK) (E : XK), A.guards = some [] → Room k (A.deeper (envOfC qual scope s.heap.objs.size f cdv)) → sp vs H Q E →
      ∃ t, PSs (cxOf CX P w K mg base N qual scope f cdv A ou s H E) body t ∧ t { nx := fun _ H' => Q .non H', rt := Q } (start N vs) H) : FnG P w K mg base CX (k + 1) f fd ps sp := by
  obtain ⟨oc, od, dV, kV, doc, pm, an, cdv, ct, osl, rfl, lk, hcd, _, _⟩ := F.ex
  refine ⟨ln, fun A ou s H args us vs Q E hg hr e0 hb rl q => ?_⟩
  have kin : K.In s.heap := e0.mod.kin.keeps fun b o z => (e0.bs b o z).1
  have nol : s.heap.NoLimit := e0.mod.nolimit.keeps fun b o z => (e0.bs b o z).1
  refine codeAny_call_function hr.depth (kin _ _ lk) rfl S.co S.gen rfl (PySem.W.codeRec_of kin hcd) (hb _ _ _ _ ?_)
  refine wpAny_newFunctionEnv_cells S.kind (fun y hy => ?_) fun env he s1 x1 => ?_
  · rcases S.par y.1 (List.of_mem_zip (show (y.1, y.2) ∈ ps.zip us from hy)).1 with z | z
    · exact .inl z
    · exact .inr ⟨z, PySem.W.cellsFrom_some _ _ _ (.inl z)⟩
  · subst he
    refine ⟨nol.keeps x1.toInCall.keep, codeAny_func ?_⟩
    obtain ⟨t, ht, hq⟩ := hB cdv A ou s H vs Q E hg (hr.deeper _) q
    have I : Inv (cxOf CX P w K mg base N qual scope f cdv A ou s H E) [] (start N vs) H s1 := inv_start S hr.hd e0 (ln _ _ _ _ q) rl x1
    have fin : ∀ {s' : Shared} {σ' : L2.St} {H' : Hp} {v : V} {u : Value}, Inv (cxOf CX P w K mg base N qual scope f cdv A ou s H E) [] σ' H' s' → RelV v u → Q v H' → CE ou P w H s Q u s' :=
      fun {s' σ' H' v u} J rv q' => ⟨v, H', J.os, J.bare, J.base, J.hok, rv, q'⟩
    refine wpAny_mono (ht.run [] s1 (start N vs) H _ I hq) (fun fl s' hs => ?_) fun _ _ z => z
    cases fl with
    | next => obtain ⟨σ', H', J, z⟩ := hs; exact fin (v := V.non) (u := Value.none) J rfl z
    | ret u => obtain ⟨v, σ', H', J, rv, z⟩ := hs; exact fin J rv z
    | brk => obtain ⟨_, _, _, z⟩ := hs; exact z.elim
    | cont => obtain ⟨_, _, _, z⟩ := hs; exact z.elim
end
section
variable {X : Cx} {CX : CXT} {k : Nat} {f : Addr} {fd : FuncData} {ps : List Str} {sp : Sp} {E : XK}
/-- the call: args, what they bind -/
theorem FnG.call {pins : List (Addr × Obj)} {σ : L2.St} {H : Hp} {s : Shared} {Q : VK} {us : List Value} {kws : List (Str × Value)} {vs : List V} {zs : List Value} (F : FnG X.prog X.w X.K X.mg X.base CX k f fd ps sp) (hg : X.A.guards = some []) (hr : Room k X.A) (hx : Passes CX X E) (I : Inv X pins σ H s)
    (hb : BindsTo s fd ⟨us, kws⟩ (ps.zip zs)) (r : Vals vs zs) (h : sp vs H Q E) : wpAny (model X.prog X.w) X.A (PySem.call (.ref f) us kws) (EP X pins σ Q) X.xe s :=
  wpAny_call (codeAny_mono (F.go X.A X.stack s H ⟨us, kws⟩ zs vs Q E hg hr I.env0 hb r h) fun r s' z => match r, z with
    | .error e, z => hx pins σ H s e s' I z
    | .ok (.ret u), z => I.after z
    | .ok .next, z => False.elim z
    | .ok .brk, z => False.elim z
    | .ok .cont, z => False.elim z)
theorem pe_callG {x : Str} {p pos : Pos} {e : Expr} {es : List Expr} {t : TA} (F : FnG X.prog X.w X.K X.mg X.base CX k f fd ps sp) (hgu : X.A.guards = some []) (hr : Room k X.A) (hg : Gl X x) (hm : X.mg x = some (.ref f)) (hk : PySem.W.keepIn X.K (.ref f) = true) (hb : Binds X.K fd ps []) (hx : Passes CX X E)
    (ha : PA X (e :: es) t) (hdb : (x == ("__debug__" : Str)) = false) (he : starEach (e :: es) X.env = (false, eval e X.env) :: starEach es X.env) (hpl : (backTo pos (starEach es X.env)).any (·.1) = false) : PE X (.Call (.Name x p) (e :: es) [] pos) (fun σ H Q => t σ H fun vs H1 => sp vs H1 Q E) :=
  ⟨fun pins s σ H Q I h => wpAny_Call_Name_kw (ld_glob I hg hm (PySem.W.callWith_K (h₀ := X.base) I.ok.mod.kin hk (thn (ha.run pos pins s σ H _ I h) fun us s1 ⟨vs, H1, I1, r, q⟩ => ⟨I1.kIn, by
    have l : (us ++ ([] : List Value)).length = ps.length := by rw [List.append_nil, ← r.length]; exact F.ln _ _ _ _ q
    have b := hb s1 us I1.kIn l
    rw [List.append_nil] at b
    exact F.call hgu hr hx I1 b r q⟩) he hpl) hdb)⟩
theorem pe_callG0 {x : Str} {p pos : Pos} (F : FnG X.prog X.w X.K X.mg X.base CX k f fd ps sp) (hgu : X.A.guards = some []) (hr : Room k X.A) (hg : Gl X x) (hm : X.mg x = some (.ref f)) (hk : PySem.W.keepIn X.K (.ref f) = true) (hb : Binds X.K fd ps []) (hx : Passes CX X E)
    (hdb : (x == ("__debug__" : Str)) = false) : PE X (.Call (.Name x p) [] [] pos) (fun σ H Q => sp [] H Q E) :=
  ⟨fun pins s σ H Q I h => wpAny_Call_Name_kw (ld_glob I hg hm (PySem.W.callWith_K0 I.kIn hk (by
    have l : (([] : List Value) ++ ([] : List Value)).length = ps.length := by rw [← F.ln _ _ _ _ h]; rfl
    have b := hb s [] I.kIn l
    exact F.call hgu hr hx I b .nil h)) hdb)⟩
/-- f(k = e, ..): keywords alone; g puts their values in the parameters' order -/
theorem pe_callGK {x : Str} {p pos : Pos} {kws : List Keyword} {ks : List Str} {t : TA} {g : {α : Type} → List α → List α} (F : FnG X.prog X.w X.K X.mg X.base CX k f fd ps sp) (hgu : X.A.guards = some []) (hr : Room k X.A) (hg : Gl X x) (hm : X.mg x = some (.ref f)) (hk : PySem.W.keepIn X.K (.ref f) = true)
    (hb : ∀ (s : Shared) (ws : List Value), ws.length = ks.length → BindsTo s fd ⟨[], ks.zip ws⟩ (ps.zip (g ws))) (hrel : ∀ {zs : List V} {ws : List Value}, Vals zs ws → Vals (g zs) (g ws)) (hx : Passes CX X E)
    (ha : PK X kws t) (hall : (backToKw pos (keywordEach kws X.env)).all (·.1.isSome) = true) (hks : (backToKw pos (keywordEach kws X.env)).filterMap (·.1) = ks) (hdb : (x == ("__debug__" : Str)) = false)
    (hpl : ((backTo pos (starEach [] X.env)).any (·.1) || (backToKw pos (keywordEach kws X.env)).any (·.1.isNone)) = false) :
    PE X (.Call (.Name x p) [] kws pos) (fun σ H Q => t σ H fun zs H1 => zs.length = ks.length ∧ sp (g zs) H1 Q E) :=
  ⟨fun pins s σ H Q I h => wpAny_Call_Name_kw (ld_glob I hg hm (PySem.W.callWith_KW0 (h₀ := X.base) I.ok.mod.kin hk hall (thn (ha.run pos pins s σ H _ I h) fun ws s1 ⟨zs, H1, I1, r, hl, q⟩ => ⟨I1.kIn, by
    rw [hks]
    exact F.call hgu hr hx I1 (hb s1 ws (by rw [← r.length]; exact hl)) (hrel r) q⟩) hpl) hdb)⟩
end
/-- the end of a law -/
theorem lawG {P : Program} {w : World} {K : PySem.W.Frag} {mg mb : Str → Option Value} {CX : CXT} {k : Nat} {fa a : Addr} {fd : FuncData} {x : Str} {sp : Sp} {s1 : Shared} {vs : List Value} {ns : List Int} (kin : K.In s1.heap) (hns : s1.heap.Ns mainGlobals mg) (hb : s1.heap.Ns builtinsNs mb)
    (hbb : ∀ x : Str, x ≠ "__name__" → mb x = bootBuiltins x) (nol : s1.heap.NoLimit) (hg : s1.gens = #[]) (ha : s1.heap.get? a = some { cls := .type "list", data := .seq vs.toArray }) (hi : IntsAre vs ns) (hl : ns.length ≤ sizeLine) (hr : Room k callerA)
    (F : ∀ base : Heap, K.In base → base.Ns mainGlobals mg → FnG P w K mg base CX k fa fd [x] sp) (hbind : ∀ (s : Shared) (u : Value), BindsTo s fd ⟨[u], []⟩ [(x, u)])
    (hsp : ∀ H : Hp, Only H → SqL K H a (ns.map V.int) → sp [.ref a] H (fun v _ => v = .bl true) fun _ _ _ => False) (hCX : ∀ H e s', CX [] H s1 (fun _ _ _ => False) e s' → False) :
    codeAny (model P w) callerA (.call (.ref fa) ⟨[.ref a], []⟩) (fun r s' => r = .ok (.ret (.bool true)) ∧ OldK s1.heap s'.heap ∧ s'.os = s1.os ∧ AllBare s'.gens) s1 := by
  have rv := vals_ints hi
  have main : ∀ H : Hp, Only H → SqL K H a (ns.map V.int) → HOk P w H s1.heap → (∀ b, H b ≠ none → b = a ∧ K.lookup a = none) →
      codeAny (model P w) callerA (.call (.ref fa) ⟨[.ref a], []⟩) (fun r s' => r = .ok (.ret (.bool true)) ∧ OldK s1.heap s'.heap ∧ s'.os = s1.os ∧ AllBare s'.gens) s1 := by
    intro H hO hS hok hA
    have nsk : ∀ {b : Addr} {m : Str → Option Value}, s1.heap.Ns b m → (hidT s1.heap H).Ns b m := fun {b m} ⟨o, es, ep, e, d, r⟩ => ⟨o, es, ep, hidT_get e (by
      cases q : H b with
      | none => rfl
      | some u =>
        have z := (hA b (by rw [q]; exact fun y => nomatch y)).1
        rw [z, ha] at e
        cases e
        exact nomatch d), d, r⟩
    have kb : K.In (hidT s1.heap H) := fun b o e => hidT_get (kin b o e) (by
      cases q : H b with
      | none => rfl
      | some u =>
        obtain ⟨z, y⟩ := hA b (by rw [q]; exact fun y => nomatch y)
        rw [z, y] at e
        exact nomatch e)
    have hM : Mod K mg (hidT s1.heap H) := ⟨kb, nsk hns, ⟨mb, nsk hb, hbb⟩, let ⟨mc, h1, h2⟩ := nol; ⟨mc, nsk h1, h2⟩⟩
    have e0 : Env0 P w K mg (hidT s1.heap H) callerA [] s1 H := ⟨rfl, hM, fun _ _ e => of_hidT e, Nat.le_of_eq (hidT_size _ _), trivial, fun b z => absurd (show b ∈ ([] : List Addr) from z) (by simp), hok, .of_eq hg⟩
    refine codeAny_mono ((F _ kb (nsk hns)).go callerA [] s1 H ⟨[.ref a], []⟩ [.ref a] [.ref a] _ _ rfl hr e0 (hbind s1 (.ref a)) (.cons rfl .nil) (hsp H hO hS)) fun r s' h => ?_
    match r, h with
    | .error e, h => exact (hCX H e s' h).elim
    | .ok .next, h => exact False.elim h
    | .ok .brk, h => exact False.elim h
    | .ok .cont, h => exact False.elim h
    | .ok (.ret u), h =>
      obtain ⟨v, H', os, bare, un, hok', r', q⟩ := h
      have q : v = .bl true := q
      subst q
      obtain rfl : u = Value.bool true := r'
      refine ⟨rfl, OldK.of_keep fun b o e => ?_, os, bare⟩
      rcases hO b with z | ⟨ob, xs, z⟩
      · exact un.keep b o e z (fun y => absurd (show b ∈ ([] : List Addr) from y) (by simp)) (by simp)
      · have e1 := (hok b _ z).1
        have e2 := (hok' b _ (un.frzs b ob _ z)).1
        rw [e] at e1
        cases e1
        exact e2
  cases hk : K.lookup a with
  | none =>
    refine main (fun b => if b = a then some (.frz { cls := .type "list", data := .seq vs.toArray } (.lst (ns.map V.int))) else none) (fun b => ?_) (.inl (.inr ⟨{ cls := .type "list", data := .seq vs.toArray }, if_pos rfl⟩)) (fun b u z => ?_) fun b z => ?_
    · by_cases q : b = a
      · exact .inr ⟨_, _, if_pos q⟩
      · exact .inl (if_neg q)
    · by_cases q : b = a
      · have y := (if_pos q).symm.trans z
        cases y
        subst q
        exact ⟨ha, by rw [List.length_map]; exact hl, vs, _, rv, ha⟩
      · exact nomatch (if_neg q).symm.trans z
    · by_cases q : b = a
      · exact ⟨q, hk⟩
      · exact absurd (if_neg q) z
  | some o =>
    have e := kin a o hk
    rw [ha] at e
    cases e
    exact main (fun _ => none) (fun _ => .inl rfl) (.inr ⟨_, vs.toArray, _, hk, rfl, rfl, rfl, by rw [List.size_toArray, hi.length]; exact hl, by simpa using rv⟩) (fun b u z => nomatch (show (none : Option HO) = some u from z)) fun b z => absurd rfl z
theorem walkG {l : PySem.W.OpenLaw} {n k : Nat} {q : Program} {loose : List Str} {XP : (Str → Option Value) → Heap → Prop} {YP : World → Heap → Prop} {d : DefRec} {CX : CXT} {x : Str} (hn : l.most = some n) (hn2 : n ≤ sizeLine) (hdf : d.params.defaults = []) (hr : Room k callerA)
    (F : ∀ (w : World) (mg : Str → Option Value) (fa : Addr) (h : Heap), YP w h → h.Ns mainGlobals mg → mg d.name = some (.ref fa) → ∃ (K : PySem.W.Frag) (fd : FuncData) (sp : Sp), K.In h ∧ (∀ (s : Shared) (u : Value), BindsTo s fd ⟨[u], []⟩ [(x, u)]) ∧
      (∀ (H : Hp) (a : Addr) (ns : List Int), ns.length ≤ n → Only H → SqL K H a (ns.map V.int) → sp [.ref a] H (fun v _ => v = .bl true) fun _ _ _ => False) ∧ ∀ base : Heap, K.In base → base.Ns mainGlobals mg → FnG l.prog w K mg base CX k fa fd [x] sp)
    (hCX : ∀ (H : Hp) (s : Shared) (e : Value) (s' : Shared), CX [] H s (fun _ _ _ => False) e s' → False) : PySem.W.WalkO q loose XP YP l.row.toRowW d [] (fun f vs => PySem.call f vs) :=
  Att.attach_call hn hdf fun w s0 s1 mg mb fa o pm cd doc a vs ns G Y ho hd hcd hmg hobj hints hlen hg => by
    obtain ⟨K, fd, sp, kin, hb, hsp, hF⟩ := F w mg fa _ Y G.T.g hmg
    exact lawG kin G.T.g G.T.b G.T.builtins G.T.nolimit hg hobj hints (Nat.le_trans hlen hn2) hr hF hb (fun H hO hS => hsp H a ns hlen hO hS) fun H e s' => hCX H s1 e s'
end Ev

set_option Elab.async false
set_option linter.all false
set_option maxRecDepth 100000
set_option maxHeartbeats 1000000
set_option autoImplicit false
/-! EvD: statements, defs, calls. -/
namespace Ev
open PySem PySem.Spec PyProof.Rows L2
/-! ### statements -/
section
variable {X : Cx} {T : Tb}
theorem postS.ext_next {K : PySem.W.Frag} {M : Mem} {B L : Hs} {ρ : Sl} {σ : L2.St} {Dn : Ends} (h : postS K T M B (.next ρ L) Dn) (eA : M.A = B ++ L) (R : Rep K T M) (rs : RS K T M ρ σ) : Dn.nx σ M.H := h M σ eA R (Ext.refl M) rs
theorem js_nil : JSs X T [] sNil := PSs.weak pss_nil fun Dn σ H h => by
  obtain ⟨M, B, L, ρ, p, h⟩ := h
  have := h.ext_next p.eA p.rep p.rs
  rw [p.eH] at this
  exact this
theorem js_cons {st : Stmt} {rest : List Stmt} {f g : SS} (h1 : JS X T st f) (h2 : JSs X T rest g) : JSs X T (st :: rest) (sSeq f g) := PSs.weak (pss_cons h1 h2) fun Dn σ H h => by
  obtain ⟨M, B, L, ρ, p, h⟩ := h
  refine ⟨M, B, L, ρ, p, ?_⟩
  unfold sSeq at h
  cases e : f B ρ L with
  | next ρ1 L1 =>
    rw [e] at h
    intro M1 σ1 eA R x rs
    exact ⟨M1, B, L1, ρ1, ⟨rfl, eA, R, rs⟩, postS.later h x⟩
  | brk ρ1 L1 => rw [e] at h; exact h
  | cnt ρ1 L1 => rw [e] at h; exact h
  | ret w L1 => rw [e] at h; exact h
  | exc _ _ _ _ => rw [e] at h; exact h.elim
  | bad => rw [e] at h; exact h.elim
theorem js_one {st : Stmt} {f : SS} (h1 : JS X T st f) : JSs X T [st] f := pss_one h1
theorem js_ret {e : Expr} {f : SE} {pos : Pos} (he : JE X T e f) : JS X T (.Return (some e) pos) (sRet f) := PS.weak (ps_ret he) fun Dn σ H h => by
  obtain ⟨M, B, L, ρ, p, h⟩ := h
  exact ⟨M, B, L, ρ, p, (post.st h).mono fun w L1 M1 eA R x q v rv => q M1 v eA R (Ext.refl M1) rv⟩
def sRetN : SS := fun _ _ L => .ret (.d .non) L
theorem js_retN {pos : Pos} : JS X T (.Return none pos) sRetN := PS.weak ps_retN fun Dn σ H h => by
  obtain ⟨M, B, L, ρ, p, h⟩ := h
  have : Dn.rt .non M.H := h M .non p.eA p.rep (Ext.refl M) rfl
  rw [p.eH] at this
  exact this
theorem js_pass {pos : Pos} : JS X T (.Pass pos) sNil := PS.weak ps_pass fun Dn σ H h => by
  obtain ⟨M, B, L, ρ, p, h⟩ := h
  have := h.ext_next p.eA p.rep p.rs
  rw [p.eH] at this
  exact this
def sBrk : SS := fun _ ρ L => .brk ρ L
def sCnt : SS := fun _ ρ L => .cnt ρ L
theorem js_break {pos : Pos} : JS X T (.Break pos) sBrk := PS.weak ps_break fun Dn σ H h => by
  obtain ⟨M, B, L, ρ, p, h⟩ := h
  have : Dn.bk σ M.H := h M σ p.eA p.rep (Ext.refl M) p.rs
  rw [p.eH] at this
  exact this
theorem js_continue {pos : Pos} : JS X T (.Continue pos) sCnt := PS.weak ps_continue fun Dn σ H h => by
  obtain ⟨M, B, L, ρ, p, h⟩ := h
  have : Dn.ct σ M.H := h M σ p.eA p.rep (Ext.refl M) p.rs
  rw [p.eH] at this
  exact this
theorem js_expr {e : Expr} {f : SE} {pos : Pos} (he : JE X T e f) (hs : swapsWith e none pos.line X.env = pure false := by rfl) : JS X T (.Expr e pos) (sExpr f) := PS.weak (ps_expr he hs) fun Dn σ H h => by
  obtain ⟨M, B, L, ρ, p, h⟩ := h
  exact ⟨M, B, L, ρ, p, (post.st h).mono fun w L1 M1 eA R x q v rv => q.ext_next eA R (p.rs.ext p.rep x)⟩
theorem js_if {c : Expr} {a b : List Stmt} {f : ST} {fa fb : SS} {pos : Pos} (hc : JT X T c f) (ha : JSs X T a fa) (hb : JSs X T b fb) : JS X T (.If c a b pos) (sIf f fa fb) := PS.weak (ps_if hc ha hb) fun Dn σ H h => by
  obtain ⟨M, B, L, ρ, p, h⟩ := h
  refine ⟨M, B, L, ρ, p, (post.st h).mono fun c L1 M1 eA R x q => ?_⟩
  cases c with
  | true => rw [if_pos rfl] at q; rw [if_pos rfl]; exact ⟨M1, B, L1, ρ, p.next eA R x, q⟩
  | false => rw [if_neg Bool.false_ne_true] at q; rw [if_neg Bool.false_ne_true]; exact ⟨M1, B, L1, ρ, p.next eA R x, q⟩
theorem js_bad {st : Stmt} : JS X T st sBad := PS.weak ps_never fun Dn σ H h => by
  obtain ⟨M, B, L, ρ, p, h⟩ := h
  exact h
theorem jss_bad {sts : List Stmt} : JSs X T sts sBad := PSs.weak pss_never fun Dn σ H h => by
  obtain ⟨M, B, L, ρ, p, h⟩ := h
  exact h

/-! ### targets -/
theorem RS.set {K : PySem.W.Frag} {M : Mem} {ρ : Sl} {σ : L2.St} (h : RS K T M ρ σ) {w : W} {v : V} (r : RW K T M w v) (i : Nat) : RS K T M (ρ.set i (some w)) (σ.set i (some v)) := by
  refine ⟨by rw [List.length_set, List.length_set]; exact h.1, fun j u e => ?_⟩
  by_cases hj : i = j
  · subst hj
    have hl : i < ρ.length := by
      have := (List.getElem?_eq_some_iff.mp e).1
      rwa [List.length_set] at this
    rw [List.getElem?_set_self hl] at e
    cases e
    exact ⟨v, by rw [List.getElem?_set_self (by rw [← h.1]; exact hl)], r⟩
  · rw [List.getElem?_set_ne hj] at e
    obtain ⟨u', e1, r1⟩ := h.2 j u e
    exact ⟨u', by rw [List.getElem?_set_ne hj]; exact e1, r1⟩
/-- the slots but those of is stay -/
def Stay (is : List Nat) (σ σ' : L2.St) : Prop := σ'.length = σ.length ∧ ∀ j : Nat, j ∉ is → σ'[j]? = σ[j]?
theorem Stay.refl (is : List Nat) (σ : L2.St) : Stay is σ σ := ⟨rfl, fun _ _ => rfl⟩
def rG (K : PySem.W.Frag) (T : Tb) (g : SG) (is : List Nat) : TG := fun v σ H Q => ∃ M B L ρ w, Pt K T M B L ρ σ H ∧ RW K T M w v ∧ post K T M B (g w B ρ L) fun ρ' _ M' => ∀ σ', RS K T M' ρ' σ' → Stay is σ σ' → Q σ' M'.H
abbrev JG (X : Cx) (T : Tb) (e : Expr) (g : SG) (is : List Nat) : Prop := PG X e (rG X.K T g is)
theorem PG.weak {e : Expr} {t u : TG} (h : PG X e t) (w : ∀ v σ H Q, u v σ H Q → t v σ H Q) : PG X e u := ⟨fun pins s σ H v uu Q I r q => h.run pins s σ H v uu Q I r (w v σ H Q q)⟩
theorem PGs.weak {e : List Expr} {t u : TGs} (h : PGs X e t) (w : ∀ v σ H Q, u v σ H Q → t v σ H Q) : PGs X e u := ⟨fun pins s σ H v uu Q I r q => h.run pins s σ H v uu Q I r (w v σ H Q q)⟩
theorem jg_name {i : Nat} {x : Str} {pos : Pos} (hN : X.N.Nodup) (hi : X.N[i]? = some x := by rfl) (hx : Loc X.env.scope x := by first | exact .inl rfl | exact .inr rfl) (hf : X.fn x = true ∨ X.env.scope.names.lookup x = some .local := by first | exact .inl rfl | exact .inr rfl | assumption) : JG X T (.Name x pos) (gVar i) [i] :=
  PG.weak (pg_name hN hi hx hf) fun v σ H Q h => by
    obtain ⟨M, B, L, ρ, w, p, rw, h⟩ := h
    have : Q (σ.set i (some v)) M.H := h M p.eA p.rep (Ext.refl M) _ (p.rs.set rw i) ⟨List.length_set, fun j hj => List.getElem?_set_ne (fun e => hj (by simp [e]))⟩
    rw [p.eH] at this
    exact this
def rGs (K : PySem.W.Frag) (T : Tb) (gs : List SG) (is : List Nat) : TGs := fun vs σ H Q => ∃ M B L ρ xs, Pt K T M B L ρ σ H ∧ RVs K T M xs vs ∧ post K T M B (gAll gs xs B ρ L) fun ρ' _ M' => ∀ σ', RS K T M' ρ' σ' → Stay is σ σ' → Q σ' M'.H
abbrev JGs (X : Cx) (T : Tb) (es : List Expr) (gs : List SG) (is : List Nat) : Prop := PGs X es (rGs X.K T gs is)
theorem jgs_nil : JGs X T [] [] [] := PGs.weak pgs_nil fun vs σ H Q h => by
  obtain ⟨M, B, L, ρ, xs, p, rv, h⟩ := h
  cases xs with
  | nil =>
    have h : Q σ M.H := h M p.eA p.rep (Ext.refl M) σ p.rs (Stay.refl _ _)
    rw [p.eH] at h
    exact ⟨rv, h⟩
  | cons x xs => exact h.elim
theorem jgs_cons {e : Expr} {es : List Expr} {g : SG} {gs : List SG} {is js : List Nat} (h1 : JG X T e g is) (h2 : JGs X T es gs js) (hs : (assignEach (e :: es) X.env).map (·.2) = assign e X.env :: (assignEach es X.env).map (·.2) := by rfl) : JGs X T (e :: es) (g :: gs) (is ++ js) :=
  PGs.weak (pgs_cons h1 h2 hs) fun vs σ H Q h => by
    obtain ⟨M, B, L, ρ, xs, p, rv, h⟩ := h
    cases xs with
    | nil => exact h.elim
    | cons x xs =>
      obtain ⟨v, r, rfl, r1, r2⟩ := rv
      refine ⟨v, r, rfl, M, B, L, ρ, .d x, p, r1, (post.bind h).mono fun ρ1 L1 M1 eA R x' q σ1 rs st => ?_⟩
      refine ⟨M1, B, L1, ρ1, xs, ⟨rfl, eA, R, rs⟩, RVs.ext p.rep x' xs r r2, q.mono fun ρ2 L2 M2 _ _ _ k σ2 rs2 st2 => k σ2 rs2 ⟨st2.1.trans st.1, fun j hj => ?_⟩⟩
      rw [st2.2 j fun z => hj (List.mem_append_right _ z), st.2 j fun z => hj (List.mem_append_left _ z)]
theorem gAll_len : ∀ {gs : List SG} {xs : List D} {B : Hs} {ρ : Sl} {L : Hs} {ρ' : Sl} {L' : Hs}, gAll gs xs B ρ L = .ok ρ' L' → xs.length = gs.length
  | [], [], _, _, _, _, _, _ => rfl
  | [], _ :: _, _, _, _, _, _, h => by cases h
  | _ :: _, [], _, _, _, _, _, h => by cases h
  | g :: gs, x :: xs, B, ρ, L, ρ', L', h => by
    have h : (g (.d x) B ρ L).bind _ = _ := h
    cases e : g (.d x) B ρ L with
    | ok ρ1 L1 =>
      rw [e] at h
      rw [List.length_cons, List.length_cons, gAll_len h]
    | exc _ _ _ => rw [e] at h; cases h
    | bad => rw [e] at h; cases h
theorem jg_tup {es : List Expr} {k : Nat} {gs : List SG} {is : List Nat} {pos : Pos} (hc : X.calm = true) (h : JGs X T es gs is) (hn : (assignEach es X.env).length = gs.length := by rfl) (hst : (assignEach es X.env).findIdx? (·.1) = none := by rfl) : JG X T (.Tuple es k pos) (gTup gs) is :=
  PG.weak (pg_tup hc h hn hst) fun v σ H Q h => by
    obtain ⟨M, B, L, ρ, w, p, rw, h⟩ := h
    obtain ⟨pd, e1, d1, h⟩ := h.view p.rep p.eA rw
    obtain ⟨xs, ex, hg⟩ := h.opt
    clear h
    cases pd with
    | tup ys =>
      cases ex
      rcases d1 with ⟨a, vs, e1, e2, e3⟩ | ⟨_, _, _, e, _⟩ | ⟨_, _, _, _, e, _⟩
      · refine ⟨a, vs, e1, by rw [← p.eH]; exact e2, ?_, M, B, L, ρ, _, p, e3, hg⟩
        rw [← e3.length]
        cases e : gAll gs xs B ρ L with
        | ok ρ' L' => exact gAll_len e
        | exc _ _ _ => rw [e] at hg; exact hg.elim
        | bad => rw [e] at hg; exact hg.elim
      · cases e
      · cases e
    | _ => cases ex
theorem js_asg {tg e : Expr} {f : SE} {g : SG} {is : List Nat} {pos : Pos} (he : JE X T e f) (hg : JG X T tg g is) (hs : swapsWithSole [tg] e pos.line X.env = pure false := by rfl) (hw : swappedStores [tg] e X.env = pure none := by rfl)
    (h1 : (assignEach [tg] X.env).map (·.2) = [assign tg X.env] := by rfl) : JS X T (.Assign [tg] e pos) (sAsg f g) := PS.weak (ps_asg he hg hs hw h1) fun Dn σ H h => by
  obtain ⟨M, B, L, ρ, p, h⟩ := h
  refine ⟨M, B, L, ρ, p, (post.st h).mono fun w L1 M1 eA R x q v rv => ?_⟩
  exact ⟨M1, B, L1, ρ, w, p.next eA R x, rv, (post.st q).mono fun ρ' L2 M2 eA2 R2 x2 q2 σ' rs _ => q2.ext_next eA2 R2 rs⟩
theorem js_set {i : Nat} {x : Str} {e : Expr} {f : SE} {pos pos' : Pos} (hN : X.N.Nodup) (he : JE X T e f) (hi : X.N[i]? = some x := by rfl) (hx : Loc X.env.scope x := by first | exact .inl rfl | exact .inr rfl) (hs : swapsWith e (some (.Name x pos')) pos.line X.env = pure false := by rfl) (hf : X.fn x = true ∨ X.env.scope.names.lookup x = some .local := by first | exact .inl rfl | exact .inr rfl | assumption) :
    JS X T (.Assign [.Name x pos'] e pos) (sAsg f (gVar i)) := PS.weak (ps_set hN hi hx he hs hf) fun Dn σ H h => by
  obtain ⟨M, B, L, ρ, p, h⟩ := h
  refine ⟨M, B, L, ρ, p, (post.st h).mono fun w L1 M1 eA R x q v rv => ?_⟩
  have q2 := post.st q
  exact (q2.here eA R).ext_next eA R ((p.rs.ext p.rep x).set rv i)
theorem js_par {i j : Nat} {x y : Str} {a b : Expr} {f : SA} {px py pt pos : Pos} {kt k2 : Nat} {pt2 : Pos} (hc : X.calm = true) (hN : X.N.Nodup) (ha : JA X T [a, b] f) (hi : X.N[i]? = some x := by rfl) (hj : X.N[j]? = some y := by rfl) (hij : i ≠ j := by decide)
    (hx : X.env.scope.names.lookup x = some .local := by rfl) (hy : X.env.scope.names.lookup y = some .local := by rfl)
    (hw : swappedStores [.Tuple [.Name x px, .Name y py] kt pt] (.Tuple [a, b] k2 pt2) X.env = pure (some [x, y]) := by rfl)
    (hs : swapsWithSole [.Tuple [.Name x px, .Name y py] kt pt] (.Tuple [a, b] k2 pt2) pos.line X.env = pure false := by rfl) :
    JS X T (.Assign [.Tuple [.Name x px, .Name y py] kt pt] (.Tuple [a, b] k2 pt2) pos) (sPar i j f) := PS.weak (ps_par hc hN hi hj hij hx hy ha hw hs) fun Dn σ H h => by
  obtain ⟨M, B, L, ρ, p, h⟩ := h
  refine ⟨M, B, L, ρ, p, (post.st h).mono fun ws L1 M1 eA R x q vs rvs => ?_⟩
  cases ws with
  | nil => exact q.elim
  | cons w1 r1 =>
    cases r1 with
    | nil => exact q.elim
    | cons w2 r2 =>
      cases r2 with
      | cons _ _ => exact q.elim
      | nil =>
        obtain ⟨v1, s1, rfl, a1, v2, s2, rfl, a2, rfl⟩ := rvs
        exact ⟨v1, v2, rfl, q.ext_next eA R (((p.rs.ext p.rep x).set a1 i).set a2 j)⟩

/-! ### defs and calls -/
def spOf (K : PySem.W.Frag) (T : Tb) (np : Nat) (F : Fn) : Sp := fun vs H Q _ => vs.length = np ∧ ∃ M B L ws, M.H = H ∧ M.A = B ++ L ∧ Rep K T M ∧ RWs K T M ws vs ∧ post K T M B (F ws B L) fun w _ M' => ∀ v, RW K T M' w v → Q v M'.H
theorem je_call {F : Fn} {np k : Nat} {f : Addr} {fd : FuncData} {ps : List Str} {x : Str} {e : Expr} {es : List Expr} {a : SA} {p pos : Pos} (G : FnG X.prog X.w X.K X.mg X.base CX0 k f fd ps (spOf X.K T np F)) (hgu : X.A.guards = some []) (hr : Room k X.A)
    (hm : X.mg x = some (.ref f)) (hk : PySem.W.keepIn X.K (.ref f) = true) (hb : Binds X.K fd ps []) (ha : JA X T (e :: es) a) (hg : Gl X x := by rfl) (hdb : (x == ("__debug__" : Str)) = false := by decide)
    (he : starEach (e :: es) X.env = (false, eval e X.env) :: starEach es X.env := by rfl) (hpl : (backTo pos (starEach es X.env)).any (·.1) = false := by rfl) : JE X T (.Call (.Name x p) (e :: es) [] pos) (eCall np F a) :=
  PE.weak (pe_callG G hgu hr hg hm hk hb pass0 ha hdb he hpl) fun σ H Q h => by
    obtain ⟨M, B, L, ρ, p, h⟩ := h
    refine ⟨M, B, L, ρ, p, (post.bind h).mono fun ws L1 M1 eA R x q vs rvs => ?_⟩
    obtain ⟨hl, q⟩ := q.guard
    have hl := of_decide_eq_true hl
    exact ⟨by rw [← rvs.length]; exact hl, M1, B, L1, ws, rfl, eA, R, rvs, q⟩
theorem je_call0 {F : Fn} {k : Nat} {f : Addr} {fd : FuncData} {ps : List Str} {x : Str} {p pos : Pos} (G : FnG X.prog X.w X.K X.mg X.base CX0 k f fd ps (spOf X.K T 0 F)) (hgu : X.A.guards = some []) (hr : Room k X.A)
    (hm : X.mg x = some (.ref f)) (hk : PySem.W.keepIn X.K (.ref f) = true) (hb : Binds X.K fd ps []) (hg : Gl X x := by rfl) (hdb : (x == ("__debug__" : Str)) = false := by decide) : JE X T (.Call (.Name x p) [] [] pos) (eCall 0 F aNil) :=
  PE.weak (pe_callG0 G hgu hr hg hm hk hb pass0 hdb) fun σ H Q h => by
    obtain ⟨M, B, L, ρ, p, h⟩ := h
    have : spOf X.K T 0 F [] M.H Q E0 := ⟨rfl, M, B, L, [], rfl, p.eA, p.rep, rfl, h⟩
    rw [p.eH] at this
    exact this
/-- f(k = e, ..) -/
inductive JK (X : Cx) (T : Tb) : List Keyword → SA → Prop
  | nil : JK X T [] aNil
  | cons {nm : Option Str} {e : Expr} {kp : Pos} {ks : List Keyword} {f : SE} {g : SA} : JE X T e f → JK X T ks g → JK X T (⟨nm, e, kp⟩ :: ks) (aCons f g)
theorem JK.pk : ∀ {ks : List Keyword} {f : SA}, JK X T ks f → PK X ks (rA X.K T f)
  | _, _, .nil => ⟨fun pos pins s σ H Q I h => pk_nil.run pos pins s σ H Q I (by
    obtain ⟨M, B, L, ρ, p, h⟩ := h
    have := h M p.eA p.rep (Ext.refl M) [] rfl
    rw [p.eH] at this
    exact this)⟩
  | _, _, .cons h1 h2 => ⟨fun pos pins s σ H Q I h => (pk_cons h1 h2.pk).run pos pins s σ H Q I (by
    obtain ⟨M, B, L, ρ, p, h⟩ := h
    refine ⟨M, B, L, ρ, p, (post.bind h).mono fun w L1 M1 eA R x q v rv => ?_⟩
    refine ⟨M1, B, L1, ρ, p.next eA R x, (post.bind q).mono fun ws L2 M2 eA2 R2 x2 q2 vs rvs => ?_⟩
    exact q2.here eA2 R2 (v :: vs) ⟨v, vs, rfl, rv.ext R x2, rvs⟩)⟩
theorem je_callK {F : Fn} {np k : Nat} {f : Addr} {fd : FuncData} {ps ks : List Str} {x : Str} {kws : List Keyword} {a : SA} {p pos : Pos} (g : {α : Type} → List α → List α) (G : FnG X.prog X.w X.K X.mg X.base CX0 k f fd ps (spOf X.K T np F)) (hgu : X.A.guards = some []) (hr : Room k X.A)
    (hm : X.mg x = some (.ref f)) (hk : PySem.W.keepIn X.K (.ref f) = true) (hb : ∀ (s : Shared) (ws : List Value), ws.length = ks.length → BindsTo s fd ⟨[], ks.zip ws⟩ (ps.zip (g ws))) (hrel : ∀ {zs : List V} {ws : List Value}, Vals zs ws → Vals (g zs) (g ws))
    (hrw : ∀ {M : Mem} {ws : List W} {vs : List V}, RWs X.K T M ws vs → RWs X.K T M (g ws) (g vs)) (hn : ∀ {α : Type} (l : List α), l.length = ks.length → (g l).length = np)
    (ha : JK X T kws a) (hg : Gl X x := by rfl) (hdb : (x == ("__debug__" : Str)) = false := by decide) (hall : (backToKw pos (keywordEach kws X.env)).all (·.1.isSome) = true := by rfl) (hks : (backToKw pos (keywordEach kws X.env)).filterMap (·.1) = ks := by rfl)
    (hpl : ((backTo pos (starEach [] X.env)).any (·.1) || (backToKw pos (keywordEach kws X.env)).any (·.1.isNone)) = false := by rfl) : JE X T (.Call (.Name x p) [] kws pos) (eCallK ks.length np F (@g W) a) :=
  PE.weak (pe_callGK (g := g) G hgu hr hg hm hk hb hrel pass0 ha.pk hall hks hdb hpl) fun σ H Q h => by
    obtain ⟨M, B, L, ρ, p, h⟩ := h
    refine ⟨M, B, L, ρ, p, (post.bind h).mono fun ws L1 M1 eA R x q vs rvs => ?_⟩
    obtain ⟨hl, q⟩ := q.guard
    have hl := of_decide_eq_true hl
    have lv : vs.length = ks.length := by rw [← rvs.length]; exact hl
    exact ⟨lv, hn vs lv, M1, B, L1, g ws, rfl, eA, R, hrw rvs, q⟩
theorem rs_start {K : PySem.W.Frag} {M : Mem} {ws : List W} {vs : List V} (h : RWs K T M ws vs) (N : List Str) : RS K T M (ws.map some ++ List.replicate (N.length - ws.length) none) (start N vs) := by
  have hl := h.length
  refine ⟨by unfold L2.start; simp [hl], fun i w e => ?_⟩
  unfold L2.start
  have : ∀ {ws : List W} {vs : List V} {i : Nat} {w : W} {k j : Nat}, RWs K T M ws vs → (ws.map some ++ List.replicate k none)[i]? = some (some w) → ∃ v, (vs.map some ++ List.replicate j (none : Option V))[i]? = some (some v) ∧ RW K T M w v := by
    intro ws
    induction ws with
    | nil =>
      intro vs i w k j h e
      rw [List.map_nil, List.nil_append, List.getElem?_replicate] at e
      split at e <;> cases e
    | cons x xs ih =>
      intro vs i w k j h e
      obtain ⟨v, r, rfl, r1, r2⟩ := h
      cases i with
      | zero =>
        have e' : some (some x) = some (some w) := e
        cases e'
        exact ⟨v, rfl, r1⟩
      | succ i => exact ih (i := i) r2 e
  exact this h e
theorem spOf_body {K : PySem.W.Frag} {np : Nat} {N : List Str} {b : SS} {vs : List V} {H : Hp} {Q : VK} {E : XK} (h : spOf K T np (fnBody np N.length b) vs H Q E) : rS K T b { nx := fun _ H' => Q .non H', rt := Q } (start N vs) H := by
  obtain ⟨hl, M, B, L, ws, eH, eA, R, rv, h⟩ := h
  unfold fnBody at h
  rw [if_pos (by rw [rv.length]; exact hl)] at h
  refine ⟨M, B, L, _, ⟨eH, eA, R, rs_start rv N⟩, ?_⟩
  rw [show np = ws.length by rw [rv.length]; exact hl.symm] at h
  cases e : b B (ws.map some ++ List.replicate (N.length - ws.length) none) L with
  | next ρ' L' => rw [e] at h; exact fun M' σ' a' R' x' _ => h M' a' R' x' .non rfl
  | ret w L' => rw [e] at h; exact fun M' v a' R' x' rv => h M' a' R' x' v rv
  | brk _ _ => rw [e] at h; exact h.elim
  | cnt _ _ => rw [e] at h; exact h.elim
  | exc _ _ _ _ => rw [e] at h; exact h.elim
  | bad => rw [e] at h; exact h.elim
/-- the rule for a def, by its body -/
theorem fn_ok {P : Program} {w : World} {K : PySem.W.Frag} {mg : Str → Option Value} {base : Heap} {x qual : Str} {params : Arguments} {body : List Stmt} {scope : Scope} {dvs : List V} {kws : List (Str × V)} {f : Addr} {fd : FuncData} {N ps : List Str} {k : Nat} {b : SS}
    (F : FunD K x qual params body scope dvs kws f fd) (S : FnScope N ps scope)
    (hb : ∀ (cdv : Value) (A : Around) (outer : List Env) (s : Shared) (H : Hp) (E : XK), A.guards = some [] → Room k (A.deeper (envOfC qual scope s.heap.objs.size f cdv)) → JSs (cxOf CX0 P w K mg base N qual scope f cdv A outer s H E).nox T body b) :
    FnG P w K mg base CX0 (k + 1) f fd ps (spOf K T ps.length (fnBody ps.length N.length b)) :=
  fnG_of F S (fun vs H Q E h => h.1) fun cdv A outer s H vs Q E hg hr h => ⟨rS K T b, PSs.nox (hb cdv A outer s H E hg hr), spOf_body h⟩
/-! a call that changes nothing that stood before -/
theorem RW.out {K : PySem.W.Frag} {M' : Mem} {B L' : Hs} (R : Rep K T M') (eA : M'.A = B ++ L') {w w' : W} {v : V} (h : out B.length L' w = some w') (r : RW K T M' w v) : RW K T { M' with A := B } w' v := by
  have lv : ∀ n, liveAt B n → liveAt M'.A n := fun n ⟨o, e, l⟩ => ⟨o, by rw [eA, List.getElem?_append_left (List.getElem?_eq_some_iff.mp e).1]; exact e, l⟩
  cases w with
  | d x =>
    cases h
    exact RV.less (H := M'.H) (m := M'.m) lv x v r
  | ref k =>
    obtain ⟨hk, rfl⟩ := r
    unfold Ev.out at h
    dsimp only at h
    split at h
    · rename_i hlt
      cases h
      exact ⟨hlt, rfl⟩
    · rename_i hge
      have at_ : ∀ o, L'[k - B.length]? = some o → M'.A[k]? = some o := fun o e => by rw [eA, List.getElem?_append_right (by omega)]; exact e
      have sep : ∀ o, L'[k - B.length]? = some o → o.live = true → Sep { M' with A := B } (M'.m k) := fun o e l => ⟨fun n ln q => by
        have h1 : n = k := R.inj n k (lv n ln) ⟨o, at_ o e, l⟩ q
        obtain ⟨o', e', _⟩ := ln
        have h2 : n < B.length := (List.getElem?_eq_some_iff.mp e').1
        omega, fun hs => (R.sc _ hs).2 k ⟨o, at_ o e, l⟩ rfl⟩
      split at h
      · rename_i x e
        cases h
        exact RV.less (H := M'.H) (m := M'.m) lv x _ (R.at_ k _ (at_ _ e))
      · rename_i ws e
        obtain ⟨vs, q, rw⟩ := R.at_ k _ (at_ _ e)
        cases ea : allD ws with
        | none => rw [ea] at h; cases h
        | some xs =>
          rw [ea] at h
          cases h
          exact ⟨_, vs, rfl, sep _ e rfl, q, RVs.less (H := M'.H) (m := M'.m) lv xs vs (RWs.toD ea rw)⟩
      · rename_i ks ws e
        obtain ⟨kvs, q, kk, rw⟩ := R.at_ k _ (at_ _ e)
        cases ea : allD ws with
        | none => rw [ea] at h; cases h
        | some xs =>
          rw [ea] at h
          cases h
          exact ⟨_, kvs, rfl, sep _ e rfl, q, kk, RVs.less (H := M'.H) (m := M'.m) lv xs _ (RWs.toD ea rw)⟩
      · cases h
theorem RWs.back {K : PySem.W.Frag} {M M' : Mem} {A : Hs} (lv : ∀ n, liveAt A n → liveAt M'.A n) (hA : A = M.A) : ∀ {ws : List W} {vs us : List V}, RWs K T M ws vs → RWs K T M' ws us → RWs K T { M' with A := A } ws us
  | [], _, us, _, h => h
  | .d x :: ws, vs, us, h1, h2 => by
    obtain ⟨v, r, rfl, a1, a2⟩ := h1
    obtain ⟨u, r', rfl, b1, b2⟩ := h2
    exact ⟨u, r', rfl, RV.less (H := M'.H) (m := M'.m) lv x u b1, RWs.back lv hA a2 b2⟩
  | .ref k :: ws, vs, us, h1, h2 => by
    obtain ⟨v, r, rfl, a1, a2⟩ := h1
    obtain ⟨u, r', rfl, b1, b2⟩ := h2
    exact ⟨u, r', rfl, ⟨by rw [show ({ M' with A := A } : Mem).A = M.A from hA]; exact a1.1, b1.2⟩, RWs.back lv hA a2 b2⟩
theorem spOf_pure {K : PySem.W.Frag} {np : Nat} {F : Fn} {vs : List V} {H : Hp} {Q : VK} {E : XK} (h : spOf K T np (pureFn F) vs H Q E) : spOf K T np F vs H Q E := by
  obtain ⟨hl, M, B, L, ws, eH, eA, R, rv, h⟩ := h
  refine ⟨hl, M, B ++ L, [], ws, eH, by rw [List.append_nil]; exact eA, R, rv, ?_⟩
  unfold pureFn at h
  cases e : F ws (B ++ L) [] with
  | exc _ _ _ => rw [e] at h; exact h.elim
  | bad => rw [e] at h; exact h.elim
  | ok w L' =>
    rw [e] at h
    dsimp only at h
    intro M' eA' R' x' v rw'
    cases eo : out (B ++ L).length L' w with
    | none => rw [eo] at h; exact h.elim
    | some w' =>
      rw [eo] at h
      have lv : ∀ n, liveAt (B ++ L) n → liveAt M'.A n := fun n ⟨o, e, l⟩ => ⟨o, by rw [eA', List.getElem?_append_left (List.getElem?_eq_some_iff.mp e).1]; exact e, l⟩
      have R2 : Rep K T { M' with A := B ++ L } := by
        refine ⟨fun i j li lj q => R'.inj i j (lv i li) (lv j lj) q, fun n o q => ?_, fun a ha => ⟨(R'.sc a ha).1, fun n l => (R'.sc a ha).2 n (lv n l)⟩⟩
        have q : (B ++ L)[n]? = some o := q
        have hn := (List.getElem?_eq_some_iff.mp q).1
        have r' := R'.at_ n o (by rw [eA', List.getElem?_append_left hn]; exact q)
        have r := R.at_ n o (by rw [eA]; exact q)
        cases o with
        | frz x => exact RV.less (H := M'.H) (m := M'.m) lv x _ r'
        | lst ws => obtain ⟨vs, h1, h2⟩ := r; obtain ⟨us, g1, g2⟩ := r'; exact ⟨us, g1, RWs.back lv eA.symm h2 g2⟩
        | dct ks ws => obtain ⟨kvs, h1, k1, h2⟩ := r; obtain ⟨us, g1, k2, g2⟩ := r'; exact ⟨us, g1, k2, RWs.back lv eA.symm h2 g2⟩
        | ins _ _ => exact r.elim
        | dcn ks ws => obtain ⟨kvs, h1, i1, k1, j1, h2⟩ := r; obtain ⟨us, g1, i2, k2, j2, g2⟩ := r'; exact ⟨us, g1, i2, k2, RVs.less (H := M'.H) (m := M'.m) lv _ _ j2, RWs.back lv eA.symm h2 g2⟩
      have x2 : Ext M { M' with A := B ++ L } := ⟨⟨by rw [eA]; exact Nat.le_refl _, x'.same, fun n y q => by rw [← eA]; exact q, fun n hn l => by
        obtain ⟨o, e1, _⟩ := l
        rw [eA] at hn
        exact absurd (List.getElem?_eq_some_iff.mp e1).1 (Nat.not_lt.mpr hn), x'.keep, x'.there, x'.scr⟩, x'.sq, x'.ks⟩
      exact h { M' with A := B ++ L } rfl R2 x2 v (RW.out R' eA' eo rw')
theorem fn_pure {P : Program} {w : World} {K : PySem.W.Frag} {mg : Str → Option Value} {base : Heap} {f : Addr} {fd : FuncData} {ps : List Str} {k np : Nat} {F : Fn} (G : FnG P w K mg base CX0 k f fd ps (spOf K T np F)) : FnG P w K mg base CX0 k f fd ps (spOf K T np (pureFn F)) :=
  G.imp fun vs H Q E h => spOf_pure h
end
end Ev

set_option Elab.async false
set_option linter.all false
set_option maxRecDepth 100000
set_option maxHeartbeats 1000000
set_option autoImplicit false
/-! EvL: loops, comprehensions. -/
namespace Ev
open PySem PySem.Spec PyProof.Rows L2
/-! ### what is walked -/
section
variable {X : Cx} {T : Tb}
/-- at a later moment -/
def At (K : PySem.W.Frag) (T : Tb) (B : Hs) (M0 : Mem) (H : Hp) : Prop := ∃ M L', M.H = H ∧ M.A = B ++ L' ∧ Rep K T M ∧ Ext0 M0 M
/-- an iterator of the items xs -/
def Wk (K : PySem.W.Frag) (T : Tb) (J : It) (xs : List D) (B : Hs) (M0 : Mem) : Prop := ∃ Y, Walk J xs.length (At K T B M0) Y ∧
    ∀ (i : Nat) (v : V) (H' : Hp) (M : Mem) (L' : Hs) (x : D), Y i M.H v H' → M.A = B ++ L' → Rep K T M → Ext0 M0 M → xs[i]? = some x → ∃ M', M'.H = H' ∧ M'.A = M.A ∧ Rep K T M' ∧ Ext M M' ∧ RV K T M' x v
def rI (K : PySem.W.Frag) (T : Tb) (f : SI) : TI := fun σ H R => ∃ M B L ρ, Pt K T M B L ρ σ H ∧ post K T M B (f B ρ L) fun xs _ M' => ∀ J, Wk K T J xs B M' → R J M'.H
abbrev JI (X : Cx) (T : Tb) (tg iter : Expr) (f : SI) : Prop := PI X tg iter (rI X.K T f)
theorem PI.weak {tg e : Expr} {t u : TI} (h : PI X tg e t) (w : ∀ σ H R, u σ H R → t σ H R) : PI X tg e u := ⟨fun pins s σ H R I q => h.run pins s σ H R I (w σ H R q)⟩
theorem wk_at {K : PySem.W.Frag} {J : It} {xs : List D} {vs : List V} {B : Hs} {M0 : Mem} (R0 : Rep K T M0) (hv : RVs K T M0 xs vs) (w : Walk J vs.length (At K T B M0) (YAt vs)) : Wk K T J xs B M0 := by
  refine ⟨YAt vs, by rw [hv.length]; exact w, fun i v H' M L' x y eA R e hx => ?_⟩
  obtain ⟨rfl, hvi⟩ := y
  obtain ⟨u, e1, r1⟩ := hv.get hx
  rw [hvi] at e1
  cases e1
  exact ⟨M, rfl, rfl, R, Ext.refl M, RV.ext0 R0 e x v r1⟩
/-- a list of the callers, that may not be changed here -/
theorem wk_base {K : PySem.W.Frag} {xs : List D} {B : Hs} {M0 : Mem} {n : Nat} {ws : List W} (R0 : Rep K T M0) (hl : M0.A.length > n) (hn : B[n]? = some (.lst ws)) (ha : allD ws = some xs) : Wk K T (Itl K (M0.m n)) xs B M0 := by
  have at_ : ∀ {M : Mem} {L' : Hs}, M.A = B ++ L' → Rep K T M → Ext0 M0 M → ∃ vs, M.H (M0.m n) = some (.lst vs) ∧ RVs K T M xs vs := fun {M L'} eA R e => by
    have q := R.at_ n (.lst ws) (by rw [eA, List.getElem?_append_left (List.getElem?_eq_some_iff.mp hn).1]; exact hn)
    obtain ⟨vs, h1, h2⟩ := q
    rw [e.same n hl] at h1
    exact ⟨vs, h1, RWs.toD ha h2⟩
  refine ⟨fun i H v H' => H' = H ∧ ∀ us, SqL K H (M0.m n) us → us[i]? = some v, ⟨fun i H hi g => ?_, fun H g => ?_, fun i H v H' hi g y => y⟩, fun i v H' M L' x y eA R e hx => ?_⟩
  · obtain ⟨M, L', rfl, eA, R, e⟩ := g
    obtain ⟨vs, h1, h2⟩ := at_ eA R e
    have hi' : i < vs.length := by rw [← h2.length]; exact hi
    exact ⟨vs, vs[i], .inl (.inl h1), by simp [hi']⟩
  · obtain ⟨M, L', rfl, eA, R, e⟩ := g
    obtain ⟨vs, h1, h2⟩ := at_ eA R e
    exact ⟨vs, .inl (.inl h1), by rw [← h2.length]; exact Nat.le_refl _⟩
  · obtain ⟨rfl, y⟩ := y
    obtain ⟨vs, h1, h2⟩ := at_ eA R e
    obtain ⟨u, e1, r1⟩ := h2.get hx
    have := y vs (.inl (.inl h1))
    rw [e1] at this
    cases this
    exact ⟨M, rfl, rfl, R, Ext.refl M, r1⟩
/-- what a value that is walked may be -/
theorem still_cases {K : PySem.W.Frag} {M : Mem} {B L : Hs} (R : Rep K T M) (eA : M.A = B ++ L) {w : W} {v : V} {p : D} (h : still B L w = some p) (r : RW K T M w v) : RV K T M p v ∨ ∃ n ws xs, n < M.A.length ∧ B[n]? = some (.lst ws) ∧ p = .lst xs ∧ v = .ref (M.m n) ∧ allD ws = some xs := by
  cases w with
  | d x => cases h; exact .inl r
  | ref n =>
    obtain ⟨hn, rfl⟩ := r
    unfold still look at h
    rw [← eA] at h
    dsimp only at h
    split at h
    · rename_i x e
      cases h
      exact .inl (R.at_ n _ e)
    · rename_i ws e
      split at h
      · rename_i hb
        cases ea : allD ws with
        | none => rw [ea] at h; cases h
        | some xs =>
          rw [ea] at h
          cases h
          refine .inr ⟨n, ws, xs, hn, ?_, rfl, rfl, ea⟩
          rw [eA, List.getElem?_append_left hb] at e
          exact e
      · cases h
    · cases h
theorem still_sq {K : PySem.W.Frag} {M : Mem} {B L : Hs} (R : Rep K T M) (eA : M.A = B ++ L) {w : W} {v : V} {xs : List D} (h : still B L w = some (.lst xs)) (r : RW K T M w v) : ∃ a, v = .ref a ∧ (∃ vs, SqL K M.H a vs) ∧ Wk K T (Itl K a) xs B M := by
  rcases still_cases R eA h r with ⟨a, vs, rfl, sp, l, rv⟩ | ⟨n, ws, xs', hn, hb, e, rfl, ea⟩
  · refine ⟨a, rfl, ⟨vs, .inl (.inl l)⟩, wk_at R rv ?_⟩
    exact walk_list.mono (fun H ⟨M', L', eH, _, R', e'⟩ => eH ▸ .inl (.inl (e'.keep _ _ l sp))) fun i H x H' _ _ y => y
  · cases e
    obtain ⟨vs, h1, h2⟩ := R.at_ n (.lst ws) (by rw [eA, List.getElem?_append_left (List.getElem?_eq_some_iff.mp hb).1]; exact hb)
    exact ⟨_, rfl, ⟨vs, .inl (.inl h1)⟩, wk_base R hn hb ea⟩
theorem still_scr {K : PySem.W.Frag} {M : Mem} {B L : Hs} (R : Rep K T M) (eA : M.A = B ++ L) {w : W} {v : V} {xs : List D} (h : still B L w = some (.scr xs)) (r : RW K T M w v) : ∃ a, v = .ref a ∧ (∃ vs, SqL K M.H a vs) ∧ Wk K T (Itl K a) xs B M := by
  rcases still_cases R eA h r with ⟨a, vs, rfl, s, rv⟩ | ⟨n, ws, xs', hn, hb, e, rfl, ea⟩
  · rcases s with ⟨sp, l⟩ | k
    · refine ⟨a, rfl, ⟨vs, .inl l⟩, wk_at R rv ?_⟩
      exact walk_list.mono (fun H ⟨M', L', eH, _, R', e'⟩ => eH ▸ .inl (e'.rd l sp)) fun i H x H' _ _ y => y
    · refine ⟨a, rfl, ⟨vs, .inr k⟩, wk_at R rv ?_⟩
      exact walk_list.mono (fun H _ => .inr k) fun i H x H' _ _ y => y
  · cases e
/-! the iterators of lists, tuples, texts: which one it is shows when the value has come -/
theorem pi_seq {tg e : Expr} {te : TE} (he : PE X e te) : PI X tg e (fun σ H R => te σ H fun x H1 => (∃ a xs, x = .ref a ∧ SqL X.K H1 a xs ∧ R (Itl X.K a) H1) ∨ (∃ a xs, x = .ref a ∧ SqT X.K H1 a xs ∧ R (Itt X.K a) H1) ∨ ∃ z, x = .str z ∧ R (Its z) H1) := by
  refine ⟨fun pins s σ H R I h => thn (he.run pins s σ H _ I h) fun v s1 hv => ?_⟩
  obtain ⟨x, H1, I1, rx, q⟩ := hv
  rcases q with ⟨a, xs, rfl, hq, q⟩ | ⟨a, xs, rfl, hq, q⟩ | ⟨z, rfl, q⟩
  · obtain rfl : v = Value.ref a := rx
    obtain ⟨its, _, pl, _⟩ := I1.list hq
    exact wpAny_pyIter_list pl.isList (pi_one (tk := s1.toks) I1 _ (turn_list a _) ⟨_, Heap.get?_push_size _ rfl, rfl, rfl⟩ q)
  · obtain rfl : v = Value.ref a := rx
    obtain ⟨its, _, pl, _⟩ := I1.tuple hq
    exact wpAny_pyIter_tuple (show s1.heap.IsTuple a its.toArray from pl) (pi_one (tk := s1.toks) I1 _ (turn_tuple a _) ⟨_, Heap.get?_push_size _ rfl, rfl, rfl⟩ q)
  · obtain ⟨t, rfl⟩ := rx
    by_cases hz : z.cps.all (· < 128) = true
    · exact wpAny_pyIter_ascii hz (pi_one (tk := s1.toks) I1 _ (turn_str _ z t "str_ascii_iterator" (.inl rfl)) ⟨_, Heap.get?_push_size _ rfl, rfl, rfl⟩ q)
    · exact wpAny_pyIter_wide (Bool.not_eq_true _ ▸ hz) (pi_one (tk := s1.toks) I1 _ (turn_str _ z t "str_iterator" (.inr rfl)) ⟨_, Heap.get?_push_size _ rfl, rfl, rfl⟩ q)
theorem wk_str {K : PySem.W.Frag} {B : Hs} {M0 : Mem} (s : List Nat) : Wk K T (Its ⟨s.toArray⟩) (s.map fun c => .str [c]) B M0 := by
  refine ⟨_, (walk_str (z := ⟨s.toArray⟩)).mono (G' := At K T B M0) (fun _ _ => trivial) (fun i H x H' _ _ y => y) |> fun w => by
    have e : (s.map fun c => D.str [c]).length = (⟨s.toArray⟩ : Str).cps.size := by simp
    rw [e]; exact w, fun i v H' M L' x y eA R e hx => ?_⟩
  obtain ⟨rfl, c, hc, rfl⟩ := y
  refine ⟨M, rfl, rfl, R, Ext.refl M, ?_⟩
  have hc : s.toArray[i]? = some c := hc
  rw [List.getElem?_map] at hx
  have hs : s[i]? = some c := by simpa using hc
  rw [hs] at hx
  cases hx
  rfl
theorem ji_seq {tg e : Expr} {f : SE} (he : JE X T e f) : JI X T tg e (iE f) := PI.weak (pi_seq he) fun σ H R h => by
  obtain ⟨M, B, L, ρ, p, h⟩ := h
  refine ⟨M, B, L, ρ, p, (post.bind h).mono fun w L1 M1 eA Rp x q v rv => ?_⟩
  obtain ⟨pd, ep, q⟩ := q.opt
  obtain ⟨xs, ex, q⟩ := q.opt1
  cases pd with
  | lst ys =>
    cases ex
    obtain ⟨a, rfl, ⟨vs, hs⟩, wk⟩ := still_sq Rp eA ep rv
    exact .inl ⟨a, vs, rfl, hs, q.here eA Rp _ wk⟩
  | scr ys =>
    cases ex
    obtain ⟨a, rfl, ⟨vs, hs⟩, wk⟩ := still_scr Rp eA ep rv
    exact .inl ⟨a, vs, rfl, hs, q.here eA Rp _ wk⟩
  | tup ys =>
    cases ex
    rcases still_cases Rp eA ep rv with ⟨a, vs, rfl, s, rv⟩ | ⟨n, ws, xs', hn, hb, e, rfl, ea⟩
    · exact .inr (.inl ⟨a, vs, rfl, s, q.here eA Rp _ (wk_at Rp rv (walk_tup.mono (fun H ⟨M', L', eH, _, R', e'⟩ => eH ▸ e'.sqT Rp s) fun i H x H' _ _ y => y))⟩)
    · cases e
  | str s =>
    cases ex
    rcases still_cases Rp eA ep rv with e | ⟨n, ws, xs', hn, hb, e, _⟩
    · exact .inr (.inr ⟨_, e, q.here eA Rp _ (wk_str s)⟩)
    · cases e
  | _ => cases ex
theorem wk_range {K : PySem.W.Frag} {B : Hs} {M0 : Mem} (n : Nat) : Wk K T (Itr 0 n) ((List.range n).map fun (i : Nat) => .int i) B M0 := by
  refine ⟨_, (walk_range (lo := 0) (n := n)).mono (G' := At K T B M0) (fun _ _ => trivial) (fun i H x H' _ _ y => y) |> fun w => by
    have e : ((List.range n).map fun (i : Nat) => D.int i).length = n := by simp
    rw [e]; exact w, fun i v H' M L' x y eA R e hx => ?_⟩
  obtain ⟨rfl, rfl⟩ := y
  refine ⟨M, rfl, rfl, R, Ext.refl M, ?_⟩
  rw [List.getElem?_map] at hx
  cases hr : (List.range n)[i]? with
  | none => rw [hr] at hx; cases hx
  | some j =>
    rw [hr] at hx
    have hj : j = i := by
      have := List.getElem?_eq_some_iff.mp hr
      obtain ⟨h1, h2⟩ := this
      rw [List.getElem_range] at h2
      exact h2.symm
    cases hx
    subst hj
    show V.int (0 + (j : Int)) = V.int j
    rw [Int.zero_add]
theorem ji_range {tg a : Expr} {f : SE} {p pos : Pos} (hm : X.mg "range" = none) (ha : JE X T a f) (hg : Gl X "range" := by rfl) (hs : starEach [a] X.env = [(false, eval a X.env)] := by rfl) : JI X T tg (.Call (.Name "range" p) [a] [] pos) (iRange f) :=
  PI.weak (pi_range1 hg hm (pa_cons ha pa_nil hs) hs) fun σ H R h => by
    obtain ⟨M, B, L, ρ, p, h⟩ := h
    refine ⟨M, B, L, ρ, p, (post.bind h).mono fun w L1 M1 eA Rp x q v rv => ?_⟩
    obtain ⟨pd, ev, dv, q⟩ := q.view Rp eA rv
    obtain ⟨j, ej, q1⟩ := q.opt
    obtain ⟨hj, q9⟩ := q1.guard
    have hj := of_decide_eq_true hj
    clear q q1
    cases pd with
    | int i =>
      cases ej
      rcases dv with rfl | ⟨_, _, _, e, _⟩ | ⟨_, _, _, _, e, _⟩
      · exact ⟨j, rfl, hj.1, hj.2, q9.here eA Rp _ (wk_range _)⟩
      · cases e
      · cases e
    | _ => cases ej

/-! ### for, while -/
theorem js_for {tg iter : Expr} {body : List Stmt} {f : SI} {g : SG} {is : List Nat} {b : SS} {pos : Pos} (hp : PassesOwn (model X.prog X.w) X.A X.env X.xe) (hc : X.calm = true) (hi : JI X T tg iter f) (hg : JG X T tg g is) (hb : JSs X T body b)
    (hs : ∀ x, foldedSetIterable iter X.env x = pure x := by intro _; rfl) : JS X T (.For tg iter body [] pos) (sFor f g b) := PS.weak (ps_for hp hc hi hg hb hs) fun Dn σ H h => by
  obtain ⟨M, B, L, ρ, p, h⟩ := h
  refine ⟨M, B, L, ρ, p, (post.st h).mono fun xs L1 M1 eA R x q J wk => ?_⟩
  obtain ⟨Y, w, hy⟩ := wk
  refine for_it w (fun i σ' H' => ∃ M' L' ρ', M'.H = H' ∧ M'.A = B ++ L' ∧ Rep X.K T M' ∧ Ext M1 M' ∧ RS X.K T M' ρ' σ' ∧ postS X.K T M' B (forGo g b B (xs.drop i) ρ' L') Dn) ?_ ?_ ?_ ?_
  · exact ⟨M1, L1, ρ, rfl, eA, R, Ext.refl M1, p.rs.ext p.rep x, q⟩
  · rintro i σ' H' _ ⟨M', L', ρ', e1, e2, e3, e4, _⟩
    exact ⟨M', L', e1, e2, e3, e4.toExt0⟩
  · rintro i v σ' H' H'' hlt ⟨M', L', ρ', rfl, e2, R', e4, rs, q⟩ y
    have hx : xs[i]? = some xs[i] := List.getElem?_eq_getElem hlt
    obtain ⟨M2, rfl, a2, R2, x2, rv⟩ := hy i v H'' M' L' _ y e2 R' e4.toExt0 hx
    rw [List.drop_eq_getElem_cons hlt] at q
    refine ⟨M2, B, L', ρ', .d xs[i], ⟨rfl, a2.trans e2, R2, rs.ext R' x2⟩, rv, (post.st (postS.later q x2)).mono fun ρ1 L2 M3 a3 R3 x3 q σ2 rs2 _ => ?_⟩
    refine ⟨M3, B, L2, ρ1, ⟨rfl, a3, R3, rs2⟩, ?_⟩
    have base : Ext M1 M3 := (e4.trans x2).trans x3
    cases e : b B ρ1 L2 with
    | next ρ2 L3 =>
      rw [e] at q
      exact fun M4 σ4 a4 R4 x4 rs4 => ⟨M4, L3, ρ2, rfl, a4, R4, base.trans x4, rs4, postS.later q x4⟩
    | cnt ρ2 L3 =>
      rw [e] at q
      exact fun M4 σ4 a4 R4 x4 rs4 => ⟨M4, L3, ρ2, rfl, a4, R4, base.trans x4, rs4, postS.later q x4⟩
    | brk ρ2 L3 => rw [e] at q; exact q
    | ret w L3 => rw [e] at q; exact q
    | exc _ _ _ _ => rw [e] at q; exact q.elim
    | bad => rw [e] at q; exact q.elim
  · rintro σ' H' ⟨M', L', ρ', rfl, e2, R', e4, rs, q⟩
    rw [List.drop_length] at q
    exact q.ext_next e2 R' rs
theorem js_while {c : Expr} {body : List Stmt} {f : ST} {b : SS} {n : Nat} {pos : Pos} (hp : PassesOwn (model X.prog X.w) X.A X.env X.xe) (hc : JT X T c f) (hb : JSs X T body b) : JS X T (.While c body [] pos) (sWhile n f b) := PS.weak (ps_while hp hc hb) fun Dn σ H h => by
  obtain ⟨M, B, L, ρ, p, h⟩ := h
  refine ⟨fun m σ H => ∃ M B L ρ, Pt X.K T M B L ρ σ H ∧ postS X.K T M B (whileGo f b B m ρ L) Dn, ⟨n, M, B, L, ρ, p, h⟩, fun m σ H hW => ?_⟩
  obtain ⟨M, B, L, ρ, p, h⟩ := hW
  cases m with
  | zero => exact (h : False).elim
  | succ m =>
    refine ⟨M, B, L, ρ, p, (post.st h).mono fun k L1 M1 eA R x q => ?_⟩
    cases k with
    | false => rw [if_neg Bool.false_ne_true] at q; rw [if_neg Bool.false_ne_true]; exact q.ext_next eA R (p.rs.ext p.rep x)
    | true =>
      rw [if_pos rfl] at q
      rw [if_pos rfl]
      refine ⟨fun σ' H' => ∃ M B L ρ, Pt X.K T M B L ρ σ' H' ∧ postS X.K T M B (whileGo f b B m ρ L) Dn, fun σ' H' hN => ⟨m, Nat.lt_succ_self m, hN⟩, M1, B, L1, ρ, p.next eA R x, ?_⟩
      cases e : b B ρ L1 with
      | next ρ2 L3 =>
        rw [e] at q
        exact fun M4 σ4 a4 R4 x4 rs4 => ⟨M4, B, L3, ρ2, ⟨rfl, a4, R4, rs4⟩, postS.later q x4⟩
      | cnt ρ2 L3 =>
        rw [e] at q
        exact fun M4 σ4 a4 R4 x4 rs4 => ⟨M4, B, L3, ρ2, ⟨rfl, a4, R4, rs4⟩, postS.later q x4⟩
      | brk ρ2 L3 => rw [e] at q; exact q
      | ret w L3 => rw [e] at q; exact q
      | exc _ _ _ _ => rw [e] at q; exact q.elim
      | bad => rw [e] at q; exact q.elim

/-! ### comprehensions -/
theorem wipe_get (σ : L2.St) : ∀ (vs : List Nat) (j : Nat), j ∉ vs → (L2.wipe σ vs)[j]? = σ[j]?
  | [], _, _ => rfl
  | v :: vs, j, h => by
    unfold L2.wipe
    rw [List.getElem?_set_ne (fun e => h (by simp [e])), wipe_get σ vs j fun z => h (List.mem_cons_of_mem _ z)]
theorem wipe_in (σ : L2.St) : ∀ (vs : List Nat) (j : Nat), j ∈ vs → j < σ.length → (L2.wipe σ vs)[j]? = some none
  | v :: vs, j, h, hl => by
    unfold L2.wipe
    by_cases e : v = j
    · subst e
      rw [List.getElem?_set_self (by rw [wipe_length]; exact hl)]
    · rw [List.getElem?_set_ne e]
      exact wipe_in σ vs j ((List.mem_cons.mp h).resolve_left fun z => e z.symm) hl
theorem wipe_stay {σ σ' : L2.St} {is vs : List Nat} (h : Stay is (L2.wipe σ vs) σ') (hi : ∀ i ∈ is, i ∈ vs) : L2.wipe σ' vs = L2.wipe σ vs := by
  apply List.ext_getElem?
  intro j
  have hl : σ'.length = σ.length := by rw [h.1, wipe_length]
  by_cases hj : j ∈ vs
  · by_cases hjl : j < σ.length
    · rw [wipe_in σ' vs j hj (by rw [hl]; exact hjl), wipe_in σ vs j hj hjl]
    · rw [List.getElem?_eq_none (by rw [wipe_length, hl]; omega), List.getElem?_eq_none (by rw [wipe_length]; omega)]
  · rw [wipe_get σ' vs j hj, h.2 j fun z => hj (hi j z)]
theorem wipeE_length (ρ : Sl) : ∀ vs : List Nat, (Ev.wipe ρ vs).length = ρ.length
  | [] => rfl
  | v :: vs => by unfold Ev.wipe; rw [List.length_set, wipeE_length ρ vs]
theorem wipeE_in (ρ : Sl) : ∀ (vs : List Nat) (j : Nat) (w : W), (Ev.wipe ρ vs)[j]? = some (some w) → j ∉ vs ∧ ρ[j]? = some (some w)
  | [], j, w, h => ⟨by simp, h⟩
  | v :: vs, j, w, h => by
    unfold Ev.wipe at h
    by_cases e : v = j
    · subst e
      rw [List.getElem?_set_self'] at h
      cases q : (Ev.wipe ρ vs)[v]? with
      | none => rw [q] at h; cases h
      | some o => rw [q] at h; cases h
    · rw [List.getElem?_set_ne e] at h
      obtain ⟨h1, h2⟩ := wipeE_in ρ vs j w h
      exact ⟨fun z => (List.mem_cons.mp z).elim (fun q => e q.symm) h1, h2⟩
theorem RS.wipe {K : PySem.W.Frag} {M : Mem} {ρ : Sl} {σ : L2.St} (h : RS K T M ρ σ) (vs : List Nat) : RS K T M (Ev.wipe ρ vs) (L2.wipe σ vs) := by
  refine ⟨by rw [wipeE_length, wipe_length]; exact h.1, fun j w e => ?_⟩
  obtain ⟨h1, h2⟩ := wipeE_in ρ vs j w e
  obtain ⟨v, e1, r⟩ := h.2 j w h2
  exact ⟨v, by rw [wipe_get σ vs j h1]; exact e1, r⟩
abbrev JTs (X : Cx) (T : Tb) (es : List Expr) (f : ST) : Prop := PTs X es (rT X.K T f)
theorem PTs.weak {es : List Expr} {t u : TT} (h : PTs X es t) (w : ∀ σ H Q, u σ H Q → t σ H Q) : PTs X es u := ⟨fun pins s σ H Q I q => h.run pins s σ H Q I (w σ H Q q)⟩
theorem jts_nil : JTs X T [] Ev.tYes := PTs.weak pts_nil fun σ H Q h => by
  obtain ⟨M, B, L, ρ, p, h⟩ := h
  have : Q true M.H := h M p.eA p.rep (Ext.refl M)
  rw [p.eH] at this
  exact this
theorem jts_one {c : Expr} {f : ST} (h : JT X T c f) : JTs X T [c] f := pts_one h
/-- an object in the making at d -/
def Mem.open (M : Mem) (d : Addr) (o : HO) : Mem := { M with H := upd M.H d o, S := d :: M.S }
def Mem.close (M : Mem) (S : List Addr) : Mem := { M with S := S }
def Mem.put (M : Mem) (d : Addr) (o : HO) : Mem := { M with H := upd M.H d o }
def Plain (o : HO) : Prop := (∀ xs, o ≠ .tup xs) ∧ (∀ q u, o ≠ .frz q u)
section
variable {K : PySem.W.Frag} {M M' M0 : Mem} {d : Addr} {o o' : HO} {S : List Addr}
/-- M' keeps what stands for data in M -/
structure Keeps (M M' : Mem) : Prop where
  tup : ∀ a xs, SqT K M.H a xs → SqT K M'.H a xs
  sep : ∀ a, Sep M a → M.H a ≠ none → Sep M' a
  obj : ∀ a o, M.H a = some o → Sep M a → M'.H a = some o
  A : M.A.length ≤ M'.A.length
  m : ∀ n, n < M.A.length → M'.m n = M.m n
mutual
theorem RV.keeps (k : Keeps (K := K) M M') : ∀ (x : D) (v : V), RV K T M x v → RV K T M' x v
  | .non, v, h => h
  | .bl b, v, h => h
  | .int i, v, h => h
  | .str s, v, h => h
  | .tup xs, v, h => by
    obtain ⟨a, vs, q, s, r⟩ := h
    exact ⟨a, vs, q, k.tup a vs s, RVs.keeps k xs vs r⟩
  | .lst xs, v, h => by
    obtain ⟨a, vs, q, s, l, r⟩ := h
    exact ⟨a, vs, q, k.sep a s (by rw [l]; intro z; cases z), k.obj _ _ l s, RVs.keeps k xs vs r⟩
  | .scr xs, v, h => by
    obtain ⟨a, vs, q, s, r⟩ := h
    refine ⟨a, vs, q, ?_, RVs.keeps k xs vs r⟩
    rcases s with ⟨s, l⟩ | z
    · refine .inl ⟨k.sep a s (rd_ne l), ?_⟩
      rcases l with l | ⟨u, l⟩
      · exact .inl (k.obj _ _ l s)
      · exact .inr ⟨u, k.obj _ _ l s⟩
    · exact .inr z
  | .dct ks xs, v, h => by
    obtain ⟨a, kvs, q, s, l, kk, r⟩ := h
    exact ⟨a, kvs, q, k.sep a s (by rw [l]; intro z; cases z), k.obj _ _ l s, kk, RVs.keeps k xs _ r⟩
  | .set _, v, h => h
  | .obj _ _, v, h => h
  | .fn i, v, h => h
theorem RVs.keeps (k : Keeps (K := K) M M') : ∀ (ds : List D) (vs : List V), RVs K T M ds vs → RVs K T M' ds vs
  | [], vs, h => h
  | x :: xs, vs, h => by
    obtain ⟨v, r, q, h1, h2⟩ := h
    exact ⟨v, r, q, RV.keeps k x v h1, RVs.keeps k xs r h2⟩
end
theorem RW.keeps (k : Keeps (K := K) M M') : ∀ {w : W} {v : V}, RW K T M w v → RW K T M' w v
  | .d x, v, h => RV.keeps k x v h
  | .ref n, v, h => ⟨Nat.lt_of_lt_of_le h.1 k.A, by rw [k.m n h.1]; exact h.2⟩
theorem RWs.keeps (k : Keeps (K := K) M M') : ∀ {ws : List W} {vs : List V}, RWs K T M ws vs → RWs K T M' ws vs
  | [], vs, h => h
  | w :: ws, vs, h => by
    obtain ⟨v, r, q, h1, h2⟩ := h
    exact ⟨v, r, q, h1.keeps k, RWs.keeps k h2⟩
theorem RS.keeps (k : Keeps (K := K) M M') {ρ : Sl} {σ : L2.St} (h : RS K T M ρ σ) : RS K T M' ρ σ := ⟨h.1, fun i w q => let ⟨v, e1, r⟩ := h.2 i w q; ⟨v, e1, r.keeps k⟩⟩
theorem Rep.keeps (R : Rep K T M) (k : Keeps (K := K) M M') (kA : M'.A = M.A) (km : M'.m = M.m) (hp : ∀ n o, liveAt M.A n → M.H (M.m n) = some o → M'.H (M.m n) = some o) (sc : ∀ a ∈ M'.S, (∃ o, M'.H a = some o ∧ (∀ xs, o ≠ .tup xs) ∧ (∀ q u, o ≠ .frz q u)) ∧ ∀ n, liveAt M'.A n → M'.m n ≠ a) : Rep K T M' := by
  refine ⟨fun i j li lj q => ?_, fun n ob q => ?_, sc⟩
  · rw [kA] at li lj
    rw [km] at q
    exact R.inj i j li lj q
  · rw [kA] at q
    have r := R.at_ n ob q
    rw [km]
    cases ob with
    | frz x => exact RV.keeps k x _ r
    | lst ws => obtain ⟨vs, h1, h2⟩ := r; exact ⟨vs, hp n _ ⟨_, q, rfl⟩ h1, h2.keeps k⟩
    | dct ks ws => obtain ⟨kvs, h1, h2, h3⟩ := r; exact ⟨kvs, hp n _ ⟨_, q, rfl⟩ h1, h2, h3.keeps k⟩
    | ins _ _ => exact r.elim
    | dcn ks ws => obtain ⟨kvs, h1, h2, h3, h4, h5⟩ := r; exact ⟨kvs, hp n _ ⟨_, q, rfl⟩ h1, h2, h3, RVs.keeps k _ _ h4, h5.keeps k⟩
theorem np_fresh (R : Rep K T M) (hd : M.H d = none) : NP M d := fun n l q => by
  obtain ⟨u, e, _⟩ := R.live_kind l
  rw [q, hd] at e
  cases e
theorem opened (R : Rep K T M) (hd : M.H d = none) (ho : Plain o) : Rep K T (M.open d o) ∧ Ext0 M (M.open d o) ∧ Keeps (K := K) M (M.open d o) := by
  have e0 : Ext0 M (M.open d o) := ⟨Nat.le_refl _, fun _ _ => rfl, fun _ _ h => h, fun n h ⟨o, e, _⟩ => absurd (List.getElem?_eq_some_iff.mp e).1 (Nat.not_lt.mpr h),
    fun a u h _ => (upd_ne (ne_of_none h hd)).trans h, fun a h => by
      show upd M.H d o a ≠ none
      unfold upd
      split
      · intro z; cases z
      · exact h, fun a h => (List.mem_cons.mp h).elim (fun z => .inr (z ▸ hd)) .inl⟩
  have k : Keeps (K := K) M (M.open d o) := ⟨fun a xs h => e0.sqT R h, fun a s h => s.ext e0 h, fun a u h s => e0.keep a u h s, Nat.le_refl _, fun _ _ => rfl⟩
  refine ⟨R.keeps k rfl rfl (fun n u _ h => (upd_ne (ne_of_none h hd)).trans h) fun a ha => ?_, e0, k⟩
  rcases List.mem_cons.mp ha with e | ha
  · subst e
    exact ⟨⟨o, upd_same, ho.1, ho.2⟩, fun n l => np_fresh R hd n l⟩
  · obtain ⟨⟨u, h1, h2⟩, h3⟩ := R.sc a ha
    exact ⟨⟨u, (upd_ne (ne_of_none h1 hd)).trans h1, h2⟩, h3⟩
/-- what is in the making is changed -/
theorem written (R : Rep K T M) (hd : d ∈ M.S) (ho : Plain o) : Rep K T (M.put d o) ∧ Keeps (K := K) M (M.put d o) := by
  obtain ⟨⟨u, hu, n1, n2⟩, np⟩ := R.sc d hd
  have k : Keeps (K := K) M (M.put d o) := by
    refine ⟨fun a xs h => ?_, fun a s h => s, fun a u h s => (upd_ne (fun z : a = d => s.2 (by rw [z]; exact hd))).trans h, Nat.le_refl _, fun _ _ => rfl⟩
    rcases h with h | h
    · have hne : a ≠ d := fun z => by
        subst z
        exact rd_tup h hu n1 n2
      rcases h with h | ⟨q, h⟩
      · exact .inl (.inl ((upd_ne hne).trans h))
      · exact .inl (.inr ⟨q, (upd_ne hne).trans h⟩)
    · exact .inr h
  refine ⟨R.keeps k rfl rfl (fun n u l h => (upd_ne (np n l)).trans h) fun a ha => ?_, k⟩
  obtain ⟨⟨u, h1, h2⟩, h3⟩ := R.sc a ha
  by_cases q : a = d
  · subst q
    exact ⟨⟨o, upd_same, ho.1, ho.2⟩, h3⟩
  · exact ⟨⟨u, (upd_ne q).trans h1, h2⟩, h3⟩
theorem put_ext0 (e : Ext0 M0 M) (hd : d ∈ M0.S ∨ M0.H d = none) : Ext0 M0 (M.put d o) := ⟨e.len, e.same, e.fz, e.new, fun a u h s => (upd_ne (fun z : a = d => hd.elim (fun y => s.2 (by rw [z]; exact y)) (ne_of_none h · z))).trans (e.keep a u h s), fun a h => by
  show upd M.H d o a ≠ none
  unfold upd
  split
  · intro z; cases z
  · exact e.there a h, e.scr⟩
/-- when it is made -/
theorem closed (R0 : Rep K T M0) (hd : M0.H d = none) (R : Rep K T M) (e : Ext0 M0 M) (hS : M.S = d :: M0.S) (ks : ∀ a, a ∈ M0.S → M.H a = M0.H a) : Rep K T (M.close M0.S) ∧ Ext M0 (M.close M0.S) ∧ Keeps (K := K) M (M.close M0.S) ∧ Sep (M.close M0.S) d := by
  have nd : d ∉ M0.S := fun z => by
    obtain ⟨⟨u, h, _⟩, _⟩ := R0.sc d z
    rw [hd] at h
    cases h
  have k : Keeps (K := K) M (M.close M0.S) := ⟨fun a xs h => h, fun a s h => ⟨s.1, fun z => s.2 (by rw [hS]; exact List.mem_cons_of_mem _ z)⟩, fun a u h s => h, Nat.le_refl _, fun _ _ => rfl⟩
  exact ⟨R.keeps k rfl rfl (fun n u _ h => h) fun a ha => R.sc a (by rw [hS]; exact List.mem_cons_of_mem _ ha), ⟨⟨e.len, e.same, e.fz, e.new, e.keep, e.there, fun a h => .inl h⟩, rfl, ks⟩, k, ⟨(R.sc d (by rw [hS]; simp)).2, nd⟩⟩
/-- a comprehension that makes the list at d: Mb ahead of it, M' at a moment -/
structure CI (K : PySem.W.Frag) (T : Tb) (Mb : Mem) (d : Addr) (B : Hs) (M' : Mem) (L' : Hs) (acc : List D) (us : List V) : Prop where
  eA : M'.A = B ++ L'
  rep : Rep K T M'
  sS : M'.S = d :: Mb.S
  e0 : Ext0 Mb M'
  at_ : M'.H d = some (.lst us)
  rv : RVs K T M' acc us
  ks : ∀ a, a ∈ Mb.S → M'.H a = Mb.H a
theorem CI.next {Mb M' : Mem} {B L' L2 : Hs} {acc : List D} {us : List V} (c : CI K T Mb d B M' L' acc us) {M2 : Mem} (eA : M2.A = B ++ L2) (R : Rep K T M2) (e : Ext M' M2) : CI K T Mb d B M2 L2 acc us :=
  ⟨eA, R, e.sq.trans c.sS, c.e0.trans e.toExt0, (e.ks d (by rw [c.sS]; simp)).trans c.at_, RVs.ext c.rep e acc us c.rv, fun a h => (e.ks a (by rw [c.sS]; exact List.mem_cons_of_mem _ h)).trans (c.ks a h)⟩
theorem plain_lst (us : List V) : Plain (.lst us) := ⟨(fun _ z => by cases z), (fun _ _ z => by cases z)⟩
theorem CI.put {Mb M' : Mem} {B L' : Hs} {acc : List D} {us : List V} (c : CI K T Mb d B M' L' acc us) (R0 : Rep K T Mb) (hd : Mb.H d = none) {y : D} {v : V} (r : RV K T M' y v) : CI K T Mb d B (M'.put d (.lst (us ++ [v]))) L' (acc ++ [y]) (us ++ [v]) ∧ Keeps (K := K) M' (M'.put d (.lst (us ++ [v]))) := by
  obtain ⟨R, k⟩ := written c.rep (d := d) (by rw [c.sS]; simp) (plain_lst (us ++ [v]))
  refine ⟨⟨c.eA, R, c.sS, put_ext0 c.e0 (.inr hd), upd_same, ?_, fun a h => ?_⟩, k⟩
  · exact (RVs.keeps k acc us c.rv).append ⟨v, [], rfl, RV.keeps k y v r, rfl⟩
  · have : a ≠ d := fun z => by
      subst z
      obtain ⟨⟨u, e, _⟩, _⟩ := R0.sc a h
      rw [hd] at e
      cases e
    exact (upd_ne this).trans (c.ks a h)
/-- THE TURNS of a comprehension -/
theorem comp_loop {J : It} {xs : List D} {B : Hs} {Mw Mb : Mem} (wk : Wk K T J xs B Mw) (R0 : Rep K T Mb) (hd : Mb.H d = none) {g : SG} {is vs : List Nat} {c : ST} {e : SE} {ρw : Sl} {σw : L2.St} {Qd : Hp → Prop}
    (hw : ∀ σ2, Stay is σw σ2 → L2.wipe σ2 vs = σw) (hMw : d ∈ Mw.S ∨ Mw.H d = none) (P : List D → Hs → Prop) {acc0 : List D} {L0 : Hs} {us0 : List V} {M0 : Mem} (c0 : CI K T Mb d B M0 L0 acc0 us0) (w0 : Ext0 Mw M0) (rs0 : RS K T M0 ρw σw)
    (hok : ∃ ys L9, compGo g c e B ρw xs acc0 L0 = .ok ys L9 ∧ P ys L9) (fin : ∀ M' L' acc us, CI K T Mb d B M' L' acc us → Ext0 Mw M' → P acc L' → Qd M'.H) :
    ∃ W : Nat → Nat → Hp → Prop, (∃ m, W 0 m M0.H) ∧ ∀ i m H, W i m H → (J.stop i H ∧ Qd H) ∨ (J.go i H ∧ ∃ Nx : Hp → Prop, (∀ H', Nx H' → ∃ m', m' < m ∧ W (i + 1) m' H') ∧
      ∀ x H', J.yld i H x H' → rG K T g is x σw H' fun σ2 H2 => L2.wipe σ2 vs = σw ∧ rT K T c σ2 H2 fun b H3 => if b = true then rE K T e σ2 H3 fun y H4 => ∃ acc, H4 d = some (.lst acc) ∧ acc.length < sizeLine ∧ Nx (upd H4 d (.lst (acc ++ [y]))) else Nx H3) := by
  obtain ⟨Y, w, hy⟩ := wk
  let Pv : Nat → Hp → Prop := fun i H => ∃ M' L' acc us, M'.H = H ∧ CI K T Mb d B M' L' acc us ∧ Ext0 Mw M' ∧ RS K T M' ρw σw ∧ ∃ ys L9, compGo g c e B ρw (xs.drop i) acc L' = .ok ys L9 ∧ P ys L9
  refine ⟨fun i m H => m = xs.length - i ∧ i ≤ xs.length ∧ Pv i H, ⟨xs.length, by simp, Nat.zero_le _, M0, L0, acc0, us0, rfl, c0, w0, rs0, hok⟩, ?_⟩
  rintro i m H ⟨rfl, hi, M', L', acc, us, rfl, ci, ew, rs, ys, L9, q, hP⟩
  have gAt : At K T B Mw M'.H := ⟨M', L', rfl, ci.eA, ci.rep, ew⟩
  by_cases hlt : i < xs.length
  · refine .inr ⟨w.goes i M'.H hlt gAt, Pv (i + 1), fun H' p' => ⟨xs.length - (i + 1), by omega, rfl, hlt, p'⟩, fun v H' y => ?_⟩
    obtain ⟨M2, rfl, a2, R2, x2, rv⟩ := hy i v H' M' L' _ (w.yields i M'.H v H' hlt gAt y) ci.eA ci.rep ew (List.getElem?_eq_getElem hlt)
    rw [List.drop_eq_getElem_cons hlt] at q
    have c2 := ci.next (a2.trans ci.eA) R2 x2
    refine ⟨M2, B, L', ρw, .d xs[i], ⟨rfl, c2.eA, R2, rs.ext ci.rep x2⟩, rv, ?_⟩
    have q : (g (.d xs[i]) B ρw L').bind _ = _ := q
    cases eg : g (.d xs[i]) B ρw L' with
    | exc _ _ _ => rw [eg] at q; cases q
    | bad => rw [eg] at q; cases q
    | ok ρ1 L3 =>
      rw [eg] at q
      intro M3 a3 R3 x3 σ2 rs2 st
      refine ⟨hw σ2 st, M3, B, L3, ρ1, ⟨rfl, a3, R3, rs2⟩, ?_⟩
      have q : (c B ρ1 L3).bind _ = _ := q
      cases ec : c B ρ1 L3 with
      | exc _ _ _ => rw [ec] at q; cases q
      | bad => rw [ec] at q; cases q
      | ok k L4 =>
        rw [ec] at q
        intro M4 a4 R4 x4
        have c4 := (c2.next a3 R3 x3).next a4 R4 x4
        have x24 := (x2.trans x3).trans x4
        cases k with
        | false =>
          refine iteF ?_
          exact ⟨M4, L4, acc, us, rfl, c4, ew.trans x24.toExt0, rs.ext ci.rep x24, ys, L9, q, hP⟩
        | true =>
          refine iteT ?_
          refine ⟨M4, B, L4, ρ1, ⟨rfl, a4, R4, rs2.ext R3 x4⟩, ?_⟩
          have q : (e B ρ1 L4).bind _ = _ := q
          cases ee : e B ρ1 L4 with
          | exc _ _ _ => rw [ee] at q; cases q
          | bad => rw [ee] at q; cases q
          | ok w5 L5 =>
            rw [ee] at q
            intro M5 a5 R5 x5 v5 rw5
            have q : (ownR B L5 w5).bind _ = _ := q
            unfold ownR at q
            cases eo : own B L5 w5 with
            | none => rw [eo] at q; cases q
            | some z =>
              obtain ⟨y6, L6⟩ := z
              rw [eo] at q
              obtain ⟨M6, a6, h6, R6, x6, rv6⟩ := own_ok R5 a5 eo rw5
              have c6 := (c4.next a5 R5 x5).next a6 R6 x6
              have x26 := (x24.trans x5).trans x6
              have q : (guardR (decide (acc.length < sizeL)) L6).bind _ = _ := q
              cases eg2 : decide (acc.length < sizeL) with
              | false => rw [eg2] at q; cases q
              | true =>
                rw [eg2] at q
                obtain ⟨c7, k7⟩ := c6.put R0 hd rv6
                refine ⟨us, by rw [← h6]; exact c6.at_, by rw [← c6.rv.length, ← sizeL_eq]; exact of_decide_eq_true eg2, _, L6, _, _, ?_, c7, ?_, (rs.ext ci.rep x26).keeps k7, ys, L9, q, hP⟩
                · show upd M6.H d _ = upd M5.H d _
                  rw [h6]
                · exact put_ext0 (ew.trans x26.toExt0) hMw
  · have e : i = xs.length := by omega
    subst e
    rw [List.drop_length] at q
    cases q
    exact .inl ⟨w.stops M'.H gAt, fin M' _ _ us ci ew hP⟩
end
theorem je_comp {elt tg iter : Expr} {ifs : List Expr} {scope : Scope} {own : List (Str × Nat)} {pos : Pos} {it : SI} {g : SG} {is : List Nat} {c : ST} {e : SE} (hc : X.calm = true) (hN : X.N.Nodup) (hi : JI X T tg iter it) (ok : BlkOk X.N X.env.scope scope own)
    (hg : ∀ (s : Shared) (H : Hp) (C : Addr) (cl : List (Str × Addr)) (fp : List Addr), JG (X.blk s H scope (compEnvC scope cl C X.env) fp) T tg g is) (ht : ∀ (s : Shared) (H : Hp) (C : Addr) (cl : List (Str × Addr)) (fp : List Addr), JTs (X.blk s H scope (compEnvC scope cl C X.env) fp) T ifs c)
    (he : ∀ (s : Shared) (H : Hp) (C : Addr) (cl : List (Str × Addr)) (fp : List Addr), JE (X.blk s H scope (compEnvC scope cl C X.env) fp) T elt e) (his : ∀ i ∈ is, i ∈ own.map (·.2) := by decide) (hs : ∀ x, foldedSetIterable iter X.env x = pure x := by intro _; rfl) :
    JE X T (.ListComp elt [⟨tg, iter, ifs, 0⟩] scope pos) (eComp it g c e (own.map (·.2))) := PE.weak (pe_lc hc hN hi ok hg ht he hs) fun σ H Q h => by
  obtain ⟨M, B, L, ρ, p, h⟩ := h
  refine ⟨M, B, L, ρ, p, (post.bind h).mono fun xs L1 M1 eA R x q J wk d hd => ?_⟩
  obtain ⟨R2, e2, k2⟩ := opened R hd (plain_lst [])
  cases ec : compGo g c e B (Ev.wipe ρ (own.map (·.2))) xs [] L1 with
  | exc _ _ _ => rw [ec] at q; exact q.elim
  | bad => rw [ec] at q; exact q.elim
  | ok ys L9 =>
    rw [ec] at q
    refine comp_loop (Mb := M1) (M0 := M1.open d (.lst [])) wk R hd (fun σ2 st => wipe_stay st his) (.inr hd) (fun ys' L' => ys' = ys ∧ L' = L9) (acc0 := []) (us0 := []) ⟨eA, R2, rfl, e2, upd_same, rfl, fun a ha => ?_⟩ e2 (((p.rs.ext p.rep x).keeps k2).wipe _) ⟨ys, L9, ec, rfl, rfl⟩ ?_
    · obtain ⟨⟨u, e1, _⟩, _⟩ := R.sc a ha
      exact upd_ne (ne_of_none e1 hd)
    · rintro M' L' acc us ci _ ⟨rfl, rfl⟩
      obtain ⟨R', E', k', s'⟩ := closed R hd ci.rep ci.e0 ci.sS ci.ks
      exact q (M'.close M1.S) ci.eA R' E' (.ref d) ⟨d, us, rfl, s', ci.at_, RVs.keeps k' _ _ ci.rv⟩
theorem js_setComp {i : Nat} {y : Str} {py : Pos} {elt tg iter : Expr} {ifs : List Expr} {scope : Scope} {own : List (Str × Nat)} {pos spos : Pos} {it : SI} {g : SG} {is : List Nat} {c : ST} {e : SE} (hc : X.calm = true) (hN : X.N.Nodup)
    (hsw : swapsWith (.ListComp elt [⟨tg, iter, ifs, 0⟩] scope pos) (some (.Name y py)) spos.line X.env = pure true) (hi : JI X T tg iter it) (ok : BlkOk X.N X.env.scope scope own)
    (hg : ∀ (s : Shared) (H : Hp) (C : Addr) (cl : List (Str × Addr)) (fp : List Addr), JG (X.blk s H scope (compEnvC scope cl C X.env) fp) T tg g is) (ht : ∀ (s : Shared) (H : Hp) (C : Addr) (cl : List (Str × Addr)) (fp : List Addr), JTs (X.blk s H scope (compEnvC scope cl C X.env) fp) T ifs c)
    (he : ∀ (s : Shared) (H : Hp) (C : Addr) (cl : List (Str × Addr)) (fp : List Addr), JE (X.blk s H scope (compEnvC scope cl C X.env) fp) T elt e) (his : ∀ i ∈ is, i ∈ own.map (·.2) := by decide) (hy : X.N[i]? = some y := by rfl) (hyl : X.env.scope.names.lookup y = some .local := by rfl) (hs : ∀ x, foldedSetIterable iter X.env x = pure x := by intro _; rfl) :
    JS X T (.Assign [.Name y py] (.ListComp elt [⟨tg, iter, ifs, 0⟩] scope pos) spos) (sAsg (eComp it g c e (own.map (·.2))) (gVar i)) := PS.weak (ps_setLc hc hN hy hyl hsw hi ok hg ht he hs) fun Dn σ H h => by
  obtain ⟨M, B, L, ρ, p, h⟩ := h
  have h := post.st h
  unfold eComp at h
  refine ⟨M, B, L, ρ, p, (post.bind h).mono fun xs L1 M1 eA R x q J wk d hd => ?_⟩
  obtain ⟨R2, e2, k2⟩ := opened R hd (plain_lst [])
  cases ec : compGo g c e B (Ev.wipe ρ (own.map (·.2))) xs [] L1 with
  | exc _ _ _ => rw [ec] at q; exact q.elim
  | bad => rw [ec] at q; exact q.elim
  | ok ys L9 =>
    rw [ec] at q
    refine comp_loop (Mb := M1) (M0 := M1.open d (.lst [])) wk R hd (fun σ2 st => wipe_stay st his) (.inr hd) (fun ys' L' => ys' = ys ∧ L' = L9) (acc0 := []) (us0 := []) ⟨eA, R2, rfl, e2, upd_same, rfl, fun a ha => ?_⟩ e2 (((p.rs.ext p.rep x).keeps k2).wipe _) ⟨ys, L9, ec, rfl, rfl⟩ ?_
    · obtain ⟨⟨u, e1, _⟩, _⟩ := R.sc a ha
      exact upd_ne (ne_of_none e1 hd)
    · rintro M' L' acc us ci _ ⟨rfl, rfl⟩
      obtain ⟨R', E', k', s'⟩ := closed R hd ci.rep ci.e0 ci.sS ci.ks
      have rl : RW X.K T (M'.close M1.S) (.d (.lst acc)) (.ref d) := ⟨d, us, rfl, s', ci.at_, RVs.keeps k' _ _ ci.rv⟩
      have q2 := q (M'.close M1.S) ci.eA R' E'
      exact (((post.st q2).here ci.eA R').ext_next ci.eA R' ((p.rs.ext p.rep (x.trans E')).set rl i) : Dn.nx _ _)
/-- two fors -/
theorem comp_loop2 {K : PySem.W.Frag} {d : Addr} {J : It} {xs : List D} {B : Hs} {Mb : Mem} (wk : Wk K T J xs B Mb) (R0 : Rep K T Mb) (hd : Mb.H d = none) {g g1 : SG} {is is1 vs vs1 : List Nat} {c c1 : ST} {it1 : SI} {e : SE} {ρw : Sl} {σw : L2.St} {Qd : Hp → Prop}
    (hw : ∀ σ2, Stay is σw σ2 → L2.wipe σ2 vs = σw) (hw1 : ∀ i ∈ is1, i ∈ vs1) (P : List D → Hs → Prop) {acc0 : List D} {L0 : Hs} {us0 : List V} {M0 : Mem} (c0 : CI K T Mb d B M0 L0 acc0 us0) (rs0 : RS K T M0 ρw σw)
    (hok : ∃ ys L9, compGo2 g c it1 g1 c1 e B ρw vs1 xs acc0 L0 = .ok ys L9 ∧ P ys L9) (fin : ∀ M' L' acc us, CI K T Mb d B M' L' acc us → P acc L' → Qd M'.H) :
    ∃ W : Nat → Nat → Hp → Prop, (∃ m, W 0 m M0.H) ∧ ∀ i m H, W i m H → (J.stop i H ∧ Qd H) ∨ (J.go i H ∧ ∃ Nx : Hp → Prop, (∀ H', Nx H' → ∃ m', m' < m ∧ W (i + 1) m' H') ∧
      ∀ x H', J.yld i H x H' → rG K T g is x σw H' fun σ2 H2 => L2.wipe σ2 vs = σw ∧ rT K T c σ2 H2 fun b H3 => if b = true then rI K T it1 σ2 H3 fun J1 H4 => ∃ W1 : Nat → Nat → Hp → Prop, (∃ m, W1 0 m H4) ∧ ∀ j k H, W1 j k H →
        (J1.stop j H ∧ Nx H) ∨ (J1.go j H ∧ ∃ Nx1 : Hp → Prop, (∀ H', Nx1 H' → ∃ k', k' < k ∧ W1 (j + 1) k' H') ∧ ∀ x H', J1.yld j H x H' → rG K T g1 is1 x (L2.wipe σ2 vs1) H' fun σ3 H5 => L2.wipe σ3 vs1 = L2.wipe σ2 vs1 ∧ rT K T c1 σ3 H5 fun b H6 =>
          if b = true then rE K T e σ3 H6 fun y H7 => ∃ acc, H7 d = some (.lst acc) ∧ acc.length < sizeLine ∧ Nx1 (upd H7 d (.lst (acc ++ [y]))) else Nx1 H6) else Nx H3) := by
  obtain ⟨Y, w, hy⟩ := wk
  let Pv : Nat → Hp → Prop := fun i H => ∃ M' L' acc us, M'.H = H ∧ CI K T Mb d B M' L' acc us ∧ RS K T M' ρw σw ∧ ∃ ys L9, compGo2 g c it1 g1 c1 e B ρw vs1 (xs.drop i) acc L' = .ok ys L9 ∧ P ys L9
  refine ⟨fun i m H => m = xs.length - i ∧ i ≤ xs.length ∧ Pv i H, ⟨xs.length, by simp, Nat.zero_le _, M0, L0, acc0, us0, rfl, c0, rs0, hok⟩, ?_⟩
  rintro i m H ⟨rfl, hi, M', L', acc, us, rfl, ci, rs, ys, L9, q, hP⟩
  have gAt : At K T B Mb M'.H := ⟨M', L', rfl, ci.eA, ci.rep, ci.e0⟩
  by_cases hlt : i < xs.length
  · refine .inr ⟨w.goes i M'.H hlt gAt, Pv (i + 1), fun H' p' => ⟨xs.length - (i + 1), by omega, rfl, hlt, p'⟩, fun v H' y => ?_⟩
    obtain ⟨M2, rfl, a2, R2, x2, rv⟩ := hy i v H' M' L' _ (w.yields i M'.H v H' hlt gAt y) ci.eA ci.rep ci.e0 (List.getElem?_eq_getElem hlt)
    rw [List.drop_eq_getElem_cons hlt] at q
    have c2 := ci.next (a2.trans ci.eA) R2 x2
    refine ⟨M2, B, L', ρw, .d xs[i], ⟨rfl, c2.eA, R2, rs.ext ci.rep x2⟩, rv, ?_⟩
    have q : (g (.d xs[i]) B ρw L').bind _ = _ := q
    cases eg : g (.d xs[i]) B ρw L' with
    | exc _ _ _ => rw [eg] at q; cases q
    | bad => rw [eg] at q; cases q
    | ok ρ1 L3 =>
      rw [eg] at q
      intro M3 a3 R3 x3 σ2 rs2 st
      refine ⟨hw σ2 st, M3, B, L3, ρ1, ⟨rfl, a3, R3, rs2⟩, ?_⟩
      have q : (c B ρ1 L3).bind _ = _ := q
      cases ec : c B ρ1 L3 with
      | exc _ _ _ => rw [ec] at q; cases q
      | bad => rw [ec] at q; cases q
      | ok k L4 =>
        rw [ec] at q
        intro M4 a4 R4 x4
        have c4 := (c2.next a3 R3 x3).next a4 R4 x4
        have x24 := (x2.trans x3).trans x4
        cases k with
        | false =>
          refine iteF ?_
          exact ⟨M4, L4, acc, us, rfl, c4, rs.ext ci.rep x24, ys, L9, q, hP⟩
        | true =>
          refine iteT ?_
          refine ⟨M4, B, L4, ρ1, ⟨rfl, a4, R4, rs2.ext R3 x4⟩, ?_⟩
          have q : (it1 B ρ1 L4).bind _ = _ := q
          cases ei : it1 B ρ1 L4 with
          | exc _ _ _ => rw [ei] at q; cases q
          | bad => rw [ei] at q; cases q
          | ok zs L5 =>
            rw [ei] at q
            intro M5 a5 R5 x5 J1 wk1
            have c5 := c4.next a5 R5 x5
            have x25 := x24.trans x5
            have q : (compGo g1 c1 e B (Ev.wipe ρ1 vs1) zs acc L5).bind _ = _ := q
            cases eq : compGo g1 c1 e B (Ev.wipe ρ1 vs1) zs acc L5 with
            | exc _ _ _ => rw [eq] at q; cases q
            | bad => rw [eq] at q; cases q
            | ok acc6 L6 =>
              rw [eq] at q
              have rsI : RS K T M5 ρ1 σ2 := rs2.ext R3 (x4.trans x5)
              -- the outer slots are kept by a copy of them through the inner turns
              exact comp_loop (Mb := Mb) (Mw := M5) (M0 := M5) wk1 R0 hd (fun σ3 st => wipe_stay st hw1) (.inl (by rw [c5.sS]; simp)) (fun a L' => a = acc6 ∧ L' = L6) c5 (Ext0.refl M5) (rsI.wipe vs1) ⟨acc6, L6, eq, rfl, rfl⟩
                fun M7 L7 acc7 us7 c7 e7 hp7 => by
                  obtain ⟨rfl, rfl⟩ := hp7
                  exact ⟨M7, L7, acc7, us7, rfl, c7, (rs.ext ci.rep x25).ext0 R5 e7, ys, L9, q, hP⟩
  · have e : i = xs.length := by omega
    subst e
    rw [List.drop_length] at q
    cases q
    exact .inl ⟨w.stops M'.H gAt, fin M' _ _ us ci hP⟩
theorem je_comp2 {elt tg iter tg1 iter1 : Expr} {ifs ifs1 : List Expr} {scope : Scope} {own : List (Str × Nat)} {vs1 : List Nat} {pos : Pos} {it it1 : SI} {g g1 : SG} {is is1 : List Nat} {c c1 : ST} {e : SE} (hc : X.calm = true) (hN : X.N.Nodup) (hi : JI X T tg iter it) (ok : BlkOk X.N X.env.scope scope own)
    (hg : ∀ (s : Shared) (H : Hp) (C : Addr) (cl : List (Str × Addr)) (fp : List Addr), JG (X.blk s H scope (compEnvC scope cl C X.env) fp) T tg g is) (ht : ∀ (s : Shared) (H : Hp) (C : Addr) (cl : List (Str × Addr)) (fp : List Addr), JTs (X.blk s H scope (compEnvC scope cl C X.env) fp) T ifs c)
    (hi1 : ∀ (s : Shared) (H : Hp) (C : Addr) (cl : List (Str × Addr)) (fp : List Addr), JI (X.blk s H scope (compEnvC scope cl C X.env) fp) T tg1 iter1 it1)
    (hg1 : ∀ (s : Shared) (H : Hp) (C : Addr) (cl : List (Str × Addr)) (fp : List Addr), JG (X.blk s H scope (compEnvC scope cl C X.env) fp) T tg1 g1 is1) (ht1 : ∀ (s : Shared) (H : Hp) (C : Addr) (cl : List (Str × Addr)) (fp : List Addr), JTs (X.blk s H scope (compEnvC scope cl C X.env) fp) T ifs1 c1)
    (he : ∀ (s : Shared) (H : Hp) (C : Addr) (cl : List (Str × Addr)) (fp : List Addr), JE (X.blk s H scope (compEnvC scope cl C X.env) fp) T elt e) (hv : ∀ i ∈ vs1, i ∈ own.map (·.2) := by decide) (his : ∀ i ∈ is, i ∈ own.map (·.2) := by decide) (his1 : ∀ i ∈ is1, i ∈ vs1 := by decide)
    (hs : ∀ x, foldedSetIterable iter X.env x = pure x := by intro _; rfl) (hs1 : ∀ env x, foldedSetIterable iter1 env x = pure x := by intro _ _; rfl) :
    JE X T (.ListComp elt [⟨tg, iter, ifs, 0⟩, ⟨tg1, iter1, ifs1, 0⟩] scope pos) (eComp2 it g c it1 g1 c1 e (own.map (·.2)) vs1) := PE.weak (pe_lc2 hc hN hi ok hv hg ht hi1 hg1 ht1 he hs hs1) fun σ H Q h => by
  obtain ⟨M, B, L, ρ, p, h⟩ := h
  refine ⟨M, B, L, ρ, p, (post.bind h).mono fun xs L1 M1 eA R x q J wk d hd => ?_⟩
  obtain ⟨R2, e2, k2⟩ := opened R hd (plain_lst [])
  cases ec : compGo2 g c it1 g1 c1 e B (Ev.wipe ρ (own.map (·.2))) vs1 xs [] L1 with
  | exc _ _ _ => rw [ec] at q; exact q.elim
  | bad => rw [ec] at q; exact q.elim
  | ok ys L9 =>
    rw [ec] at q
    refine comp_loop2 (Mb := M1) (M0 := M1.open d (.lst [])) wk R hd (fun σ2 st => wipe_stay st his) his1 (fun ys' L' => ys' = ys ∧ L' = L9) (acc0 := []) (us0 := []) ⟨eA, R2, rfl, e2, upd_same, rfl, fun a ha => ?_⟩ (((p.rs.ext p.rep x).keeps k2).wipe _) ⟨ys, L9, ec, rfl, rfl⟩ ?_
    · obtain ⟨⟨u, e1, _⟩, _⟩ := R.sc a ha
      exact upd_ne (ne_of_none e1 hd)
    · rintro M' L' acc us ci ⟨rfl, rfl⟩
      obtain ⟨R', E', k', s'⟩ := closed R hd ci.rep ci.e0 ci.sS ci.ks
      exact q (M'.close M1.S) ci.eA R' E' (.ref d) ⟨d, us, rfl, s', ci.at_, RVs.keeps k' _ _ ci.rv⟩
theorem js_setComp2 {i : Nat} {y : Str} {py : Pos} {elt tg iter tg1 iter1 : Expr} {ifs ifs1 : List Expr} {scope : Scope} {own : List (Str × Nat)} {vs1 : List Nat} {pos spos : Pos} {it it1 : SI} {g g1 : SG} {is is1 : List Nat} {c c1 : ST} {e : SE} (hc : X.calm = true) (hN : X.N.Nodup)
    (hsw : swapsWith (.ListComp elt [⟨tg, iter, ifs, 0⟩, ⟨tg1, iter1, ifs1, 0⟩] scope pos) (some (.Name y py)) spos.line X.env = pure true) (hi : JI X T tg iter it) (ok : BlkOk X.N X.env.scope scope own)
    (hg : ∀ (s : Shared) (H : Hp) (C : Addr) (cl : List (Str × Addr)) (fp : List Addr), JG (X.blk s H scope (compEnvC scope cl C X.env) fp) T tg g is) (ht : ∀ (s : Shared) (H : Hp) (C : Addr) (cl : List (Str × Addr)) (fp : List Addr), JTs (X.blk s H scope (compEnvC scope cl C X.env) fp) T ifs c)
    (hi1 : ∀ (s : Shared) (H : Hp) (C : Addr) (cl : List (Str × Addr)) (fp : List Addr), JI (X.blk s H scope (compEnvC scope cl C X.env) fp) T tg1 iter1 it1)
    (hg1 : ∀ (s : Shared) (H : Hp) (C : Addr) (cl : List (Str × Addr)) (fp : List Addr), JG (X.blk s H scope (compEnvC scope cl C X.env) fp) T tg1 g1 is1) (ht1 : ∀ (s : Shared) (H : Hp) (C : Addr) (cl : List (Str × Addr)) (fp : List Addr), JTs (X.blk s H scope (compEnvC scope cl C X.env) fp) T ifs1 c1)
    (he : ∀ (s : Shared) (H : Hp) (C : Addr) (cl : List (Str × Addr)) (fp : List Addr), JE (X.blk s H scope (compEnvC scope cl C X.env) fp) T elt e) (hv : ∀ i ∈ vs1, i ∈ own.map (·.2) := by decide) (his : ∀ i ∈ is, i ∈ own.map (·.2) := by decide) (his1 : ∀ i ∈ is1, i ∈ vs1 := by decide) (hy : X.N[i]? = some y := by rfl) (hyl : X.env.scope.names.lookup y = some .local := by rfl)
    (hs : ∀ x, foldedSetIterable iter X.env x = pure x := by intro _; rfl) (hs1 : ∀ env x, foldedSetIterable iter1 env x = pure x := by intro _ _; rfl) :
    JS X T (.Assign [.Name y py] (.ListComp elt [⟨tg, iter, ifs, 0⟩, ⟨tg1, iter1, ifs1, 0⟩] scope pos) spos) (sAsg (eComp2 it g c it1 g1 c1 e (own.map (·.2)) vs1) (gVar i)) := PS.weak (ps_setLc2 hc hN hy hyl hsw hi ok hv hg ht hi1 hg1 ht1 he hs hs1) fun Dn σ H h => by
  obtain ⟨M, B, L, ρ, p, h⟩ := h
  have h := post.st h
  unfold eComp2 at h
  refine ⟨M, B, L, ρ, p, (post.bind h).mono fun xs L1 M1 eA R x q J wk d hd => ?_⟩
  obtain ⟨R2, e2, k2⟩ := opened R hd (plain_lst [])
  cases ec : compGo2 g c it1 g1 c1 e B (Ev.wipe ρ (own.map (·.2))) vs1 xs [] L1 with
  | exc _ _ _ => rw [ec] at q; exact q.elim
  | bad => rw [ec] at q; exact q.elim
  | ok ys L9 =>
    rw [ec] at q
    refine comp_loop2 (Mb := M1) (M0 := M1.open d (.lst [])) wk R hd (fun σ2 st => wipe_stay st his) his1 (fun ys' L' => ys' = ys ∧ L' = L9) (acc0 := []) (us0 := []) ⟨eA, R2, rfl, e2, upd_same, rfl, fun a ha => ?_⟩ (((p.rs.ext p.rep x).keeps k2).wipe _) ⟨ys, L9, ec, rfl, rfl⟩ ?_
    · obtain ⟨⟨u, e1, _⟩, _⟩ := R.sc a ha
      exact upd_ne (ne_of_none e1 hd)
    · rintro M' L' acc us ci ⟨rfl, rfl⟩
      obtain ⟨R', E', k', s'⟩ := closed R hd ci.rep ci.e0 ci.sS ci.ks
      have rl : RW X.K T (M'.close M1.S) (.d (.lst acc)) (.ref d) := ⟨d, us, rfl, s', ci.at_, RVs.keeps k' _ _ ci.rv⟩
      have q2 := q (M'.close M1.S) ci.eA R' E'
      exact (((post.st q2).here ci.eA R').ext_next ci.eA R' ((p.rs.ext p.rep (x.trans E')).set rl i) : Dn.nx _ _)
end
end Ev

set_option Elab.async false
set_option linter.all false
set_option maxRecDepth 100000
set_option maxHeartbeats 4000000
set_option autoImplicit false
/-! EvT: tuple * 0, tuple * 1. -/
namespace Ev
open PySem PySem.Spec PyProof.Rows L2
theorem tuple_mulOne (l : Addr) (items : Array Value) (n : Nat) (dd : Option Addr) (sl : Array (Option Value)) (u : Tok) :
    Meets (Builtin.«tuple.__mul__» ⟨[.ref l, .int 1 u], []⟩) (fun _ R s => s.heap.get? l = some { cls := .type "tuple", dict := dd, data := .seq items n, slots := sl } ∧ R (.ok (.ret (Value.ref l))) s) :=
  .of_wp fun prog w A R s h => by
    obtain ⟨hp, g, d, tk, os⟩ := s
    obtain ⟨hl, h⟩ := h
    have f1 := AutoSeq1.idx_int
    have c1 : (items.isEmpty || ((1 : Int) == 1)) = true := by simp
    wp_walk using wpAny_loadPart' hl
    repeat (first
      | (refine wpAny_ite_false (decide_eq_false (by decide)) ?_; wp_walk using wpAny_loadPart' hl)
      | (refine wpAny_ite_true (decide_eq_true c1) ?_; wp_walk using wpAny_loadPart' hl))
    exact ⟨_, rfl, h⟩
theorem tuple_mulNul (l : Addr) (items : Array Value) (n : Nat) (dd : Option Addr) (sl : Array (Option Value)) (u : Tok) (hi : items.isEmpty = false) :
    Meets (Builtin.«tuple.__mul__» ⟨[.ref l, .int 0 u], []⟩) (fun _ R s => s.heap.get? l = some { cls := .type "tuple", dict := dd, data := .seq items n, slots := sl } ∧
      R (.ok (.ret (Value.ref s.heap.objs.size))) { s with heap := s.heap.push { cls := Value.type "tuple", data := Data.seq #[] }, toks := s.toks }) :=
  .of_wp fun prog w A R s h => by
    obtain ⟨hp, g, d, tk, os⟩ := s
    obtain ⟨hl, h⟩ := h
    have f1 := AutoSeq1.idx_int
    have c1 : (items.isEmpty || ((0 : Int) == 1)) = false := by rw [hi]; rfl
    wp_walk using wpAny_loadPart' hl
    repeat (first
      | (refine wpAny_ite_false (decide_eq_false (by decide)) ?_; wp_walk using wpAny_loadPart' hl)
      | (refine wpAny_ite_false (decide_eq_false (by rw [c1]; exact Bool.false_ne_true)) ?_; wp_walk using wpAny_loadPart' hl)
      | (refine wpAny_ite_true (decide_eq_true (by rfl)) ?_; wp_walk using wpAny_loadPart' hl))
    exact ⟨_, rfl, h⟩
/-- tuple * 0, tuple * 1 -/
def rRep01 (K : PySem.W.Frag) : R2 := fun x y H Q => ∃ l k xs, x = .ref l ∧ y = .int k ∧ SqT K H l xs ∧ xs ≠ [] ∧ ((k = 1 ∧ Q (.ref l) H) ∨ (k = 0 ∧ ∀ p, H p = none → Q (.ref p) (upd H p (.tup []))))
theorem op_rep01 {X : Cx} : OpR X (binaryOp .Mult) (rRep01 X.K) := by
  intro pins s σ H x y v u Q I rx ry h
  obtain ⟨l, k, xs, rfl, rfl, hT, hne, q⟩ := h
  cases rx
  obtain ⟨t, rfl⟩ := ry
  obtain ⟨its, r, ⟨⟨cls, dd, data, sl⟩, ho, hc, n, hd⟩, hs⟩ := I.tuple hT
  simp only at hc hd
  subst hc hd
  have hle : its.length = xs.length := r.length.symm
  have hn : its ≠ [] := fun e => hne (by
    rw [e] at hle
    exact List.eq_nil_of_length_eq_zero hle.symm)
  have hi : its.toArray.isEmpty = false := by
    cases its with
    | nil => exact absurd rfl hn
    | cons a b => rfl
  rcases q with ⟨rfl, q⟩ | ⟨rfl, q⟩
  · refine wpAny_binaryOp_repeat_ref (T := "tuple") (U := "int") (by decide) ⟨_, ho, rfl⟩ (fun s' => typeIs_int s' 1 t) noFill_tuple_mul F.fills_int_mul F.slot_int_rmul repeat_tuple F.slot_int_index.lookup
      (call_meets F.slot_int_rmul (typeIs_int s 1 t) F.entry_int_rmul (F.args_int_rmul_2 _ _) (int_rmul_tuple 1 t l its.toArray n dd sl)
        ⟨ho, rfl, ⟨_, ho, rfl⟩, call_meets F.slot_tuple_mul ⟨_, ho, rfl⟩ F.entry_tuple_mul (F.args_tuple_mul_2 _ _) (tuple_mulOne l its.toArray n dd sl t) ⟨ho, ?_⟩⟩)
    exact ⟨.ref l, H, I, rfl, q⟩
  · refine wpAny_binaryOp_repeat_ref (T := "tuple") (U := "int") (by decide) ⟨_, ho, rfl⟩ (fun s' => typeIs_int s' 0 t) noFill_tuple_mul F.fills_int_mul F.slot_int_rmul repeat_tuple F.slot_int_index.lookup
      (call_meets F.slot_int_rmul (typeIs_int s 0 t) F.entry_int_rmul (F.args_int_rmul_2 _ _) (int_rmul_tuple 0 t l its.toArray n dd sl)
        ⟨ho, rfl, ⟨_, ho, rfl⟩, call_meets F.slot_tuple_mul ⟨_, ho, rfl⟩ F.entry_tuple_mul (F.args_tuple_mul_2 _ _) (tuple_mulNul l its.toArray n dd sl t hi) ⟨ho, ?_⟩⟩)
    refine ⟨.ref s.heap.objs.size, _, I.laid (t' := s.toks) (o := .tup []) (fun b ob q => Heap.get?_push_of_some _ q) (Nat.le_refl _) ?_, rfl, q _ (I.hok.fresh (Nat.le_refl _))⟩
    exact ⟨Nat.zero_le _, [], .nil, IsTup.new _ _⟩
end Ev

set_option Elab.async false
set_option linter.all false
set_option maxRecDepth 100000
set_option maxHeartbeats 4000000
set_option autoImplicit false
/-! EvT2: t[::-1], text * int, repr(bool). -/
namespace Ev
open PySem PySem.Spec PyProof.Rows L2
theorem range_pick {α : Type} : ∀ l : List α, (List.range l.length).filterMap (fun k => l[k]?) = l
  | [] => rfl
  | x :: l => by
    rw [List.length_cons, List.range_succ_eq_map, List.filterMap_cons, List.filterMap_map]
    show x :: (List.range l.length).filterMap (fun k => l[k]?) = x :: l
    rw [range_pick l]
theorem fm_congr {α β : Type} {f g : α → Option β} : ∀ l : List α, (∀ x ∈ l, f x = g x) → l.filterMap f = l.filterMap g
  | [], _ => rfl
  | x :: l, h => by
    rw [List.filterMap_cons, List.filterMap_cons, h x List.mem_cons_self, fm_congr l fun y hy => h y (List.mem_cons_of_mem _ hy)]
theorem rev_pick (xs : Array Value) : ((List.range xs.size).filterMap fun (k : Nat) => xs[((xs.size : Int) - 1 + (k : Int) * (-1)).toNat]?) = xs.toList.reverse := by
  have h := range_pick xs.toList.reverse
  rw [List.length_reverse, Array.length_toList] at h
  refine (fm_congr _ fun k hk => ?_).trans h
  have hk := List.mem_range.mp hk
  rw [List.getElem?_reverse (by rw [Array.length_toList]; exact hk), Array.length_toList, Array.getElem?_toList]
  congr 1
  omega
section
variable {prog : Program} {w : World} {A : Around} {E : Value → Shared → Prop} {s : Shared}
theorem sliceApplied_rev {sl : Addr} {u : Tok} {n : Nat} {Q : Int × Int × Nat → Shared → Prop} (hs : s.heap.IsSliceOf sl .none .none (.int (-1) u)) (h : Q ((n : Int) - 1, -1, n) s) : wpAny (model prog w) A (Builtin.Slice.sliceApplied (.ref sl) (pure (n : Int))) Q E s := by
  obtain ⟨os, hos, hcs, hds⟩ := id hs
  unfold Builtin.Slice.sliceApplied Builtin.Slice.sliceFields
  refine wpAny_bind (wpAny_bind (wpAny_field hos hds (x := .none) rfl (wpAny_bind (wpAny_field hos hds (x := .none) rfl (wpAny_bind (wpAny_field hos hds (x := .int (-1) u) rfl (wpAny_pure ?_)))))))
  refine wpAny_bind (slicePart_int ?_)
  show wpAny _ _ (if ((-1 : Int) == 0) = true then _ else _) _ _ s
  rw [if_neg (by decide)]
  refine wpAny_bind (slicePart_none (wpAny_bind (slicePart_none (wpAny_bind (wpAny_pure ?_)))))
  show wpAny _ _ (match Builtin.Slice.sliceAdjust none none (-1) (n : Int) with | (lo, hi) => pure (lo, (-1 : Int), Builtin.Slice.slicePlaces lo hi (-1))) _ _ s
  have e1 : Builtin.Slice.sliceAdjust none none (-1) (n : Int) = ((n : Int) - 1, -1) := rfl
  rw [e1]
  have e2 : Builtin.Slice.slicePlaces ((n : Int) - 1) (-1) (-1) = n := by
    unfold Builtin.Slice.slicePlaces
    simp
    split <;> omega
  show wpAny _ _ (pure ((n : Int) - 1, (-1 : Int), Builtin.Slice.slicePlaces ((n : Int) - 1) (-1) (-1))) _ _ s
  rw [e2]
  exact wpAny_pure h
theorem getItem_tuple_rev {t sl : Addr} {items : Array Value} {u : Tok} {Q : Value → Shared → Prop} (ht : IsTup s.heap t items) (hs : s.heap.IsSliceOf sl .none .none (.int (-1) u))
    (h : Q (.ref s.heap.objs.size) { s with heap := s.heap.push { cls := .type "tuple", data := .seq items.toList.reverse.toArray } }) (hsz : items.size ≤ sizeLine) : wpAny (model prog w) A (getItem (.ref t) (.ref sl)) Q E s := by
  have htake : sizeOk (.seq items.toList.reverse.toArray) := by
    show items.toList.reverse.toArray.size ≤ sizeLine
    rw [List.size_toArray, List.length_reverse, Array.length_toList]
    exact hsz
  obtain ⟨os, hos, hcs, hds⟩ := id hs
  have hTs : s.TypeIs (.ref sl) "slice" := ⟨os, hos, hcs⟩
  unfold getItem
  try with_reducible refine wpAny_holding ?_
  first | refine wpAny_bind (wpAny_pure ?_) | skip
  refine wpAny_bind (wpAny_sequenceKey ht.typeIs (by decide) ?_)
  refine wpAny_bind (wpAny_callSpecial?_slot (name := Str.ofString "__getitem__") ht.typeIs PyProof.Rows.slot_tuple_getitem
    (wpAny_call_entry PyProof.Rows.slot_tuple_getitem ht.typeIs entry_tuple_getitem ?_ (args_tuple_getitem _ _)))
  show wpAny _ _ (Builtin.Tuple.tupleItemsOf (.ref t) >>= _) _ _ s
  refine wpAny_bind (tupleItemsOf_ ht ?_)
  refine wpAny_bind (wpAny_typeOf hTs ?_)
  rw [if_pos (by decide)]
  refine wpAny_bind (sliceApplied_rev hs ?_)
  show wpAny _ _ (if (((items.size : Int) - 1) == 0 && (-1 : Int) == 1 && items.size == items.size) = true then _ else _) _ _ s
  rw [if_neg (by rw [show ((-1 : Int) == 1) = false from rfl, Bool.and_false, Bool.false_and]; exact Bool.false_ne_true), rev_pick]
  first
    | exact wpAny_bind (m := Builtin.Tuple.tupleExact _) (wpAny_newObj_type (wpAny_pure ⟨_, rfl, wpAny_pure h⟩) htake)
    | exact wpAny_bind (m := Builtin.Tuple.tupleExact _) (wpAny_newObj_type (wpAny_bind (wpAny_pure (wpAny_pure ⟨_, rfl, wpAny_pure h⟩))) htake)
    | exact wpAny_bind (wpAny_bind (m := Builtin.Tuple.tupleExact _) (wpAny_newObj_type (wpAny_pure (wpAny_pure ⟨_, rfl, wpAny_pure h⟩)) htake))
    | exact wpAny_bind (wpAny_bind (m := Builtin.Tuple.tupleExact _) (wpAny_newObj_type (wpAny_pure ⟨_, rfl, wpAny_pure h⟩) htake))
end
section
variable {X : Cx}
/-- xs[::-1], a list or a tuple -/
def tRevA (K : PySem.W.Frag) (te : TE) : TE := fun σ H Q => te σ H fun x H1 => (∃ a xs, x = .ref a ∧ SqL K H1 a xs ∧ ∀ p, H1 p = none → Q (.ref p) (upd H1 p (.lst xs.reverse))) ∨ (∃ a xs, x = .ref a ∧ SqT K H1 a xs ∧ ∀ p, H1 p = none → Q (.ref p) (upd H1 p (.tup xs.reverse)))
theorem pe_revA {e : Expr} {te : TE} {k : Nat} {p1 p2 p3 pos : Pos} (he : PE X e te) : PE X (.Subscript e (.Slice none none (some (.UnaryOp .USub (.Constant (.int 1) k p1) p2)) p3) pos) (tRevA X.K te) := by
  refine ⟨fun pins s σ H Q I h => ?_⟩
  refine Subscript_ (thn (he.run pins s σ H _ I h) fun v s1 ⟨x, H1, I1, r1, q1⟩ => ?_)
  have hst : PO X (some (.UnaryOp .USub (.Constant (.int 1) k p1) p2)) (tPart (tUn (rU fun i => .int (-i)) (tC (.int 1)))) := po_some (pe_un un_neg pe_int)
  refine wpAny_Slice (thn (po_none.run pins s1 σ H1 (fun o H2 => o = none ∧ H2 = H1) I1 ⟨rfl, rfl⟩) fun vl s2 ⟨l, H2, I2, pl, el, e2⟩ => ?_)
  subst el e2
  refine thn (po_none.run pins s2 σ H2 (fun o H3 => o = none ∧ H3 = H2) I2 ⟨rfl, rfl⟩) fun vu s3 ⟨u, H3, I3, pu, eu, e3⟩ => ?_
  subst eu e3
  refine thn (hst.run pins s3 σ H3 (fun o H4 => o = some (-1) ∧ H4 = H3) I3 ⟨1, rfl, -1, rfl, rfl, rfl⟩) fun vs s4 ⟨o, H4, I4, ps, eo, e4⟩ => ?_
  subst eo e4
  have I5 : Inv X pins σ H4 { s4 with heap := s4.heap.push { cls := .type "slice", data := .fields #[vl, vu, vs] } } := I4.kept (t' := s4.toks) fun b ob q => Heap.get?_push_of_some _ q
  rcases q1 with ⟨a, xs, ex, hx, q⟩ | ⟨a, xs, ex, hx, q⟩
  · subst ex
    cases r1
    obtain ⟨its, r, ht, hz⟩ := I5.list hx
    have hlen := r.length
    show wpAny (model X.prog X.w) X.A (subscriptTail e (.Slice none none (some (.UnaryOp .USub (.Constant (.int 1) k p1) p2)) p3) (.ref a) (.ref s4.heap.objs.size)) (EP X pins σ Q) X.xe { s4 with heap := s4.heap.push { cls := .type "slice", data := .fields #[vl, vu, vs] } }
    refine tail_any (ops := [.ref a, .ref s4.heap.objs.size]) ht.isList.typeIs (PySem.slot_list_getitem.lookup) ?_ (by with_unfolding_all rfl)
    refine wpAny_getItem_list_slice ht.isList (Heap.IsSliceOf.new _ vl vu vs) pl pu ps (by decide) ?_ (by rw [List.size_toArray]; omega)
    rw [PySem.W.krv_pick]
    refine ⟨.ref _, _, I5.laid (t' := s4.toks) (o := .lst xs.reverse) (fun b ob q => Heap.get?_push_of_some _ q) (Nat.le_refl _) ?_, rfl, q _ (I5.hok.fresh (Nat.le_refl _))⟩
    exact ⟨by rw [List.length_reverse]; exact hz, _, 0, r.reverse, Heap.get?_push_size _ rfl⟩
  · subst ex
    cases r1
    obtain ⟨its, r, ht, hz⟩ := I5.tuple hx
    have hlen := r.length
    show wpAny (model X.prog X.w) X.A (subscriptTail e (.Slice none none (some (.UnaryOp .USub (.Constant (.int 1) k p1) p2)) p3) (.ref a) (.ref s4.heap.objs.size)) (EP X pins σ Q) X.xe { s4 with heap := s4.heap.push { cls := .type "slice", data := .fields #[vl, vu, vs] } }
    refine tail_any (ops := [.ref a, .ref s4.heap.objs.size]) ht.typeIs (PyProof.Rows.slot_tuple_getitem.lookup) ?_ (by with_unfolding_all rfl)
    cases pl
    cases pu
    cases ps with
    | int _ u =>
      refine getItem_tuple_rev ht (Heap.IsSliceOf.new _ _ _ _) ?_ (by rw [List.size_toArray]; omega)
      refine ⟨.ref _, _, I5.laid (t' := s4.toks) (o := .tup xs.reverse) (fun b ob q => Heap.get?_push_of_some _ q) (Nat.le_refl _) ?_, rfl, q _ (I5.hok.fresh (Nat.le_refl _))⟩
      exact ⟨by rw [List.length_reverse]; exact hz, _, r.reverse, IsTup.new _ _⟩
/-- text * int -/
theorem foldl_cps (s : List Nat) : ∀ (n : Nat) (acc : List Nat), (List.replicate n s.toArray).foldl (· ++ ·) acc.toArray = (acc ++ (List.replicate n s).flatten).toArray
  | 0, acc => by simp
  | n + 1, acc => by
    rw [List.replicate_succ, List.foldl_cons, List.replicate_succ, List.flatten_cons, ← List.append_assoc, ← foldl_cps s n (acc ++ s)]
    congr 1
    simp
theorem op_strmul : OpR X (binaryOp .Mult) (fun x y H Q => ∃ (s : List Nat) (k : Int), x = .str ⟨s.toArray⟩ ∧ y = .int k ∧ 0 ≤ k ∧ k ≤ 1000 ∧ s.length ≤ 1000 ∧ Q (.str ⟨(List.replicate k.toNat s).flatten.toArray⟩) H) := by
  intro pins st σ H x y v u Q I rx ry h
  obtain ⟨s, k, rfl, rfl, h0, h1, h2, q⟩ := h
  obtain ⟨t, rfl⟩ := rx
  obtain ⟨t', rfl⟩ := ry
  have hl : (⟨s.toArray⟩ : Str).length = s.length := by show s.toArray.size = _; simp
  have hm : s.length * k.toNat ≤ 1000 * 1000 := Nat.mul_le_mul h2 (by omega)
  refine P.mul_str (by rw [decide_eq_false (by omega), decide_eq_false (by omega)]; rfl) (fun h3 _ => ?_) (fun _ _ => ?_) ?_
  · rw [hl]
    have : (1000 : Int) ≤ (2 ^ 63 - 1) / k := by
      rw [Int.le_ediv_iff_mul_le (by omega)]
      omega
    omega
  · rw [hl]
    unfold Builtin.Str.tooLong
    exact decide_eq_false (by rw [sizeLine_eq]; omega)
  · by_cases k0 : k < 1
    · rw [if_pos k0]
      have : k = 0 := by omega
      subst this
      exact ⟨by decide, .str ⟨#[]⟩, H, I.tok _, ⟨_, rfl⟩, q⟩
    · rw [if_neg k0]
      by_cases k1 : (k == 1 || (⟨s.toArray⟩ : Str).length == 0) = true
      · rw [if_pos k1]
        have e : (List.replicate k.toNat s).flatten = s := by
          rw [Bool.or_eq_true, beq_iff_eq, beq_iff_eq, hl] at k1
          rcases k1 with k1 | k1
          · subst k1
            show (List.replicate 1 s).flatten = s
            rw [List.replicate_succ, List.replicate_zero, List.flatten_cons, List.flatten_nil, List.append_nil]
          · have : s = [] := List.eq_nil_of_length_eq_zero k1
            subst this
            induction k.toNat with
            | zero => rfl
            | succ n ih => rw [List.replicate_succ, List.flatten_cons, ih]; rfl
        rw [e] at q
        exact ⟨.str _, H, I, ⟨t, rfl⟩, q⟩
      · rw [if_neg k1]
        have e := foldl_cps s k.toNat []
        rw [List.nil_append] at e
        refine ⟨?_, .str _, H, I.tok _, ⟨_, rfl⟩, ?_⟩
        · show (List.foldl (· ++ ·) #[] (List.replicate k.toNat s.toArray)).size ≤ sizeLine
          rw [e, List.size_toArray, PyProof.Rows.lm_len_rep_flat, sizeLine_eq]
          have : k.toNat * s.length ≤ 1000 * 1000 := Nat.mul_le_mul (by omega) h2
          omega
        · show Q (.str ⟨List.foldl (· ++ ·) #[] (List.replicate k.toNat s.toArray)⟩) H
          rw [e]
          exact q
def trueS : List Nat := [84, 114, 117, 101]
def falseS : List Nat := [70, 97, 108, 115, 101]
theorem call_repr_bool : CallR X (.builtin "repr") (fun xs H Q => ∃ b : Bool, xs = [.bl b] ∧ Q (.str ⟨(if b = true then trueS else falseS).toArray⟩) H) := by
  intro pins s σ H xs us Q I r h
  obtain ⟨b, rfl, q⟩ := h
  obtain ⟨u, rfl, hu⟩ := r.one
  rw [show u = Value.bool b from hu]
  cases b with
  | true => exact P.repr_of_bool ⟨.str ⟨trueS.toArray⟩, H, I.tok _, ⟨s.toks, by rw [show (Str.ofString "True") = (⟨trueS.toArray⟩ : Str) by decide]; rfl⟩, q⟩
  | false => exact P.repr_of_bool ⟨.str ⟨falseS.toArray⟩, H, I.tok _, ⟨s.toks, by rw [show (Str.ofString "False") = (⟨falseS.toArray⟩ : Str) by decide]; rfl⟩, q⟩
end
end Ev

set_option Elab.async false
set_option linter.all false
set_option maxRecDepth 100000
set_option maxHeartbeats 1000000
set_option autoImplicit false
/-! EvO: operators and calls by data. -/
namespace Ev
open PySem PySem.Spec PyProof.Rows L2
section
variable {X : Cx} {T : Tb} {K : PySem.W.Frag} {M : Mem} {x : V}
/-- only lists and dicts are views of what may change -/
theorem DV.rv {p : D} (h : DV K T M p x) (h1 : ∀ xs, p ≠ .lst xs) (h2 : ∀ ks xs, p ≠ .dct ks xs) : RV K T M p x := by
  rcases h with h | ⟨xs, _, _, e, _⟩ | ⟨ks, xs, _, _, e, _⟩
  · exact h
  · exact absurd e (h1 xs)
  · exact absurd e (h2 ks xs)
theorem DV.int {i : Int} (h : DV K T M (.int i) x) : x = .int i := h.rv (fun _ z => by cases z) (fun _ _ z => by cases z)
theorem DV.str {s : List Nat} (h : DV K T M (.str s) x) : x = .str ⟨s.toArray⟩ := h.rv (fun _ z => by cases z) (fun _ _ z => by cases z)
theorem DV.bl {b : Bool} (h : DV K T M (.bl b) x) : x = .bl b := h.rv (fun _ z => by cases z) (fun _ _ z => by cases z)
theorem DV.non (h : DV K T M .non x) : x = .non := h.rv (fun _ z => by cases z) (fun _ _ z => by cases z)
theorem DV.tup {xs : List D} (h : DV K T M (.tup xs) x) : ∃ a vs, x = .ref a ∧ SqT K M.H a vs ∧ RVs K T M xs vs := h.rv (fun _ z => by cases z) (fun _ _ z => by cases z)
theorem DV.scr {xs : List D} (h : DV K T M (.scr xs) x) : ∃ a vs, x = .ref a ∧ SqL K M.H a vs ∧ RVs K T M xs vs := by
  obtain ⟨a, vs, e, s, r⟩ : RV K T M (.scr xs) x := h.rv (fun _ z => by cases z) (fun _ _ z => by cases z)
  rcases s with ⟨_, l⟩ | k
  · exact ⟨a, vs, e, .inl l, r⟩
  · exact ⟨a, vs, e, .inr k, r⟩
theorem DV.lst {xs : List D} (h : DV K T M (.lst xs) x) : ∃ a vs, x = .ref a ∧ M.H a = some (.lst vs) ∧ RVs K T M xs vs := by
  rcases h with ⟨a, vs, e, _, l, r⟩ | ⟨ys, a, vs, e, e1, e2, e3⟩ | ⟨_, _, _, _, e, _⟩
  · exact ⟨a, vs, e, l, r⟩
  · cases e
    exact ⟨a, vs, e1, e2, e3⟩
  · cases e
theorem DV.dct {ks xs : List D} (h : DV K T M (.dct ks xs) x) : ∃ a kvs, x = .ref a ∧ M.H a = some (.dK kvs) ∧ ks.map keyD = kvs.map (fun p => some p.1) ∧ RVs K T M xs (kvs.map (·.2)) := by
  rcases h with ⟨a, vs, e, _, l, r⟩ | ⟨_, _, _, e, _⟩ | ⟨ks', ys, a, vs, e, e1, e2, e3⟩
  · exact ⟨a, vs, e, l, r⟩
  · cases e
  · cases e
    exact ⟨a, vs, e1, e2, e3⟩
/-- the reading of an operator by data -/
def rD (K : PySem.W.Frag) (T : Tb) (g : D → D → Option D) : R2 := fun x y H Q => ∃ M p q z, M.H = H ∧ Rep K T M ∧ DV K T M p x ∧ DV K T M q y ∧ g p q = some z ∧ ∀ M' v, M'.A = M.A → Rep K T M' → Ext M M' → RV K T M' z v → Q v M'.H
theorem ok_rD (g : D → D → Option D) : Ok2 K T g (rD K T g) := fun M p q z x y Q R d1 d2 e k => ⟨M, p, q, z, rfl, R, d1, d2, e, k⟩
abbrev OpD (X : Cx) (T : Tb) (f : Value → Value → Sem Value) (g : D → D → Option D) : Prop := OpR X f (rD X.K T g)
theorem je_bin {op : Operator} {g : D → D → Option D} {a b : Expr} {fa fb : SE} {pos : Pos} (ho : OpD X T (binaryOp op) g) (ha : JE X T a fa) (hb : JE X T b fb) : JE X T (.BinOp a op b pos) (e2 g fa fb) := je_op ho (ok_rD g) ha hb
theorem je_cmpD {op : CmpOp} {g : D → D → Option D} {a b : Expr} {fa fb : SE} {pos : Pos} (ho : OpD X T (compareOp op) g) (ha : JE X T a fa) (hb : JE X T b fb) (hm : behindInMarks op b = false := by first | exact nomark _ | rfl) : JE X T (.Compare a [op] [b] pos) (e2 g fa fb) := je_cmp ho (ok_rD g) ha hb hm
theorem jt_cmpD {op : CmpOp} {g : D → D → Option D} {a b : Expr} {fa fb : SE} {pos : Pos} (ho : OpD X T (compareOp op) g) (hg : ∀ p q z, g p q = some z → ∃ k, z = .bl k) (ha : JE X T a fa) (hb : JE X T b fb) (hm : behindInMarks op b = false := by first | exact nomark _ | rfl) : JT X T (.Compare a [op] [b] pos) (tE (e2 g fa fb)) := jt_cmp ho (ok_rD g) hg ha hb hm
theorem str_len (s : List Nat) : (⟨s.toArray⟩ : Str).length = s.length := by show s.toArray.size = _; simp
theorem str_app (s t : List Nat) : (⟨s.toArray⟩ : Str) ++ (⟨t.toArray⟩ : Str) = ⟨(s ++ t).toArray⟩ := by
  show (⟨s.toArray ++ t.toArray⟩ : Str) = _
  simp
/-- a new object, and what it stands for -/
theorem new_tup (R : Rep K T M) {xs : List D} {vs : List V} (r : RVs K T M xs vs) {Q : VK} (k : ∀ M' v, M'.A = M.A → Rep K T M' → Ext M M' → RV K T M' (.tup xs) v → Q v M'.H) : ∀ p, M.H p = none → Q (.ref p) (upd M.H p (.tup vs)) := fun p hp => by
  obtain ⟨R', E'⟩ := garb (o := .tup vs) R hp
  exact k { M with H := upd M.H p (.tup vs) } (.ref p) rfl R' E' ⟨p, vs, rfl, .inl (.inl upd_same), RVs.ext R E' xs vs r⟩
theorem new_lst (R : Rep K T M) {xs : List D} {vs : List V} (r : RVs K T M xs vs) {Q : VK} (k : ∀ M' v, M'.A = M.A → Rep K T M' → Ext M M' → RV K T M' (.lst xs) v → Q v M'.H) : ∀ p, M.H p = none → Q (.ref p) (upd M.H p (.lst vs)) := fun p hp => by
  obtain ⟨R', E'⟩ := garb (o := .lst vs) R hp
  exact k { M with H := upd M.H p (.lst vs) } (.ref p) rfl R' E' ⟨p, vs, rfl, sep_new R hp, upd_same, RVs.ext R E' xs vs r⟩
theorem opD_add : OpD X T (binaryOp .Add) opAdd := by
  intro pins s σ H x y v u Q I rx ry h
  obtain ⟨M, p, q, z, rfl, R, d1, d2, e, k⟩ := h
  cases p with
  | int i =>
    cases q with
    | int j => cases e; exact op_add pins s σ _ x y v u Q I rx ry ⟨i, j, d1.int, d2.int, k M _ rfl R (Ext.refl M) rfl⟩
    | _ => cases e
  | str a =>
    cases q with
    | str b =>
      have e : (if a.length + b.length ≤ sizeL then some (D.str (a ++ b)) else none) = some z := e
      split at e
      · rename_i hl
        cases e
        exact op_add_str pins s σ _ x y v u Q I rx ry ⟨_, _, d1.str, d2.str, by rw [str_len, str_len, ← sizeL_eq]; exact hl, k M _ rfl R (Ext.refl M) (by rw [str_app]; exact rfl)⟩
      · cases e
    | _ => cases e
  | tup xs =>
    cases q with
    | tup ys =>
      have e : (if xs.length + ys.length ≤ sizeL then some (D.tup (xs ++ ys)) else none) = some z := e
      split at e
      · rename_i hl
        cases e
        obtain ⟨a, vs, rfl, s1, r1⟩ := d1.tup
        obtain ⟨b, us, rfl, s2, r2⟩ := d2.tup
        have n1 := r1.length
        have n2 := r2.length
        refine op_catA pins s σ _ _ _ v u Q I rx ry ⟨a, b, vs, us, rfl, rfl, s1, s2, by rw [← n1, ← n2, ← sizeL_eq]; exact hl, fun h0 => ?_, fun h0 h1 => ?_, fun _ _ => new_tup R (r1.append r2) k⟩
        · subst h0
          have : xs = [] := by cases xs <;> simp_all
          subst this
          exact k M _ rfl R (Ext.refl M) ⟨b, us, rfl, s2, r2⟩
        · subst h1
          have : ys = [] := by cases ys <;> simp_all
          subst this
          exact k M _ rfl R (Ext.refl M) ⟨a, vs, rfl, s1, by rw [List.append_nil]; exact r1⟩
      · cases e
    | _ => cases e
  | lst xs =>
    cases q with
    | lst ys =>
      have e : (if xs.length + ys.length ≤ sizeL then some (D.lst (xs ++ ys)) else none) = some z := e
      split at e
      · rename_i hl
        cases e
        obtain ⟨a, vs, rfl, s1, r1⟩ := d1.lst
        obtain ⟨b, us, rfl, s2, r2⟩ := d2.lst
        exact op_cat pins s σ _ _ _ v u Q I rx ry ⟨a, b, vs, us, rfl, rfl, s1, s2, by rw [← r1.length, ← r2.length, ← sizeL_eq]; exact hl, new_lst R (r1.append r2) k⟩
      · cases e
    | _ => cases e
  | _ => cases q <;> cases e
/-- an operator of two ints -/
theorem opD_int {f : Value → Value → Sem Value} {g : D → D → Option D} {C : Int → Int → Prop} {h : Int → Int → D} {hv : Int → Int → V} (hh : ∀ M i j, RV K T M (h i j) (hv i j)) (ho : OpR X f (L2.rI C hv)) (hK : X.K = K)
    (hg : ∀ p q z, g p q = some z → ∃ i j, p = .int i ∧ q = .int j ∧ C i j ∧ z = h i j) : OpD X T f g := by
  intro pins s σ H x y v u Q I rx ry hq
  obtain ⟨M, p, q, z, rfl, R, d1, d2, e, k⟩ := hq
  obtain ⟨i, j, rfl, rfl, hc, rfl⟩ := hg p q z e
  subst hK
  exact ho pins s σ _ x y v u Q I rx ry ⟨i, j, d1.int, d2.int, hc, k M _ rfl R (Ext.refl M) (hh M i j)⟩
theorem opD_sub : OpD X T (binaryOp .Sub) opSub := by
  intro pins s σ H x y v u Q I rx ry h
  obtain ⟨M, p, q, z, rfl, R, d1, d2, e, k⟩ := h
  cases p with
  | int i =>
    cases q with
    | int j => cases e; exact op_sub pins s σ _ x y v u Q I rx ry ⟨i, j, d1.int, d2.int, k M _ rfl R (Ext.refl M) rfl⟩
    | _ => cases e
  | _ => cases q <;> cases e
theorem mulOk_ok {i j : Int} (h : mulOk i j = true) : CMul i j ∨ CMulW i j := by
  unfold mulOk at h
  rw [Bool.or_eq_true, Bool.or_eq_true, decide_eq_true_eq, decide_eq_true_eq, decide_eq_true_eq] at h
  have p : ((2 : Int) ^ 64).natAbs = 2 ^ 64 := by decide
  rcases h with (h | h) | h
  · exact .inl (.inl ⟨by omega, by omega⟩)
  · exact .inl (.inr ⟨by omega, by omega⟩)
  · exact .inr h
theorem RVs.rep {xs : List D} {vs : List V} (h : RVs K T M xs vs) : ∀ n : Nat, RVs K T M (List.replicate n xs).flatten (List.replicate n vs).flatten
  | 0 => rfl
  | n + 1 => by
    rw [List.replicate_succ, List.replicate_succ, List.flatten_cons, List.flatten_cons]
    exact h.append (RVs.rep h n)
theorem opD_mul : OpD X T (binaryOp .Mult) opMul := by
  intro pins s σ H x y v u Q I rx ry h
  obtain ⟨M, p, q, z, rfl, R, d1, d2, e, k⟩ := h
  cases p with
  | int i =>
    cases q with
    | int j =>
      have e : (if mulOk i j = true then some (D.int (i * j)) else none) = some z := e
      split at e
      · rename_i hc
        cases e
        rcases mulOk_ok hc with hc | hc
        · exact op_mul pins s σ _ x y v u Q I rx ry ⟨i, j, d1.int, d2.int, hc, k M _ rfl R (Ext.refl M) rfl⟩
        · exact op_mulW pins s σ _ x y v u Q I rx ry ⟨i, j, d1.int, d2.int, hc, k M _ rfl R (Ext.refl M) rfl⟩
      · cases e
    | _ => cases e
  | lst xs =>
    cases q with
    | int j =>
      have e : (if -(2 ^ 63) ≤ j ∧ j < 2 ^ 63 ∧ xs.length * j.toNat ≤ sizeL then some (D.lst (List.replicate j.toNat xs).flatten) else none) = some z := e
      split at e
      · rename_i hc
        cases e
        obtain ⟨a, vs, rfl, s1, r1⟩ := d1.lst
        exact op_rep pins s σ _ _ y v u Q I rx ry ⟨a, j, vs, rfl, d2.int, s1, hc.1, hc.2.1, by rw [← r1.length, ← sizeL_eq]; exact hc.2.2, new_lst R (r1.rep _) k⟩
      · cases e
    | _ => cases e
  | tup xs =>
    cases q with
    | int j =>
      have e : (if xs.isEmpty = false ∧ 0 ≤ j ∧ j ≤ 1000 ∧ xs.length ≤ 1000 then some (D.tup (List.replicate j.toNat xs).flatten) else none) = some z := e
      split at e
      · rename_i hc
        obtain ⟨h0, h1, h2, h3⟩ := hc
        cases e
        obtain ⟨a, vs, rfl, s1, r1⟩ := d1.tup
        have hv : vs ≠ [] := fun z => by
          subst z
          have := r1.length
          cases xs with
          | nil => cases h0
          | cons _ _ => cases this
        by_cases j0 : j = 0
        · subst j0
          exact op_rep01 pins s σ _ _ y v u Q I rx ry ⟨a, 0, vs, rfl, d2.int, s1, hv, .inr ⟨rfl, new_tup R (xs := []) (vs := []) rfl k⟩⟩
        · by_cases j1 : j = 1
          · subst j1
            refine op_rep01 pins s σ _ _ y v u Q I rx ry ⟨a, 1, vs, rfl, d2.int, s1, hv, .inl ⟨rfl, k M _ rfl R (Ext.refl M) ⟨a, vs, rfl, s1, ?_⟩⟩⟩
            show RVs X.K T M (List.replicate 1 xs).flatten vs
            rw [List.replicate_succ, List.replicate_zero, List.flatten_cons, List.flatten_nil, List.append_nil]
            exact r1
          · exact op_repT pins s σ _ _ y v u Q I rx ry ⟨a, j, vs, rfl, d2.int, s1, hv, by omega, h2, by rw [← r1.length]; exact h3, new_tup R (r1.rep _) k⟩
      · cases e
    | _ => cases e
  | str t =>
    cases q with
    | int j =>
      have e : (if 0 ≤ j ∧ j ≤ 1000 ∧ t.length ≤ 1000 then some (D.str (List.replicate j.toNat t).flatten) else none) = some z := e
      split at e
      · rename_i hc
        cases e
        exact op_strmul pins s σ _ x y v u Q I rx ry ⟨t, j, d1.str, d2.int, hc.1, hc.2.1, hc.2.2, k M _ rfl R (Ext.refl M) rfl⟩
      · cases e
    | _ => cases e
  | _ => cases q <;> cases e
theorem opD_fdiv : OpD X T (binaryOp .FloorDiv) opFdiv := opD_int (K := X.K) (h := fun i j => .int (i / j)) (fun _ _ _ => rfl) op_fdivW rfl fun p q z e => by
  cases p with
  | int i =>
    cases q with
    | int j =>
      have e : (if 0 < j ∧ j.natAbs.log2 < 9000 then some (D.int (i / j)) else none) = some z := e
      split at e
      · rename_i hc
        cases e
        exact ⟨i, j, rfl, rfl, hc, rfl⟩
      · cases e
    | _ => cases e
  | _ => cases q <;> cases e
theorem opD_mod : OpD X T (binaryOp .Mod) opMod := opD_int (K := X.K) (h := fun i j => .int (i % j)) (fun _ _ _ => rfl) op_mod rfl fun p q z e => by
  cases p with
  | int i =>
    cases q with
    | int j =>
      have e : (if 0 < j then some (D.int (i % j)) else none) = some z := e
      split at e
      · rename_i hc
        cases e
        exact ⟨i, j, rfl, rfl, hc, rfl⟩
      · cases e
    | _ => cases e
  | _ => cases q <;> cases e
theorem opD_pow : OpD X T (binaryOp .Pow) opPow := opD_int (K := X.K) (h := fun i j => .int (i ^ j.toNat)) (fun _ _ _ => rfl) op_pow rfl fun p q z e => by
  cases p with
  | int i =>
    cases q with
    | int j =>
      have e : (if 0 ≤ j ∧ j ≤ 1000000 ∧ i.natAbs < 2 ^ 64 then some (D.int (i ^ j.toNat)) else none) = some z := e
      split at e
      · rename_i hc
        cases e
        exact ⟨i, j, rfl, rfl, hc, rfl⟩
      · cases e
    | _ => cases e
  | _ => cases q <;> cases e

/-! ### comparisons -/
theorem opD_lt : OpD X T (compareOp .Lt) opLt := by
  intro pins s σ H x y v u Q I rx ry h
  obtain ⟨M, p, q, z, rfl, R, d1, d2, e, k⟩ := h
  cases p with
  | int i =>
    cases q with
    | int j => cases e; exact op_lt pins s σ _ x y v u Q I rx ry ⟨i, j, d1.int, d2.int, k M _ rfl R (Ext.refl M) rfl⟩
    | _ => cases e
  | str a =>
    cases q with
    | str b => cases e; exact op_lt_str pins s σ _ x y v u Q I rx ry ⟨_, _, d1.str, d2.str, k M _ rfl R (Ext.refl M) rfl⟩
    | _ => cases e
  | _ => cases q <;> cases e
theorem opD_le : OpD X T (compareOp .LtE) opLe := by
  intro pins s σ H x y v u Q I rx ry h
  obtain ⟨M, p, q, z, rfl, R, d1, d2, e, k⟩ := h
  cases p with
  | int i =>
    cases q with
    | int j => cases e; exact op_le pins s σ _ x y v u Q I rx ry ⟨i, j, d1.int, d2.int, k M _ rfl R (Ext.refl M) rfl⟩
    | _ => cases e
  | _ => cases q <;> cases e
theorem opD_gt : OpD X T (compareOp .Gt) opGt := by
  intro pins s σ H x y v u Q I rx ry h
  obtain ⟨M, p, q, z, rfl, R, d1, d2, e, k⟩ := h
  cases p with
  | int i =>
    cases q with
    | int j => cases e; exact op_gt pins s σ _ x y v u Q I rx ry ⟨i, j, d1.int, d2.int, k M _ rfl R (Ext.refl M) rfl⟩
    | _ => cases e
  | _ => cases q <;> cases e
theorem opD_ge : OpD X T (compareOp .GtE) opGe := by
  intro pins s σ H x y v u Q I rx ry h
  obtain ⟨M, p, q, z, rfl, R, d1, d2, e, k⟩ := h
  cases p with
  | int i =>
    cases q with
    | int j => cases e; exact op_ge pins s σ _ x y v u Q I rx ry ⟨i, j, d1.int, d2.int, k M _ rfl R (Ext.refl M) rfl⟩
    | _ => cases e
  | _ => cases q <;> cases e
/-! data as the library's data -/
mutual
def toPy : D → PyData
  | .bl b => .bool b
  | .int i => .int i
  | .str s => .str ⟨s.toArray⟩
  | .tup xs => .tuple (toPys xs)
  | .lst xs => .list (toPys xs)
  | _ => .none
def toPys : List D → List PyData
  | [] => []
  | x :: xs => toPy x :: toPys xs
end
theorem str_all (s : List Nat) : (⟨s.toArray⟩ : Str).cps.all (· < 0x110000) = s.all (· < 0x110000) := by simp
mutual
theorem lay_of : ∀ d : D, dOk d = true → (toPy d).canLay0 = true
  | .non, _ => rfl
  | .bl _, _ => rfl
  | .int _, _ => rfl
  | .str s, h => by
    show (⟨s.toArray⟩ : Str).cps.all (· < 0x110000) = true
    rw [str_all]
    exact h
  | .tup xs, h => by
    show PyData.canLay0 (.tuple (toPys xs)) = true
    rw [PyData.canLay0]
    exact lays_of xs h
  | .lst xs, h => by
    show PyData.canLay0 (.list (toPys xs)) = true
    rw [PyData.canLay0]
    exact lays_of xs h
  | .dct _ _, h => by cases h
  | .set _, h => by cases h
  | .obj _ _, h => by cases h
  | .fn _, h => by cases h
  | .scr _, h => by cases h
theorem lays_of : ∀ ds : List D, dOks ds = true → PyData.canLayAll0 (toPys ds) = true
  | [], _ => rfl
  | x :: xs, h => by
    have h : (dOk x && dOks xs) = true := h
    rw [Bool.and_eq_true] at h
    show (PyData.canLay0 (toPy x) && PyData.canLayAll0 (toPys xs)) = true
    rw [lay_of x h.1, lays_of xs h.2]
    rfl
end
mutual
theorem dep_of : ∀ d : D, (toPy d).depth = dep d
  | .non => rfl
  | .bl _ => rfl
  | .int _ => rfl
  | .str s => rfl
  | .tup xs => by
    show PyData.depthAll (toPys xs) + 1 = deps xs + 1
    rw [deps_of xs]
  | .lst xs => by
    show PyData.depthAll (toPys xs) + 1 = deps xs + 1
    rw [deps_of xs]
  | .dct _ _ => rfl
  | .set _ => rfl
  | .obj _ _ => rfl
  | .fn _ => rfl
  | .scr _ => rfl
theorem deps_of : ∀ ds : List D, PyData.depthAll (toPys ds) = deps ds
  | [] => rfl
  | x :: xs => by
    show max (PyData.depth (toPy x)) (PyData.depthAll (toPys xs)) = max (dep x) (deps xs)
    rw [dep_of x, deps_of xs]
end
theorem shaped_of {d : D} (h : okD d = true) : SeqAt.shaped (toPy d) = true := by
  unfold okD at h
  rw [Bool.and_eq_true] at h
  unfold SeqAt.shaped
  rw [lay_of d h.1, dep_of d, h.2]
  rfl
mutual
theorem dp_of : ∀ (d : D) (v : V), dOk d = true → RV K T M d v → Dp K M.H v (toPy d)
  | .non, v, _, h => by rw [show v = .non from h]; exact .non
  | .bl b, v, _, h => by rw [show v = .bl b from h]; exact .bl b
  | .int i, v, _, h => by rw [show v = .int i from h]; exact .int i
  | .str s, v, _, h => by rw [show v = .str ⟨s.toArray⟩ from h]; exact .str _
  | .tup xs, v, o, h => by
    obtain ⟨a, vs, rfl, s, r⟩ := h
    exact .tup s (dps_of xs vs o r)
  | .lst xs, v, o, h => by
    obtain ⟨a, vs, rfl, _, l, r⟩ := h
    exact .lst (.inl (.inl l)) (dps_of xs vs o r)
  | .dct _ _, _, h, _ => by cases h
  | .set _, _, h, _ => by cases h
  | .obj _ _, _, h, _ => by cases h
  | .fn _, _, h, _ => by cases h
  | .scr _, _, h, _ => by cases h
theorem dps_of : ∀ (ds : List D) (vs : List V), dOks ds = true → RVs K T M ds vs → DpAll K M.H vs (toPys ds)
  | [], vs, _, h => by rw [show vs = [] from h]; exact .nil
  | x :: xs, vs, o, h => by
    obtain ⟨v, r, rfl, h1, h2⟩ := h
    have o : (dOk x && dOks xs) = true := o
    rw [Bool.and_eq_true] at o
    exact .cons (dp_of x v o.1 h1) (dps_of xs r o.2 h2)
end
theorem dv_dp {d : D} {v : V} (o : okD d = true) (h : DV K T M d v) : Dp K M.H v (toPy d) := by
  have o1 : dOk d = true := by
    unfold okD at o
    rw [Bool.and_eq_true] at o
    exact o.1
  rcases h with h | ⟨xs, a, vs, rfl, rfl, e2, e3⟩ | ⟨_, _, _, _, rfl, _⟩
  · exact dp_of d v o1 h
  · exact .lst (.inl (.inl e2)) (dps_of xs vs o1 e3)
  · cases o1
theorem str_eq (s t : List Nat) : ((⟨s.toArray⟩ : Str) = ⟨t.toArray⟩) ↔ s = t := by
  constructor
  · intro h
    injection h with h
    simpa using congrArg Array.toList h
  · rintro rfl; rfl
mutual
theorem eqv_of : ∀ (d e : D), dOk d = true → dOk e = true → PyData.eqv (toPy d) (toPy e) = eqD d e
  | .str s, .str t, _, _ => by
    show ((⟨s.toArray⟩ : Str) == ⟨t.toArray⟩) = decide (s = t)
    by_cases h : s = t
    · subst h; simp
    · rw [decide_eq_false h]
      exact beq_eq_false_iff_ne.mpr fun z => h ((str_eq s t).mp z)
  | .tup xs, .tup ys, h1, h2 => by
    show PyData.eqvAll (toPys xs) (toPys ys) = eqDs xs ys
    exact eqvs_of xs ys h1 h2
  | .lst xs, .lst ys, h1, h2 => by
    show PyData.eqvAll (toPys xs) (toPys ys) = eqDs xs ys
    exact eqvs_of xs ys h1 h2
  | .non, e, _, h => by cases e <;> first | rfl | cases h
  | .bl _, e, _, h => by cases e <;> first | rfl | cases h
  | .int _, e, _, h => by cases e <;> first | rfl | cases h
  | .str _, .non, _, h => rfl
  | .str _, .bl _, _, h => rfl
  | .str _, .int _, _, h => rfl
  | .str _, .tup _, _, h => rfl
  | .str _, .lst _, _, h => rfl
  | .tup _, .non, _, h => rfl
  | .tup _, .bl _, _, h => rfl
  | .tup _, .int _, _, h => rfl
  | .tup _, .str _, _, h => rfl
  | .tup _, .lst _, _, h => rfl
  | .lst _, .non, _, h => rfl
  | .lst _, .bl _, _, h => rfl
  | .lst _, .int _, _, h => rfl
  | .lst _, .str _, _, h => rfl
  | .lst _, .tup _, _, h => rfl
  | .dct _ _, _, h, _ => by cases h
  | .set _, _, h, _ => by cases h
  | .obj _ _, _, h, _ => by cases h
  | .fn _, _, h, _ => by cases h
  | .scr _, _, h, _ => by cases h
  | _, .dct _ _, _, h => by cases h
  | _, .set _, _, h => by cases h
  | _, .obj _ _, _, h => by cases h
  | _, .fn _, _, h => by cases h
  | _, .scr _, _, h => by cases h
theorem eqvs_of : ∀ (ds es : List D), dOks ds = true → dOks es = true → PyData.eqvAll (toPys ds) (toPys es) = eqDs ds es
  | [], [], _, _ => rfl
  | [], _ :: _, _, _ => rfl
  | _ :: _, [], _, _ => rfl
  | x :: xs, y :: ys, h1, h2 => by
    have h1 : (dOk x && dOks xs) = true := h1
    have h2 : (dOk y && dOks ys) = true := h2
    rw [Bool.and_eq_true] at h1 h2
    show (PyData.eqv (toPy x) (toPy y) && PyData.eqvAll (toPys xs) (toPys ys)) = (eqD x y && eqDs xs ys)
    rw [eqv_of x y h1.1 h2.1, eqvs_of xs ys h1.2 h2.2]
end
theorem okD_dOk {d : D} (h : okD d = true) : dOk d = true := by
  unfold okD at h
  rw [Bool.and_eq_true] at h
  exact h.1
theorem eq_nilV (hu : X.A.units + 64 < cLine) {pins : List (Addr × Obj)} {s : Shared} {σ : L2.St} {H : Hp} {Q : VK} {a b : Addr} {xs : List V} (I : Inv X pins σ H s) (ha : SqL X.K H a xs) (hb : SqL X.K H b []) (q : Q (.bl xs.isEmpty) H) :
    wpAny (model X.prog X.w) X.A (compareOp .Eq (.ref a) (.ref b)) (EP X pins σ Q) X.xe s := by
  obtain ⟨its, r1, l1, _⟩ := I.list ha
  obtain ⟨its2, r2, l2, _⟩ := I.list hb
  cases r2
  show wpAny _ _ (richCompare .Eq (.ref a) (.ref b)) _ _ _
  cases xs with
  | nil =>
    cases r1
    exact SeqAt.RcAt.lists (e := fun _ => true) l1.isList l2.isList rfl (by omega) (fun j h1 _ => absurd h1 (Nat.not_lt_zero _)) _ _ _ _ ⟨.bl true, H, I, rfl, q⟩
  | cons x xs =>
    cases r1 with
    | cons c1 c2 => exact SeqAt.RcAt.lists_lengths l1.isList l2.isList rfl (by omega) _ _ _ _ ⟨.bl false, H, I, rfl, q⟩
theorem ne_nilV (hu : X.A.units + 64 < cLine) {pins : List (Addr × Obj)} {s : Shared} {σ : L2.St} {H : Hp} {Q : VK} {a b : Addr} {xs : List V} (I : Inv X pins σ H s) (ha : SqL X.K H a xs) (hb : SqL X.K H b []) (q : Q (.bl (!xs.isEmpty)) H) :
    wpAny (model X.prog X.w) X.A (compareOp .NotEq (.ref a) (.ref b)) (EP X pins σ Q) X.xe s := by
  obtain ⟨its, r1, l1, _⟩ := I.list ha
  obtain ⟨its2, r2, l2, _⟩ := I.list hb
  cases r2
  show wpAny _ _ (richCompare .NotEq (.ref a) (.ref b)) _ _ _
  cases xs with
  | nil =>
    cases r1
    exact SeqAt.RcNeAt.lists (e := fun _ => true) l1.isList l2.isList rfl (by omega) (fun j h1 _ => absurd h1 (Nat.not_lt_zero _)) _ _ _ _ ⟨.bl false, H, I, rfl, q⟩
  | cons x xs =>
    cases r1 with
    | cons c1 c2 => exact SeqAt.RcNeAt.lists_lengths l1.isList l2.isList rfl (by omega) _ _ _ _ ⟨.bl true, H, I, rfl, q⟩
theorem opD_eq (hu : X.A.units + 64 < cLine) : OpD X T (compareOp .Eq) opEq := by
  intro pins s σ H x y v u Q I rx ry h
  obtain ⟨M, p, q, z, rfl, R, d1, d2, e, k⟩ := h
  have gen : (if (okD p && okD q) = true then some (D.bl (eqD p q)) else none) = some z → wpAny (model X.prog X.w) X.A (compareOp .Eq v u) (EP X pins σ Q) X.xe s := fun e => by
    split at e
    · rename_i hc
      rw [Bool.and_eq_true] at hc
      cases e
      exact op_eqD hu pins s σ _ x y v u Q I rx ry ⟨_, _, dv_dp hc.1 d1, dv_dp hc.2 d2, shaped_of hc.1, shaped_of hc.2, by rw [eqv_of p q (okD_dOk hc.1) (okD_dOk hc.2)]; exact k M _ rfl R (Ext.refl M) rfl⟩
    · cases e
  cases p with
  | str a =>
    cases q with
    | str b =>
      cases e
      refine L2.op_eq pins s σ _ x y v u Q I rx ry ⟨by rw [d1.str, d2.str]; rfl, ?_⟩
      rw [d1.str, d2.str]
      have : decide (V.str ⟨a.toArray⟩ = V.str ⟨b.toArray⟩) = decide (a = b) := by
        by_cases h : a = b
        · subst h; simp
        · rw [decide_eq_false h]
          exact decide_eq_false fun z => h ((str_eq a b).mp (V.str.inj z))
      rw [this]
      exact k M _ rfl R (Ext.refl M) rfl
    | _ => exact gen e
  | int i =>
    cases q with
    | int j =>
      cases e
      refine L2.op_eq pins s σ _ x y v u Q I rx ry ⟨by rw [d1.int, d2.int]; rfl, ?_⟩
      rw [d1.int, d2.int]
      have : decide (V.int i = V.int j) = decide (i = j) := by simp
      rw [this]
      exact k M _ rfl R (Ext.refl M) rfl
    | _ => exact gen e
  | lst xs =>
    cases q with
    | lst ys =>
      cases ys with
      | nil =>
        cases e
        obtain ⟨a, vs, rfl, s1, r1⟩ := d1.lst
        obtain ⟨b, us, rfl, s2, r2⟩ := d2.lst
        cases (show us = [] from r2)
        obtain rfl : v = Value.ref a := rx
        obtain rfl : u = Value.ref b := ry
        refine eq_nilV hu I (SqL.of s1) (SqL.of s2) ?_
        have : vs.isEmpty = xs.isEmpty := by
          have := r1.length
          cases xs <;> cases vs <;> first | rfl | cases this
        rw [this]
        exact k M _ rfl R (Ext.refl M) rfl
      | cons _ _ => exact gen e
    | _ => exact gen e
  | _ => exact gen e
theorem opD_ne (hu : X.A.units + 64 < cLine) : OpD X T (compareOp .NotEq) opNe := by
  intro pins s σ H x y v u Q I rx ry h
  obtain ⟨M, p, q, z, rfl, R, d1, d2, e, k⟩ := h
  have gen : (if (okD p && okD q) = true then some (D.bl (!eqD p q)) else none) = some z → wpAny (model X.prog X.w) X.A (compareOp .NotEq v u) (EP X pins σ Q) X.xe s := fun e => by
    split at e
    · rename_i hc
      rw [Bool.and_eq_true] at hc
      cases e
      exact op_neD hu pins s σ _ x y v u Q I rx ry ⟨_, _, dv_dp hc.1 d1, dv_dp hc.2 d2, shaped_of hc.1, shaped_of hc.2, by rw [eqv_of p q (okD_dOk hc.1) (okD_dOk hc.2)]; exact k M _ rfl R (Ext.refl M) rfl⟩
    · cases e
  cases p with
  | str a =>
    cases q with
    | str b =>
      cases e
      refine L2.op_ne pins s σ _ x y v u Q I rx ry ⟨by rw [d1.str, d2.str]; rfl, ?_⟩
      rw [d1.str, d2.str]
      have : decide (V.str ⟨a.toArray⟩ = V.str ⟨b.toArray⟩) = decide (a = b) := by
        by_cases h : a = b
        · subst h; simp
        · rw [decide_eq_false h]
          exact decide_eq_false fun z => h ((str_eq a b).mp (V.str.inj z))
      rw [this]
      exact k M _ rfl R (Ext.refl M) rfl
    | _ => exact gen e
  | int i =>
    cases q with
    | int j =>
      cases e
      refine L2.op_ne pins s σ _ x y v u Q I rx ry ⟨by rw [d1.int, d2.int]; rfl, ?_⟩
      rw [d1.int, d2.int]
      have : decide (V.int i = V.int j) = decide (i = j) := by simp
      rw [this]
      exact k M _ rfl R (Ext.refl M) rfl
    | _ => exact gen e
  | lst xs =>
    cases q with
    | lst ys =>
      cases ys with
      | nil =>
        cases e
        obtain ⟨a, vs, rfl, s1, r1⟩ := d1.lst
        obtain ⟨b, us, rfl, s2, r2⟩ := d2.lst
        cases (show us = [] from r2)
        obtain rfl : v = Value.ref a := rx
        obtain rfl : u = Value.ref b := ry
        refine ne_nilV hu I (SqL.of s1) (SqL.of s2) ?_
        have : vs.isEmpty = xs.isEmpty := by
          have := r1.length
          cases xs <;> cases vs <;> first | rfl | cases this
        rw [this]
        exact k M _ rfl R (Ext.refl M) rfl
      | cons _ _ => exact gen e
    | _ => exact gen e
  | _ => exact gen e
end
end Ev

set_option Elab.async false
set_option linter.all false
set_option maxRecDepth 100000
set_option maxHeartbeats 1000000
set_option autoImplicit false
/-! EvB: in, calls of builtins, isinstance, indexes, slices, chains. -/
namespace Ev
open PySem PySem.Spec PyProof.Rows L2
section
variable {X : Cx} {T : Tb} {K : PySem.W.Frag} {M : Mem} {x : V}
/-! ### keys -/
theorem keyD_ok {d : D} (h : isKey d = true) : ∃ k, keyD d = some k := by
  cases d with
  | int i => exact ⟨_, rfl⟩
  | str s => exact ⟨_, rfl⟩
  | _ => cases h
theorem keyD_rv {d : D} {k : Key} {v : V} (h : keyD d = some k) (r : RV K T M d v) : v = kV k := by
  cases d with
  | int i => cases h; exact r
  | str s => cases h; exact r
  | _ => cases h
theorem keyD_dv {d : D} {k : Key} {v : V} (h : keyD d = some k) (r : DV K T M d v) : v = kV k := by
  cases d with
  | int i => cases h; exact r.int
  | str s => cases h; exact r.str
  | _ => cases h
theorem keyEq_ok {a b : D} {ka kb : Key} (ha : keyD a = some ka) (hb : keyD b = some kb) : keyEq a b = decide (ka = kb) := by
  cases a with
  | int i =>
    cases ha
    cases b with
    | int j =>
      cases hb
      show decide (i = j) = _
      by_cases h : i = j
      · subst h; simp
      · rw [decide_eq_false h, decide_eq_false fun z => h (Sum.inl.inj z)]
    | str t => cases hb; show false = _; exact (decide_eq_false fun z => by cases z).symm
    | _ => cases hb
  | str s =>
    cases ha
    cases b with
    | int j => cases hb; show false = _; exact (decide_eq_false fun z => by cases z).symm
    | str t =>
      cases hb
      show decide (s = t) = _
      by_cases h : s = t
      · subst h; simp
      · rw [decide_eq_false h, decide_eq_false fun z => h ((str_eq s t).mp (Sum.inr.inj z))]
    | _ => cases hb
  | _ => cases ha
theorem findD_ok {k : D} {kk : Key} (hk : keyD k = some kk) : ∀ {ks vs : List D} {kvs : List (Key × V)}, ks.map keyD = kvs.map (fun p => some p.1) → RVs K T M vs (kvs.map (·.2)) → (findD k ks vs = none ∧ valV kvs kk = none) ∨ ∃ d v, findD k ks vs = some d ∧ valV kvs kk = some v ∧ RV K T M d v
  | [], vs, [], _, _ => .inl ⟨by cases vs <;> rfl, rfl⟩
  | [], vs, _ :: _, e, _ => by cases e
  | _ :: _, vs, [], e, _ => by cases e
  | a :: ks, vs, (ka, va) :: kvs, e, r => by
    have e1 : keyD a = some ka := (List.cons.inj e).1
    have e2 : ks.map keyD = kvs.map (fun p => some p.1) := (List.cons.inj e).2
    cases vs with
    | nil => cases (show va :: kvs.map (·.2) = [] from r)
    | cons d ds =>
      obtain ⟨v, rr, q, h1, h2⟩ := r
      have q : va :: kvs.map (·.2) = v :: rr := q
      cases q
      have ke := keyEq_ok e1 hk
      by_cases hh : ka = kk
      · refine .inr ⟨d, va, ?_, valV_pos hh, h1⟩
        show (if keyEq a k = true then some d else findD k ks ds) = some d
        rw [ke, decide_eq_true hh, if_pos rfl]
      · rw [valV_neg (p := (ka, va)) hh]
        have : findD k (a :: ks) (d :: ds) = findD k ks ds := by
          show (if keyEq a k = true then some d else findD k ks ds) = _
          rw [ke, decide_eq_false hh, if_neg Bool.false_ne_true]
        rw [this]
        exact findD_ok hk e2 h2
/-! ### in -/
theorem any_eqv {p : D} (hp : dOk p = true) : ∀ {ys : List D}, dOks ys = true → (toPys ys).any (fun z => PyData.eqv z (toPy p)) = ys.any fun y => eqD y p
  | [], _ => rfl
  | y :: ys, h => by
    have h : (dOk y && dOks ys) = true := h
    rw [Bool.and_eq_true] at h
    show (PyData.eqv (toPy y) (toPy p) || (toPys ys).any _) = (eqD y p || ys.any _)
    rw [eqv_of y p h.1 hp, any_eqv hp h.2]
theorem opD_in (hu : X.A.units + 65 < cLine) : OpD X T (compareOp .In) opIn := by
  intro pins s σ H x y v u Q I rx ry h
  obtain ⟨M, p, q, z, rfl, R, d1, d2, e, k⟩ := h
  have fl : ∀ ys : List D, q = .lst ys → wpAny (model X.prog X.w) X.A (compareOp .In v u) (EP X pins σ Q) X.xe s := fun ys eq => by
    subst eq
    have e : (if (okD p && okD (.lst ys)) = true then some (D.bl (ys.any fun y => eqD y p)) else none) = some z := by cases p <;> exact e
    split at e
    · rename_i hc
      rw [Bool.and_eq_true] at hc
      cases e
      exact op_inD hu pins s σ _ x y v u Q I rx ry ⟨toPy p, toPys ys, dv_dp hc.1 d1, dv_dp hc.2 d2, shaped_of hc.1, shaped_of hc.2, by rw [any_eqv (okD_dOk hc.1) (okD_dOk hc.2)]; exact k M _ rfl R (Ext.refl M) rfl⟩
    · cases e
  have ft : ∀ ys : List D, q = .tup ys → wpAny (model X.prog X.w) X.A (compareOp .In v u) (EP X pins σ Q) X.xe s := fun ys eq => by
    subst eq
    have e : (if (okD p && okD (.tup ys)) = true then some (D.bl (ys.any fun y => eqD y p)) else none) = some z := by cases p <;> exact e
    split at e
    · rename_i hc
      rw [Bool.and_eq_true] at hc
      cases e
      obtain ⟨as, r1⟩ := Dp.reads I (toPy p) x v (dv_dp hc.1 d1) rx
      obtain ⟨bs, r2⟩ := Dp.reads I (.tuple (toPys ys)) y u (dv_dp hc.2 d2) ry
      refine SeqAt.in_tuple_reads r2 r1 (SeqAt.canLay_of_shaped (shaped_of hc.2)) (SeqAt.canLay_of_shaped (shaped_of hc.1)) (room_in_shaped (shaped_of hc.1) hu) ⟨.bl _, M.H, I, rfl, ?_⟩
      rw [any_eqv (okD_dOk hc.1) (okD_dOk hc.2)]
      exact k M _ rfl R (Ext.refl M) rfl
    · cases e
  have fd : ∀ ks vs : List D, q = .dct ks vs → wpAny (model X.prog X.w) X.A (compareOp .In v u) (EP X pins σ Q) X.xe s := fun ks vs eq => by
    subst eq
    have e : (if isKey p = true then some (D.bl (findD p ks vs).isSome) else none) = some z := by cases p <;> first | exact e | (rename_i l; cases l with | nil => exact e | cons _ r => cases r <;> exact e)
    split at e
    · rename_i hk
      cases e
      obtain ⟨kk, hkk⟩ := keyD_ok hk
      obtain ⟨a, kvs, rfl, hd, hks, rv⟩ := d2.dct
      obtain rfl : u = Value.ref a := ry
      have hx := keyD_dv hkk d1
      subst hx
      refine d_in (o := valV kvs kk) (by omega) I (DGet.k hd) rx fun s' I' => ⟨.bl _, M.H, I', rfl, ?_⟩
      rcases findD_ok hkk hks rv with ⟨h1, h2⟩ | ⟨d, w, h1, h2, _⟩
      · rw [h2]; rw [h1] at k; exact k M _ rfl R (Ext.refl M) rfl
      · rw [h2]; rw [h1] at k; exact k M _ rfl R (Ext.refl M) rfl
    · cases e
  cases q with
  | lst ys => exact fl ys rfl
  | tup ys => exact ft ys rfl
  | dct ks vs => exact fd ks vs rfl
  | str t =>
    cases p with
    | str a =>
      cases a with
      | nil => cases e
      | cons c r =>
        cases r with
        | nil =>
          cases e
          exact op_in_sign pins s σ _ x y v u Q I rx ry ⟨c, _, d1.str, d2.str, by
            show Q (.bl (decide (c ∈ t))) M.H
            exact k M _ rfl R (Ext.refl M) rfl⟩
        | cons _ _ => cases e
    | _ => cases e
  | _ => cases p <;> first | cases e | (rename_i l; cases l with | nil => cases e | cons _ r => cases r <;> cases e)
theorem opIn_bool : ∀ p q z, opIn p q = some z → ∃ k, z = .bl k := fun p q z e => by
  unfold opIn at e
  split at e <;> first | (split at e <;> first | (cases e; exact ⟨_, rfl⟩) | cases e) | (cases e; exact ⟨_, rfl⟩) | cases e
theorem opD_notIn (hu : X.A.units + 65 < cLine) : OpD X T (compareOp .NotIn) opNotIn := by
  intro pins s σ H x y v u Q I rx ry h
  obtain ⟨M, p, q, z0, rfl, R, d1, d2, e0, k0⟩ := h
  obtain ⟨z, b, e, ez, k⟩ : ∃ z b, opIn p q = some z ∧ z = .bl b ∧ ∀ v, v = V.bl (!b) → Q v M.H := by
    unfold opNotIn at e0
    split at e0
    · rename_i b eb
      cases e0
      exact ⟨_, b, eb, rfl, fun v hv => k0 M v rfl R (Ext.refl M) hv⟩
    · cases e0
  have fl : ∀ ys : List D, q = .lst ys → wpAny (model X.prog X.w) X.A (compareOp .NotIn v u) (EP X pins σ Q) X.xe s := fun ys eq => by
    subst eq
    have e : (if (okD p && okD (.lst ys)) = true then some (D.bl (ys.any fun y => eqD y p)) else none) = some z := by cases p <;> exact e
    split at e
    · rename_i hc
      rw [Bool.and_eq_true] at hc
      cases e
      cases ez
      exact op_notInD hu pins s σ _ x y v u Q I rx ry ⟨toPy p, toPys ys, dv_dp hc.1 d1, dv_dp hc.2 d2, shaped_of hc.1, shaped_of hc.2, by rw [any_eqv (okD_dOk hc.1) (okD_dOk hc.2)]; exact k _ rfl⟩
    · cases e
  have ft : ∀ ys : List D, q = .tup ys → wpAny (model X.prog X.w) X.A (compareOp .NotIn v u) (EP X pins σ Q) X.xe s := fun ys eq => by
    subst eq
    have e : (if (okD p && okD (.tup ys)) = true then some (D.bl (ys.any fun y => eqD y p)) else none) = some z := by cases p <;> exact e
    split at e
    · rename_i hc
      rw [Bool.and_eq_true] at hc
      cases e
      cases ez
      obtain ⟨as, r1⟩ := Dp.reads I (toPy p) x v (dv_dp hc.1 d1) rx
      obtain ⟨bs, r2⟩ := Dp.reads I (.tuple (toPys ys)) y u (dv_dp hc.2 d2) ry
      refine SeqAt.notIn_tuple_reads r2 r1 (SeqAt.canLay_of_shaped (shaped_of hc.2)) (SeqAt.canLay_of_shaped (shaped_of hc.1)) (room_in_shaped (shaped_of hc.1) hu) ⟨.bl _, M.H, I, rfl, ?_⟩
      rw [any_eqv (okD_dOk hc.1) (okD_dOk hc.2)]
      exact k _ rfl
    · cases e
  have fd : ∀ ks vs : List D, q = .dct ks vs → wpAny (model X.prog X.w) X.A (compareOp .NotIn v u) (EP X pins σ Q) X.xe s := fun ks vs eq => by
    subst eq
    have e : (if isKey p = true then some (D.bl (findD p ks vs).isSome) else none) = some z := by cases p <;> first | exact e | (rename_i l; cases l with | nil => exact e | cons _ r => cases r <;> exact e)
    split at e
    · rename_i hk
      cases e
      cases ez
      obtain ⟨kk, hkk⟩ := keyD_ok hk
      obtain ⟨a, kvs, rfl, hd, hks, rv⟩ := d2.dct
      obtain rfl : u = Value.ref a := ry
      have hx := keyD_dv hkk d1
      subst hx
      refine d_notIn (o := valV kvs kk) (by omega) I (DGet.k hd) rx fun s' I' => ⟨.bl _, M.H, I', rfl, ?_⟩
      rcases findD_ok hkk hks rv with ⟨h1, h2⟩ | ⟨d, w, h1, h2, _⟩
      · rw [h2]; rw [h1] at k; exact k _ rfl
      · rw [h2]; rw [h1] at k; exact k _ rfl
    · cases e
  cases q with
  | lst ys => exact fl ys rfl
  | tup ys => exact ft ys rfl
  | dct ks vs => exact fd ks vs rfl
  | str t =>
    cases p with
    | str a =>
      cases a with
      | nil => cases e
      | cons c r =>
        cases r with
        | nil =>
          cases e
          cases ez
          exact op_notIn_sign pins s σ _ x y v u Q I rx ry ⟨c, _, d1.str, d2.str, by
            show Q (.bl (!decide (c ∈ t))) M.H
            exact k _ rfl⟩
        | cons _ _ => cases e
    | _ => cases e
  | _ => cases p <;> first | cases e | (rename_i l; cases l with | nil => cases e | cons _ r => cases r <;> cases e)
theorem opNotIn_bool : ∀ p q z, opNotIn p q = some z → ∃ k, z = .bl k := fun p q z e => by
  unfold opNotIn at e
  split at e
  · cases e; exact ⟨_, rfl⟩
  · cases e
theorem opEq_bool : ∀ p q z, opEq p q = some z → ∃ k, z = .bl k := fun p q z e => by
  unfold opEq at e
  split at e
  · cases e; exact ⟨_, rfl⟩
  · cases e; exact ⟨_, rfl⟩
  · cases e; exact ⟨_, rfl⟩
  · split at e
    · cases e; exact ⟨_, rfl⟩
    · cases e
theorem opNe_bool : ∀ p q z, opNe p q = some z → ∃ k, z = .bl k := fun p q z e => by
  unfold opNe at e
  split at e
  · cases e; exact ⟨_, rfl⟩
  · cases e; exact ⟨_, rfl⟩
  · cases e; exact ⟨_, rfl⟩
  · split at e
    · cases e; exact ⟨_, rfl⟩
    · cases e
theorem opLt_bool : ∀ p q z, opLt p q = some z → ∃ k, z = .bl k := fun p q z e => by
  unfold opLt at e
  split at e
  · cases e; exact ⟨_, rfl⟩
  · cases e; exact ⟨_, rfl⟩
  · cases e
theorem opLe_bool : ∀ p q z, opLe p q = some z → ∃ k, z = .bl k := fun p q z e => by
  unfold opLe at e
  split at e
  · cases e; exact ⟨_, rfl⟩
  · cases e
theorem opGt_bool : ∀ p q z, opGt p q = some z → ∃ k, z = .bl k := fun p q z e => by
  unfold opGt at e
  split at e
  · cases e; exact ⟨_, rfl⟩
  · cases e
theorem opGe_bool : ∀ p q z, opGe p q = some z → ∃ k, z = .bl k := fun p q z e => by
  unfold opGe at e
  split at e
  · cases e; exact ⟨_, rfl⟩
  · cases e

/-! ### is None -/
theorem isN_ok {w : W} {v : V} (r : RW K T M w v) : decide (v = .non) = isN w := by
  cases w with
  | ref n => obtain ⟨_, rfl⟩ := r; rfl
  | d p =>
    cases p with
    | non => rw [show v = .non from r]; rfl
    | bl b => rw [show v = .bl b from r]; rfl
    | int i => rw [show v = .int i from r]; rfl
    | str s => rw [show v = .str _ from r]; rfl
    | tup xs => obtain ⟨a, vs, rfl, _⟩ := r; rfl
    | lst xs => obtain ⟨a, vs, rfl, _⟩ := r; rfl
    | scr xs => obtain ⟨a, vs, rfl, _⟩ := r; rfl
    | dct ks xs => obtain ⟨a, vs, rfl, _⟩ := r; rfl
    | set xs => exact (r : False).elim
    | obj c fs => exact (r : False).elim
    | fn i => rw [show v = .ref _ from r]; rfl
theorem je_isN {a : Expr} {f : SE} {j : Nat} {pos pos' : Pos} (ha : JE X T a f) : JE X T (.Compare a [.Is] [.Constant .none j pos'] pos) (eIsN f) := PE.weak (pe_cmp (pc_isN ha)) fun σ H Q h => by
  obtain ⟨M, B, L, ρ, p, h⟩ := h
  refine ⟨M, B, L, ρ, p, (post.bind h).mono fun w L1 M1 eA R x q v rv => ?_⟩
  dsimp only
  rw [isN_ok rv]
  exact q.here eA R _ rfl
theorem je_notN {a : Expr} {f : SE} {j : Nat} {pos pos' : Pos} (ha : JE X T a f) : JE X T (.Compare a [.IsNot] [.Constant .none j pos'] pos) (eNotN f) := PE.weak (pe_cmp (pc_notN ha)) fun σ H Q h => by
  obtain ⟨M, B, L, ρ, p, h⟩ := h
  refine ⟨M, B, L, ρ, p, (post.bind h).mono fun w L1 M1 eA R x q v rv => ?_⟩
  dsimp only
  rw [isN_ok rv]
  exact q.here eA R _ rfl
theorem jt_isN {a : Expr} {f : SE} {j : Nat} {pos pos' : Pos} (ha : JE X T a f) : JT X T (.Compare a [.Is] [.Constant .none j pos'] pos) (tE (eIsN f)) := PT.weak (pt_cmp (pc_isN ha)) fun σ H Q h => by
  obtain ⟨M, B, L, ρ, p, h⟩ := h
  refine ⟨M, B, L, ρ, p, (post.bind (post.bind h)).mono fun w L1 M1 eA R x q v rv => ?_⟩
  dsimp only
  rw [isN_ok rv]
  exact ⟨_, rfl, (q.here eA R : post X.K T M1 _ _ _).here eA R⟩
theorem jt_notN {a : Expr} {f : SE} {j : Nat} {pos pos' : Pos} (ha : JE X T a f) : JT X T (.Compare a [.IsNot] [.Constant .none j pos'] pos) (tE (eNotN f)) := PT.weak (pt_cmp (pc_notN ha)) fun σ H Q h => by
  obtain ⟨M, B, L, ρ, p, h⟩ := h
  refine ⟨M, B, L, ρ, p, (post.bind (post.bind h)).mono fun w L1 M1 eA R x q v rv => ?_⟩
  dsimp only
  rw [isN_ok rv]
  exact ⟨_, rfl, (q.here eA R : post X.K T M1 _ _ _).here eA R⟩

/-! ### calls of builtins by data -/
def rN (K : PySem.W.Frag) (T : Tb) (g : List D → Option D) : List V → Hp → VK → Prop := fun xs H Q => ∃ M ps z, M.H = H ∧ Rep K T M ∧ DVs K T M ps xs ∧ g ps = some z ∧ ∀ M' v, M'.A = M.A → Rep K T M' → Ext M M' → RV K T M' z v → Q v M'.H
abbrev CallD (X : Cx) (T : Tb) (f : Value) (g : List D → Option D) : Prop := CallR X f (rN X.K T g)
theorem post.views {B L : Hs} {β : Type} {Q : β → Hs → Mem → Prop} : ∀ {ws : List W} {vs : List V} {k : List D → Hs → Res β}, post K T M B ((vwsR B L ws).bind k) Q → Rep K T M → M.A = B ++ L → RWs K T M ws vs → ∃ ps, DVs K T M ps vs ∧ post K T M B (k ps L) Q
  | [], vs, k, h, R, eA, r => ⟨[], r, h⟩
  | w :: ws, vs, k, h, R, eA, r => by
    obtain ⟨v, rr, rfl, r1, r2⟩ := r
    have h : post K T M B (((vwR B L w).bind fun p L => (vwsR B L ws).bind fun ps L => .ok (p :: ps) L).bind k) Q := h
    cases e : vw B L w with
    | none =>
      unfold vwR at h
      rw [e] at h
      exact h.elim
    | some p =>
      unfold vwR at h
      rw [e] at h
      have h : post K T M B ((vwsR B L ws).bind fun ps L => k (p :: ps) L) Q := by
        have h : post K T M B (((vwsR B L ws).bind fun ps L => .ok (p :: ps) L).bind k) Q := h
        cases e2 : vwsR B L ws with
        | ok ps L2 => rw [e2] at h; exact h
        | exc _ _ _ => rw [e2] at h; exact h.elim
        | bad => rw [e2] at h; exact h.elim
      obtain ⟨ps, d, q⟩ := post.views h R eA r2
      exact ⟨p :: ps, ⟨v, rr, rfl, vw_dv R eA e r1, d⟩, q⟩
theorem rd_B {f : SA} {g : List D → Option D} {σ : L2.St} {H : Hp} {Q : VK} (h : rE K T (eB g f) σ H Q) : tCB (rN K T g) (rA K T f) σ H Q := by
  obtain ⟨M, B, L, ρ, p, h⟩ := h
  refine ⟨M, B, L, ρ, p, (post.bind h).mono fun ws L1 M1 eA R x q vs rvs => ?_⟩
  obtain ⟨ps, d, q1⟩ := q.views R eA rvs
  obtain ⟨z, ez, q2⟩ := q1.opt
  exact ⟨M1, ps, z, rfl, R, d, ez, fun M' v a' R' x' rv => q2 M' (a'.trans eA) R' x' v rv⟩
theorem je_B {id : String} {x : Str} {e : Expr} {es : List Expr} {f : SA} {g : List D → Option D} {p pos : Pos} (hc : CallD X T (.builtin id) g) (hm : X.mg x = none) (ha : JA X T (e :: es) f) (hg : Gl X x := by rfl) (hv : bootBuiltins x = some (.builtin id) := by decide +kernel)
    (hn : x ≠ "__name__" := by decide) (hdb : (x == ("__debug__" : Str)) = false := by decide) (he : starEach (e :: es) X.env = (false, eval e X.env) :: starEach es X.env := by rfl) (hpl : (backTo pos (starEach es X.env)).any (·.1) = false := by rfl) :
    JE X T (.Call (.Name x p) (e :: es) [] pos) (eB g f) := PE.weak (pe_callB hc hg hm hv ha hn hdb he hpl) fun σ H Q h => rd_B h
theorem je_BT {n : String} {x : Str} {e : Expr} {es : List Expr} {f : SA} {g : List D → Option D} {p pos : Pos} (hc : CallD X T (.type n) g) (hm : X.mg x = none) (ha : JA X T (e :: es) f) (hg : Gl X x := by rfl) (hv : bootBuiltins x = some (.type n) := by decide +kernel)
    (hn : x ≠ "__name__" := by decide) (hdb : (x == ("__debug__" : Str)) = false := by decide) (he : starEach (e :: es) X.env = (false, eval e X.env) :: starEach es X.env := by rfl) (hpl : (backTo pos (starEach es X.env)).any (·.1) = false := by rfl) :
    JE X T (.Call (.Name x p) (e :: es) [] pos) (eB g f) := PE.weak (pe_callTy hc hg hm hv ha hn hdb he hpl) fun σ H Q h => rd_B h
theorem DVs.one {p : D} {xs : List V} (h : DVs K T M [p] xs) : ∃ x, xs = [x] ∧ DV K T M p x := by
  obtain ⟨v, r, rfl, h1, h2⟩ := h
  rw [show r = [] from h2]
  exact ⟨v, rfl, h1⟩
theorem DVs.two {p q : D} {xs : List V} (h : DVs K T M [p, q] xs) : ∃ x y, xs = [x, y] ∧ DV K T M p x ∧ DV K T M q y := by
  obtain ⟨v, r, rfl, h1, h2⟩ := h
  obtain ⟨y, rfl, h3⟩ := DVs.one h2
  exact ⟨v, y, rfl, h1, h3⟩
theorem g1_shape {g : List D → Option D} {ps : List D} {z : D} (e : g ps = some z) (h0 : g [] = none) (h2 : ∀ a b r, g (a :: b :: r) = none) : ∃ p, ps = [p] := by
  cases ps with
  | nil => rw [h0] at e; cases e
  | cons a r =>
    cases r with
    | nil => exact ⟨a, rfl⟩
    | cons b r => rw [h2] at e; cases e
theorem call_D1 {f : Value} {g : List D → Option D} (h0 : g [] = none) (h2 : ∀ a b r, g (a :: b :: r) = none)
    (h : ∀ (pins : List (Addr × Obj)) (s : Shared) (σ : L2.St) (M : Mem) (p z : D) (x : V) (u : Value) (Q : VK), Inv X pins σ M.H s → RelV x u → Rep X.K T M → DV X.K T M p x → g [p] = some z → (∀ M' v, M'.A = M.A → Rep X.K T M' → Ext M M' → RV X.K T M' z v → Q v M'.H) → wpAny (model X.prog X.w) X.A (call f [u]) (EP X pins σ Q) X.xe s) : CallD X T f g := by
  intro pins s σ H xs us Q I r hq
  obtain ⟨M, ps, z, rfl, R, d, e, k⟩ := hq
  obtain ⟨p, rfl⟩ := g1_shape e h0 h2
  obtain ⟨x, rfl, d1⟩ := d.one
  obtain ⟨u, rfl, rx⟩ := vals1 r
  exact h pins s σ M p z x u Q I rx R d1 e k
theorem cd_abs : CallD X T (.builtin "abs") bAbs := call_D1 rfl (fun _ _ _ => by simp [bAbs]) fun pins s σ M p z x u Q I rx R d e k => by
  cases p with
  | int i => cases e; exact call_abs pins s σ _ [x] [u] Q I (.cons rx .nil) ⟨i, by rw [d.int], k M _ rfl R (Ext.refl M) rfl⟩
  | _ => cases e
theorem cd_int : CallD X T (.type "int") bInt := call_D1 rfl (fun _ _ _ => by simp [bInt]) fun pins s σ M p z x u Q I rx R d e k => by
  cases p with
  | int i => cases e; exact call_int1 pins s σ _ [x] [u] Q I (.cons rx .nil) (.inl ⟨i, by rw [d.int], k M _ rfl R (Ext.refl M) rfl⟩)
  | bl b => cases e; exact call_int1 pins s σ _ [x] [u] Q I (.cons rx .nil) (.inr ⟨b, by rw [d.bl], k M _ rfl R (Ext.refl M) rfl⟩)
  | _ => cases e
theorem cd_len : CallD X T (.builtin "len") bLen := call_D1 rfl (fun _ _ _ => by simp [bLen]) fun pins s σ M p z x u Q I rx R d e k => by
  cases p with
  | str t =>
    have e : (if t.length ≤ sizeL then some (D.int t.length) else none) = some z := e
    split at e
    · rename_i hl
      cases e
      refine call_len_str pins s σ _ [x] [u] Q I (.cons rx .nil) ⟨⟨t.toArray⟩, by rw [d.str], by rw [str_len, ← sizeL_eq]; exact hl, ?_⟩
      rw [str_len]
      exact k M _ rfl R (Ext.refl M) rfl
    · cases e
  | tup xs =>
    cases e
    obtain ⟨a, vs, rfl, s1, r1⟩ := d.tup
    exact call_len_seq pins s σ _ _ [u] Q I (.cons rx .nil) ⟨a, vs, rfl, .inr s1, by rw [← r1.length]; exact k M _ rfl R (Ext.refl M) rfl⟩
  | lst xs =>
    cases e
    obtain ⟨a, vs, rfl, s1, r1⟩ := d.lst
    exact call_len_seq pins s σ _ _ [u] Q I (.cons rx .nil) ⟨a, vs, rfl, .inl (SqL.of s1), by rw [← r1.length]; exact k M _ rfl R (Ext.refl M) rfl⟩
  | scr xs =>
    cases e
    obtain ⟨a, vs, rfl, s1, r1⟩ := d.scr
    exact call_len_seq pins s σ _ _ [u] Q I (.cons rx .nil) ⟨a, vs, rfl, .inl s1, by rw [← r1.length]; exact k M _ rfl R (Ext.refl M) rfl⟩
  | dct ks vs =>
    cases e
    obtain ⟨a, kvs, rfl, hd, hks, rv⟩ := d.dct
    obtain rfl : u = Value.ref a := rx
    refine d_len I (.inl hd) fun t s' I' => ⟨.int kvs.length, M.H, I', ⟨t, rfl⟩, ?_⟩
    have : ks.length = kvs.length := by simpa using congrArg List.length hks
    rw [← this]
    exact k M _ rfl R (Ext.refl M) rfl
  | _ => cases e
theorem cd_list : CallD X T (.type "list") bList := call_D1 rfl (fun _ _ _ => by simp [bList]) fun pins s σ M p z x u Q I rx R d e k => by
  cases p with
  | tup xs =>
    cases e
    obtain ⟨a, vs, rfl, s1, r1⟩ := d.tup
    exact call_list_of pins s σ _ _ [u] Q I (.cons rx .nil) ⟨a, vs, rfl, .inr s1, new_lst R r1 k⟩
  | lst xs =>
    cases e
    obtain ⟨a, vs, rfl, s1, r1⟩ := d.lst
    exact call_list_of pins s σ _ _ [u] Q I (.cons rx .nil) ⟨a, vs, rfl, .inl (SqL.of s1), new_lst R r1 k⟩
  | scr xs =>
    cases e
    obtain ⟨a, vs, rfl, s1, r1⟩ := d.scr
    exact call_list_of pins s σ _ _ [u] Q I (.cons rx .nil) ⟨a, vs, rfl, .inl s1, new_lst R r1 k⟩
  | _ => cases e
theorem cd_tuple : CallD X T (.type "tuple") bTuple := call_D1 rfl (fun _ _ _ => by simp [bTuple]) fun pins s σ M p z x u Q I rx R d e k => by
  cases p with
  | tup xs =>
    cases e
    obtain ⟨a, vs, rfl, s1, r1⟩ := d.tup
    exact call_tuple_of pins s σ _ _ [u] Q I (.cons rx .nil) ⟨a, vs, rfl, .inr ⟨s1, k M _ rfl R (Ext.refl M) ⟨a, vs, rfl, s1, r1⟩⟩⟩
  | lst xs =>
    cases e
    obtain ⟨a, vs, rfl, s1, r1⟩ := d.lst
    exact call_tuple_of pins s σ _ _ [u] Q I (.cons rx .nil) ⟨a, vs, rfl, .inl ⟨SqL.of s1, new_tup R r1 k⟩⟩
  | scr xs =>
    cases e
    obtain ⟨a, vs, rfl, s1, r1⟩ := d.scr
    exact call_tuple_of pins s σ _ _ [u] Q I (.cons rx .nil) ⟨a, vs, rfl, .inl ⟨s1, new_tup R r1 k⟩⟩
  | _ => cases e
theorem allB_ok : ∀ {xs : List D} {bs : List Bool} {vs : List V}, allB xs = some bs → RVs K T M xs vs → vs = bs.map V.bl
  | [], bs, vs, e, h => by cases e; exact h
  | x :: xs, bs, vs, e, h => by
    cases x with
    | bl b =>
      obtain ⟨v, r, rfl, h1, h2⟩ := h
      have e : (match allB xs with | some bs => some (b :: bs) | none => none) = some bs := e
      cases q : allB xs with
      | none => rw [q] at e; cases e
      | some cs =>
        rw [q] at e
        cases e
        rw [show v = .bl b from h1, allB_ok q h2]
        rfl
    | _ => cases e
theorem cd_all (hc : X.calm = true) : CallD X T (.builtin "all") bAll := call_D1 rfl (fun _ _ _ => by simp [bAll]) fun pins s σ M p z x u Q I rx R d e k => by
  cases p with
  | lst xs =>
    have e : (match allB xs with | some bs => some (D.bl (bs.all id)) | none => none) = some z := e
    cases q : allB xs with
    | none => rw [q] at e; cases e
    | some bs =>
      rw [q] at e
      cases e
      obtain ⟨a, vs, rfl, s1, r1⟩ := d.lst
      exact cr_all hc pins s σ _ _ [u] Q I (.cons rx .nil) ⟨a, bs, rfl, SqL.of (by rw [← allB_ok q r1]; exact s1), k M _ rfl R (Ext.refl M) rfl⟩
  | _ => cases e
theorem cd_any (hc : X.calm = true) : CallD X T (.builtin "any") bAny := call_D1 rfl (fun _ _ _ => by simp [bAny]) fun pins s σ M p z x u Q I rx R d e k => by
  cases p with
  | lst xs =>
    have e : (match allB xs with | some bs => some (D.bl (bs.any id)) | none => none) = some z := e
    cases q : allB xs with
    | none => rw [q] at e; cases e
    | some bs =>
      rw [q] at e
      cases e
      obtain ⟨a, vs, rfl, s1, r1⟩ := d.lst
      exact cr_any hc pins s σ _ _ [u] Q I (.cons rx .nil) ⟨a, bs, rfl, SqL.of (by rw [← allB_ok q r1]; exact s1), k M _ rfl R (Ext.refl M) rfl⟩
  | _ => cases e
theorem allI_ok : ∀ {xs : List D} {is : List Int} {vs : List V}, allI xs = some is → RVs K T M xs vs → vs = is.map V.int
  | [], is, vs, e, r => by cases e; exact r
  | x :: xs, is, vs, e, r => by
    obtain ⟨v, rr, rfl, r1, r2⟩ := r
    cases x with
    | int i =>
      unfold allI at e
      cases q : allI xs with
      | none => rw [q] at e; cases e
      | some js =>
        rw [q] at e
        cases e
        rw [allI_ok q r2]
        have : v = .int i := r1
        rw [this]
        rfl
    | _ => cases e
theorem foldMax : ∀ (l : List Int) (a : Int), (l.foldl (fun a b => if b > a then b else a) a = a ∨ l.foldl (fun a b => if b > a then b else a) a ∈ l) ∧ a ≤ l.foldl (fun a b => if b > a then b else a) a ∧ ∀ y ∈ l, y ≤ l.foldl (fun a b => if b > a then b else a) a
  | [], a => ⟨.inl rfl, Int.le_refl _, fun y h => by cases h⟩
  | b :: l, a => by
    rw [List.foldl_cons]
    by_cases h : b > a
    · rw [if_pos h]
      obtain ⟨h1, h2, h3⟩ := foldMax l b
      refine ⟨.inr ?_, by omega, fun y hy => ?_⟩
      · rcases h1 with h1 | h1
        · rw [h1]; exact List.mem_cons_self
        · exact List.mem_cons_of_mem _ h1
      · rcases List.mem_cons.mp hy with rfl | hy
        · exact h2
        · exact h3 y hy
    · rw [if_neg h]
      obtain ⟨h1, h2, h3⟩ := foldMax l a
      refine ⟨h1.elim .inl fun z => .inr (List.mem_cons_of_mem _ z), h2, fun y hy => ?_⟩
      rcases List.mem_cons.mp hy with rfl | hy
      · omega
      · exact h3 y hy
theorem foldMin : ∀ (l : List Int) (a : Int), (l.foldl (fun a b => if b < a then b else a) a = a ∨ l.foldl (fun a b => if b < a then b else a) a ∈ l) ∧ l.foldl (fun a b => if b < a then b else a) a ≤ a ∧ ∀ y ∈ l, l.foldl (fun a b => if b < a then b else a) a ≤ y
  | [], a => ⟨.inl rfl, Int.le_refl _, fun y h => by cases h⟩
  | b :: l, a => by
    rw [List.foldl_cons]
    by_cases h : b < a
    · rw [if_pos h]
      obtain ⟨h1, h2, h3⟩ := foldMin l b
      refine ⟨.inr ?_, by omega, fun y hy => ?_⟩
      · rcases h1 with h1 | h1
        · rw [h1]; exact List.mem_cons_self
        · exact List.mem_cons_of_mem _ h1
      · rcases List.mem_cons.mp hy with rfl | hy
        · exact h2
        · exact h3 y hy
    · rw [if_neg h]
      obtain ⟨h1, h2, h3⟩ := foldMin l a
      refine ⟨h1.elim .inl fun z => .inr (List.mem_cons_of_mem _ z), h2, fun y hy => ?_⟩
      rcases List.mem_cons.mp hy with rfl | hy
      · omega
      · exact h3 y hy
theorem DVs.lst1 {xs : List D} {vs : List V} {is : List Int} (h : DVs K T M [.lst xs] vs) (e : allI xs = some is) : ∃ a, vs = [.ref a] ∧ SqL K M.H a (is.map V.int) := by
  obtain ⟨x, rfl, d⟩ := h.one
  obtain ⟨a, us, rfl, s1, r1⟩ := d.lst
  exact ⟨a, rfl, by rw [← allI_ok e r1]; exact SqL.of s1⟩
theorem cd_max (hc : X.calm = true) : CallD X T (.builtin "max") bMax := by
  intro pins s σ H xs us Q I r hq
  obtain ⟨M, ps, z, rfl, R, d, e, k⟩ := hq
  unfold bMax at e
  split at e
  · rename_i i j
    cases e
    obtain ⟨x, y, rfl, d1, d2⟩ := d.two
    exact call_max2 hc pins s σ _ _ us Q I r ⟨i, j, by rw [d1.int, d2.int], k M _ rfl R (Ext.refl M) rfl⟩
  · rename_i xs
    split at e
    · rename_i is ei
      obtain ⟨a, rfl, sq⟩ := d.lst1 ei
      cases is with
      | nil => cases e
      | cons i is =>
        cases e
        obtain ⟨h1, h2, h3⟩ := foldMax is i
        refine cr_max hc pins s σ _ _ us Q I r ⟨a, i :: is, rfl, sq, Nat.succ_pos _, fun m hm hy => ?_⟩
        have : m = is.foldl (fun a b => if b > a then b else a) i := by
          have a1 := hy (is.foldl (fun a b => if b > a then b else a) i) (h1.elim (fun z => by rw [z]; exact List.mem_cons_self) (List.mem_cons_of_mem _))
          have a2 : m ≤ is.foldl (fun a b => if b > a then b else a) i := by
            rcases List.mem_cons.mp hm with rfl | hm
            · exact h2
            · exact h3 m hm
          omega
        rw [this]
        exact k M _ rfl R (Ext.refl M) rfl
    · cases e
  · cases e
theorem cd_min (hc : X.calm = true) : CallD X T (.builtin "min") bMin := by
  intro pins s σ H xs us Q I r hq
  obtain ⟨M, ps, z, rfl, R, d, e, k⟩ := hq
  unfold bMin at e
  split at e
  · rename_i i j
    cases e
    obtain ⟨x, y, rfl, d1, d2⟩ := d.two
    exact call_min2 hc pins s σ _ _ us Q I r ⟨i, j, by rw [d1.int, d2.int], k M _ rfl R (Ext.refl M) rfl⟩
  · rename_i xs
    split at e
    · rename_i is ei
      obtain ⟨a, rfl, sq⟩ := d.lst1 ei
      cases is with
      | nil => cases e
      | cons i is =>
        cases e
        obtain ⟨h1, h2, h3⟩ := foldMin is i
        refine cr_min hc pins s σ _ _ us Q I r ⟨a, i :: is, rfl, sq, Nat.succ_pos _, fun m hm hy => ?_⟩
        have : m = is.foldl (fun a b => if b < a then b else a) i := by
          have a1 := hy (is.foldl (fun a b => if b < a then b else a) i) (h1.elim (fun z => by rw [z]; exact List.mem_cons_self) (List.mem_cons_of_mem _))
          have a2 : is.foldl (fun a b => if b < a then b else a) i ≤ m := by
            rcases List.mem_cons.mp hm with rfl | hm
            · exact h2
            · exact h3 m hm
          omega
        rw [this]
        exact k M _ rfl R (Ext.refl M) rfl
    · cases e
  · cases e

/-! ### isinstance with a built-in class -/
def tyName : Ty → String
  | .int => "int"
  | .str => "str"
  | .bool => "bool"
  | .tuple => "tuple"
  | .list => "list"
  | .dict => "dict"
theorem ty_dv {p : D} {x : V} {b : Bool} {t : Ty} (h : isTy t p = some b) (d : DV K T M p x) : ∃ n : String, TyX K M.H x (.type n) ∧ kitB n (tyName t) = some b := by
  cases p with
  | non => cases h; exact ⟨"NoneType", .base (by rw [d.non]; exact .non), by cases t <;> decide +kernel⟩
  | bl c => cases h; exact ⟨"bool", .base (by rw [d.bl]; exact .bl c), by cases t <;> decide +kernel⟩
  | int i => cases h; exact ⟨"int", .base (by rw [d.int]; exact .int i), by cases t <;> decide +kernel⟩
  | str s => cases h; exact ⟨"str", .base (by rw [d.str]; exact .str _), by cases t <;> decide +kernel⟩
  | tup xs =>
    cases h
    obtain ⟨a, vs, rfl, s1, r1⟩ := d.tup
    refine ⟨"tuple", ?_, by cases t <;> decide +kernel⟩
    rcases s1 with (s1 | ⟨o, s1⟩) | ⟨o, its, n, h1, h2, _⟩
    · exact .base (.tup s1)
    · exact .fTuple s1
    · exact .kTuple h1 h2
  | lst xs =>
    cases h
    obtain ⟨a, vs, rfl, s1, r1⟩ := d.lst
    exact ⟨"list", .base (.lst s1), by cases t <;> decide +kernel⟩
  | dct ks xs =>
    cases h
    obtain ⟨a, kvs, rfl, hd, _⟩ := d.dct
    exact ⟨"dict", .base (.dK hd), by cases t <;> decide +kernel⟩
  | _ => cases h
/-- isinstance(e, T) -/
theorem je_isi {t : Ty} {e : Expr} {f : SE} {n : Str} {p q pos : Pos} (ha : JE X T e f) (hm : X.mg "isinstance" = none) (hmt : X.mg n = none) (hv : bootBuiltins n = some (.type (tyName t)) := by decide +kernel) (hg : Gl X "isinstance" := by rfl) (hgt : Gl X n := by rfl)
    (hn : n ≠ "__name__" := by decide) (hdt : (n == ("__debug__" : Str)) = false := by decide) (he1 : starEach [e, .Name n q] X.env = (false, eval e X.env) :: starEach [.Name n q] X.env := by rfl) (he2 : starEach [.Name n q] X.env = (false, eval (.Name n q) X.env) :: starEach [] X.env := by rfl)
    (hpl : (backTo pos (starEach [.Name n q] X.env)).any (·.1) = false := by rfl) : JE X T (.Call (.Name "isinstance" p) [e, .Name n q] [] pos) (e1 (bIsi t) f) :=
  PE.weak (pe_callB (id := "isinstance") call_isi hg hm (by decide +kernel) (pa_cons ha (pa_cons (pe_bltn (v := .ty (tyName t)) hgt hmt hv rfl hn hdt) pa_nil he2) he1) (by decide) (by decide) he1 hpl) fun σ H Q h => by
    obtain ⟨M, B, L, ρ, p, h⟩ := h
    refine ⟨M, B, L, ρ, p, (post.bind h).mono fun w L1 M1 eA R x q v rv => ?_⟩
    obtain ⟨pd, ev, dv, q1⟩ := q.view R eA rv
    obtain ⟨z, ez, q2⟩ := q1.opt
    unfold bIsi at ez
    cases et : isTy t pd with
    | none => rw [et] at ez; cases ez
    | some b =>
      rw [et] at ez
      cases ez
      obtain ⟨nn, ty, kb⟩ := ty_dv et dv
      exact ⟨v, .ty (tyName t), .type nn, .type (tyName t), b, rfl, .ty _, ty, kit_ty kb, q2.here eA R _ rfl⟩

/-! ### indexes, slices -/
theorem ixN_same (n : Nat) (i : Int) : Ev.ixN n i = L2.ixN n i := rfl
theorem atI_rv {xs : List D} {vs : List V} {i : Int} {d : D} (r : RVs K T M xs vs) (h : Ev.atI xs i = some d) : ∃ v, L2.atI vs i = some v ∧ RV K T M d v := by
  unfold Ev.atI at h
  unfold L2.atI
  rw [ixN_same, r.length] at h
  cases e : L2.ixN vs.length i with
  | none => rw [e] at h; cases h
  | some j =>
    rw [e] at h
    obtain ⟨v, e1, r1⟩ := r.get (show xs[j]? = some d from h)
    exact ⟨v, e1, r1⟩
theorem ixD_all (hu : X.A.units + 1 < cLine) : IxR X (rD X.K T opIx) := by
  intro value slice pins s σ H x y v u Q I rx ry h hs
  obtain ⟨M, p, q, z, rfl, R, d1, d2, e, k⟩ := h
  cases p with
  | lst xs =>
    cases q with
    | int i =>
      obtain ⟨a, vs, rfl, s1, r1⟩ := d1.lst
      obtain ⟨w, e1, r2⟩ := atI_rv r1 (show Ev.atI xs i = some z from e)
      exact ix_list value slice pins s σ _ _ y v u Q I rx ry ⟨a, vs, i, w, rfl, d2.int, SqL.of s1, e1, k M _ rfl R (Ext.refl M) r2⟩ hs
    | _ => cases e
  | scr xs =>
    cases q with
    | int i =>
      obtain ⟨a, vs, rfl, s1, r1⟩ := d1.scr
      obtain ⟨w, e1, r2⟩ := atI_rv r1 (show Ev.atI xs i = some z from e)
      exact ix_list value slice pins s σ _ _ y v u Q I rx ry ⟨a, vs, i, w, rfl, d2.int, s1, e1, k M _ rfl R (Ext.refl M) r2⟩ hs
    | _ => cases e
  | tup xs =>
    cases q with
    | int i =>
      obtain ⟨a, vs, rfl, s1, r1⟩ := d1.tup
      obtain ⟨w, e1, r2⟩ := atI_rv r1 (show Ev.atI xs i = some z from e)
      exact ix_tup value slice pins s σ _ _ y v u Q I rx ry ⟨a, vs, i, w, rfl, d2.int, s1, e1, k M _ rfl R (Ext.refl M) r2⟩ hs
    | _ => cases e
  | str t =>
    cases q with
    | int i =>
      have e : (if t.length ≤ sizeL then (Ev.atI t i).map fun c => D.str [c] else none) = some z := e
      split at e
      · rename_i hl
        cases ea : Ev.atI t i with
        | none => rw [ea] at e; cases e
        | some c =>
          rw [ea] at e
          cases e
          exact ix_str value slice pins s σ _ x y v u Q I rx ry ⟨⟨t.toArray⟩, i, c, d1.str, d2.int, by rw [str_len, ← sizeL_eq]; exact hl, ea, k M _ rfl R (Ext.refl M) rfl⟩ hs
      · cases e
    | _ => cases e
  | dct ks vs =>
    have e : (if isKey q = true then findD q ks vs else none) = some z := by cases q <;> exact e
    split at e
    · rename_i hk
      obtain ⟨kk, hkk⟩ := keyD_ok hk
      obtain ⟨a, kvs, rfl, hd, hks, rv⟩ := d1.dct
      obtain rfl : v = Value.ref a := rx
      have hx := keyD_dv hkk d2
      subst hx
      rcases findD_ok hkk hks rv with ⟨h1, _⟩ | ⟨d, w, h1, h2, h3⟩
      · rw [h1] at e; cases e
      · rw [h1] at e
        cases e
        have g : DGet M.H a (kV kk) (some w) := by rw [← h2]; exact DGet.k hd
        exact tail_any (dict_typeIs I g) PySem.F.slot_dict_getitem.lookup (d_getItem hu I g ry fun w' s' I' rw' => ⟨w, M.H, I', rw', k M _ rfl R (Ext.refl M) h3⟩) hs
    · cases e
  | _ => cases q <;> cases e
theorem je_ix {a b : Expr} {fa fb : SE} {pos : Pos} (hu : X.A.units + 1 < cLine) (ha : JE X T a fa) (hb : JE X T b fb) (hs : PlainIx b := by exact fun _ _ => rfl) : JE X T (.Subscript a b pos) (e2 opIx fa fb) :=
  PE.weak (pe_ix (ixD_all hu) ha hb hs) fun σ H Q h => rd_op (ok_rD opIx) h
theorem sIx_same (n d : Nat) (o : Option Int) : Ev.sIx n d o = HT.sIx n d o := by
  cases o with
  | none => rfl
  | some v => rfl
theorem cut_rv {xs : List D} {vs : List V} (r : RVs K T M xs vs) (lo hi : Option Int) : RVs K T M (Ev.cut xs lo hi) (cutV vs lo hi) := by
  unfold Ev.cut cutV
  rw [sIx_same, sIx_same, r.length]
  exact (r.drop _).take _
def rSlD (K : PySem.W.Frag) (T : Tb) : V → Option Int → Option Int → Hp → VK → Prop := fun x lo hi H Q => ∃ M p z, M.H = H ∧ Rep K T M ∧ DV K T M p x ∧ opSl p lo hi = some z ∧ ∀ M' v, M'.A = M.A → Rep K T M' → Ext M M' → RV K T M' z v → Q v M'.H
theorem slD : SlR X (rSlD X.K T) := by
  intro pins s σ H x v vl vu lo hi sl Q I rx hs pl pu h
  obtain ⟨M, p, z, rfl, R, d, e, k⟩ := h
  cases p with
  | lst xs =>
    cases e
    obtain ⟨a, vs, rfl, s1, r1⟩ := d.lst
    exact sl_list pins s σ _ _ v vl vu lo hi sl Q I rx hs pl pu ⟨a, vs, rfl, SqL.of s1, new_lst R (cut_rv r1 lo hi) k⟩
  | scr xs =>
    cases e
    obtain ⟨a, vs, rfl, s1, r1⟩ := d.scr
    exact sl_list pins s σ _ _ v vl vu lo hi sl Q I rx hs pl pu ⟨a, vs, rfl, s1, new_lst R (cut_rv r1 lo hi) k⟩
  | tup xs =>
    cases e
    obtain ⟨a, vs, rfl, s1, r1⟩ := d.tup
    refine sl_tupA pins s σ _ _ v vl vu lo hi sl Q I rx hs pl pu ⟨a, vs, rfl, s1, fun hw => ?_, fun _ => new_tup R (cut_rv r1 lo hi) k⟩
    refine k M _ rfl R (Ext.refl M) ⟨a, vs, rfl, s1, ?_⟩
    have : Ev.cut xs lo hi = xs := by
      unfold Ev.cut
      rw [sIx_same, sIx_same, r1.length, hw.1, hw.2, List.drop_zero, Nat.sub_zero, ← r1.length, List.take_length]
    rw [this]
    exact r1
  | str t =>
    have e : (if t.length ≤ sizeL then some (D.str (cut t lo hi)) else none) = some z := e
    split at e
    · rename_i hl
      cases e
      refine sl_str pins s σ _ _ v vl vu lo hi sl Q I rx hs pl pu ⟨⟨t.toArray⟩, d.str, by rw [str_len, ← sizeL_eq]; exact hl, ?_⟩
      refine k M _ rfl R (Ext.refl M) ?_
      show V.str _ = V.str _
      congr 1
    · cases e
  | _ => cases e
def rO (K : PySem.W.Frag) (T : Tb) (f : SO) : TO := fun σ H Q => ∃ M B L ρ, Pt K T M B L ρ σ H ∧ post K T M B (f B ρ L) fun o _ M' => Q o M'.H
abbrev JO (X : Cx) (T : Tb) (e : Option Expr) (f : SO) : Prop := PO X e (rO X.K T f)
theorem PO.weak {e : Option Expr} {t u : TO} (h : PO X e t) (w : ∀ σ H Q, u σ H Q → t σ H Q) : PO X e u := ⟨fun pins s σ H Q I q => h.run pins s σ H Q I (w σ H Q q)⟩
theorem jo_none : JO X T none oNone := PO.weak po_none fun σ H Q h => by
  obtain ⟨M, B, L, ρ, p, h⟩ := h
  have : Q none M.H := h M p.eA p.rep (Ext.refl M)
  rw [p.eH] at this
  exact this
theorem jo_some {e : Expr} {f : SE} (he : JE X T e f) : JO X T (some e) (oSome f) := PO.weak (po_some he) fun σ H Q h => by
  obtain ⟨M, B, L, ρ, p, h⟩ := h
  refine ⟨M, B, L, ρ, p, (post.bind h).mono fun w L1 M1 eA R x q v rv => ?_⟩
  obtain ⟨pd, ev, dv, q1⟩ := q.view R eA rv
  obtain ⟨i, ei, q2⟩ := q1.opt
  clear q q1
  cases pd with
  | int j => cases ei; exact ⟨i, dv.int, q2.here eA R⟩
  | _ => cases ei
theorem je_sl {e : Expr} {lo hi : Option Expr} {f : SE} {fl fh : SO} {pos p2 : Pos} (he : JE X T e f) (hl : JO X T lo fl) (hh : JO X T hi fh) : JE X T (.Subscript e (.Slice lo hi none p2) pos) (eSl f fl fh) := PE.weak (pe_slice (slD (T := T)) he hl hh) fun σ H Q h => by
  obtain ⟨M, B, L, ρ, p, h⟩ := h
  refine ⟨M, B, L, ρ, p, (post.bind h).mono fun w L1 M1 eA R x q v rv => ?_⟩
  refine ⟨M1, B, L1, ρ, p.next eA R x, (post.bind q).mono fun o1 L2 M2 eA2 R2 x2 q2 => ?_⟩
  refine ⟨M2, B, L2, ρ, (p.next eA R x).next eA2 R2 x2, (post.bind q2).mono fun o2 L3 M3 eA3 R3 x3 q3 => ?_⟩
  obtain ⟨pd, ev, dv, q4⟩ := q3.view R3 eA3 (rv.ext R (x2.trans x3))
  obtain ⟨z, ez, q5⟩ := q4.opt
  exact ⟨M3, pd, z, rfl, R3, dv, ez, fun M' v a' R' x' rv => q5 M' (a'.trans eA3) R' x' v rv⟩
/-! ### chains -/
theorem rd_chain {g g' : D → D → Option D} {fa fb fc : SE} {σ : L2.St} {H : Hp} {Q : VK} (h : rE K T (eChain g g' fa fb fc) σ H Q) : tChain (rD K T g) (rD K T g') (rE K T fa) (rE K T fb) (rE K T fc) σ H Q := by
  obtain ⟨M, B, L, ρ, p, h⟩ := h
  refine ⟨M, B, L, ρ, p, (post.bind h).mono fun w L1 M1 eA R x q v rv => ?_⟩
  refine ⟨M1, B, L1, ρ, p.next eA R x, (post.bind q).mono fun w2 L2 M2 eA2 R2 x2 q2 v2 rv2 => ?_⟩
  obtain ⟨pd, e1, d1, q3⟩ := q2.view R2 eA2 (rv.ext R x2)
  obtain ⟨qd, e2, d2, q4⟩ := q3.view R2 eA2 rv2
  obtain ⟨z, ez, q5⟩ := q4.opt
  obtain ⟨k, ek, q6⟩ := q5.opt
  clear q q2 q3 q4 q5
  cases z with
  | bl b =>
    cases ek
    refine ⟨M2, pd, qd, .bl k, rfl, R2, d1, d2, ez, fun M3 v3 a3 R3 x3 rv3 => ⟨k, rv3, ?_⟩⟩
    have q7 := q6.later x3
    cases k with
    | false =>
      refine iteF ?_
      rw [if_neg Bool.false_ne_true] at q7
      exact q7.here (a3.trans eA2) R3 _ rfl
    | true =>
      refine iteT ?_
      rw [if_pos rfl] at q7
      refine ⟨M3, B, L2, ρ, ((p.next eA R x).next eA2 R2 x2).next (a3.trans eA2) R3 x3, (post.bind q7).mono fun w4 L4 M4 eA4 R4 x4 q8 v4 rv4 => ?_⟩
      obtain ⟨q', e1', d1', q9⟩ := q8.view R4 eA4 (rv2.ext R2 (x3.trans x4))
      obtain ⟨s', e2', d2', q10⟩ := q9.view R4 eA4 rv4
      obtain ⟨z', ez', q11⟩ := q10.opt
      exact ⟨M4, q', s', z', rfl, R4, d1', d2', ez', fun M' u a' R' x' ru => q11 M' (a'.trans eA4) R' x' u ru⟩
  | _ => cases ek
theorem je_chain {op op' : CmpOp} {g g' : D → D → Option D} {a b c : Expr} {fa fb fc : SE} {pos : Pos} (ho : OpD X T (compareOp op) g) (ho' : OpD X T (compareOp op') g') (ha : JE X T a fa) (hb : JE X T b fb) (hc : JE X T c fc) (hm : lastMarks [op, op'] [b, c] = false := by with_unfolding_all rfl) :
    JE X T (.Compare a [op, op'] [b, c] pos) (eChain g g' fa fb fc) := PE.weak (pe_chain ho ho' ha hb hc hm) fun σ H Q h => rd_chain h
theorem bindI {α β : Type} {r : Res α} {k : α → Hs → Res β} {b : β} {L : Hs} (h : r.bind k = .ok b L) : ∃ a L1, r = .ok a L1 ∧ k a L1 = .ok b L := by
  cases r with
  | ok a L1 => exact ⟨a, L1, rfl, h⟩
  | exc _ _ _ => cases h
  | bad => cases h
theorem optI {α : Type} {o : Option α} {a : α} {L L' : Hs} (h : ofOpt o L = .ok a L') : o = some a ∧ L' = L := by
  cases o with
  | none => cases h
  | some x => cases h; exact ⟨rfl, rfl⟩
theorem jt_chain {op op' : CmpOp} {g g' : D → D → Option D} {a b c : Expr} {fa fb fc : SE} {pos : Pos} (ho : OpD X T (compareOp op) g) (ho' : OpD X T (compareOp op') g') (hg : ∀ p q z, g' p q = some z → ∃ k, z = .bl k) (ha : JE X T a fa) (hb : JE X T b fb) (hc : JE X T c fc) (hm : lastMarks [op, op'] [b, c] = false := by with_unfolding_all rfl) :
    JT X T (.Compare a [op, op'] [b, c] pos) (tE (eChain g g' fa fb fc)) := PT.weak (pt_chain ho ho' ha hb hc hm) fun σ H Q h => rd_test (fun σ H Q h => rd_chain h) h fun B ρ L w L' hh => by
  obtain ⟨x, L1, h1, hh⟩ := bindI hh
  obtain ⟨y, L2, h2, hh⟩ := bindI hh
  obtain ⟨p, L3, h3, hh⟩ := bindI hh
  obtain ⟨q, L4, h4, hh⟩ := bindI hh
  obtain ⟨r, L5, h5, hh⟩ := bindI hh
  obtain ⟨k, L6, h6, hh⟩ := bindI hh
  cases k with
  | false => rw [if_neg Bool.false_ne_true] at hh; cases hh; exact ⟨_, rfl⟩
  | true =>
    rw [if_pos rfl] at hh
    obtain ⟨z, L7, h7, hh⟩ := bindI hh
    obtain ⟨q', L8, h8, hh⟩ := bindI hh
    obtain ⟨s', L9, h9, hh⟩ := bindI hh
    obtain ⟨r', L10, h10, hh⟩ := bindI hh
    obtain ⟨e, _⟩ := optI h10
    obtain ⟨k', rfl⟩ := hg _ _ _ e
    cases hh
    exact ⟨_, rfl⟩
end
end Ev

set_option Elab.async false
set_option linter.all false
set_option maxRecDepth 100000
set_option maxHeartbeats 1000000
set_option autoImplicit false
/-! EvF: places that change, dicts. -/
namespace Ev
open PySem PySem.Spec PyProof.Rows L2
section
variable {X : Cx} {T : Tb} {K : PySem.W.Frag} {M M0 : Mem} {x : V}
/-- a place is changed -/
theorem place_put (R : Rep K T M) {n : Nat} {o o' : Ob} {h' : HO} (ho : M.A[n]? = some o) (hl : o.live = true) (hl' : o'.live = true) (hp : Plain h')
    (ro : ∀ M', M'.m = M.m → M'.S = M.S → M'.A = M.A.set n o' → M'.H = upd M.H (M.m n) h' → Ext M M' → RO K T M' (M.m n) o') :
    Rep K T { M with A := M.A.set n o', H := upd M.H (M.m n) h' } ∧ Ext M { M with A := M.A.set n o', H := upd M.H (M.m n) h' } := by
  have hn : n < M.A.length := (List.getElem?_eq_some_iff.mp ho).1
  have lv : ∀ k, liveAt (M.A.set n o') k → liveAt M.A k := fun k ⟨u, e, l⟩ => by
    by_cases hk : n = k
    · subst hk; exact ⟨o, ho, hl⟩
    · rw [List.getElem?_set_ne hk] at e; exact ⟨u, e, l⟩
  have ln : liveAt M.A n := ⟨o, ho, hl⟩
  have e : Ext M { M with A := M.A.set n o', H := upd M.H (M.m n) h' } := by
    refine ⟨⟨by rw [List.length_set]; exact Nat.le_refl _, fun _ _ => rfl, fun k y q => ?_, fun k hk l => ?_, fun a u h s => (upd_ne (fun z : a = M.m n => s.1 n ln z.symm)).trans h, fun a h => ?_, fun _ h => .inl h⟩, rfl, fun a ha => upd_ne (fun z : a = M.m n => (R.sc a ha).2 n ln z.symm)⟩
    · show (M.A.set n o')[k]? = _
      by_cases hk : n = k
      · subst hk; rw [ho] at q; cases q; cases hl
      · rw [List.getElem?_set_ne hk]; exact q
    · obtain ⟨u, q, _⟩ := lv k l
      exact absurd (List.getElem?_eq_some_iff.mp q).1 (Nat.not_lt.mpr hk)
    · show upd M.H (M.m n) h' a ≠ none
      unfold upd
      split
      · intro z; cases z
      · exact h
  refine ⟨⟨fun i j li lj q => R.inj i j (lv i li) (lv j lj) q, fun k u q => ?_, fun a ha => ?_⟩, e⟩
  · have q : (M.A.set n o')[k]? = some u := q
    by_cases hk : n = k
    · subst hk
      rw [List.getElem?_set_self hn] at q
      cases q
      exact ro _ rfl rfl rfl rfl e
    · rw [List.getElem?_set_ne hk] at q
      have r := R.at_ k u q
      have ne : u.live = true → M.m k ≠ M.m n := fun l z => hk (R.inj k n ⟨u, q, l⟩ ln z).symm
      cases u with
      | frz y => exact RV.ext R e y _ r
      | lst ws => obtain ⟨vs, h1, h2⟩ := r; exact ⟨vs, (upd_ne (ne rfl)).trans h1, h2.ext R e⟩
      | dct ks ws => obtain ⟨kvs, h1, h2, h3⟩ := r; exact ⟨kvs, (upd_ne (ne rfl)).trans h1, h2, h3.ext R e⟩
      | ins _ _ => exact r.elim
      | dcn ks ws => obtain ⟨kvs, h1, h2, h3, h4, h5⟩ := r; exact ⟨kvs, (upd_ne (ne rfl)).trans h1, h2, h3, RVs.ext R e _ _ h4, h5.ext R e⟩
  · obtain ⟨⟨u, h1, h2⟩, h3⟩ := R.sc a ha
    exact ⟨⟨u, (upd_ne (fun z : a = M.m n => h3 n ln z.symm)).trans h1, h2⟩, fun k l => h3 k (lv k l)⟩
/-- a new place -/
def Mem.more (M : Mem) (p : Addr) (h : HO) (o : Ob) (S : List Addr) : Mem := ⟨fun n => if n = M.A.length then p else M.m n, M.A ++ [o], upd M.H p h, S⟩
theorem more_live {p : Addr} {h : HO} {o : Ob} {S : List Addr} {n : Nat} (l : liveAt (M.more p h o S).A n) : liveAt M.A n ∨ n = M.A.length := by
  obtain ⟨u, e, q⟩ := l
  have e : (M.A ++ [o])[n]? = some u := e
  by_cases hn : n < M.A.length
  · rw [List.getElem?_append_left hn] at e
    exact .inl ⟨u, e, q⟩
  · have := (List.getElem?_eq_some_iff.mp e).1
    rw [List.length_append] at this
    exact .inr (by simp at this; omega)
theorem more_m {p : Addr} {h : HO} {o : Ob} {S : List Addr} {n : Nat} (hn : n < M.A.length) : (M.more p h o S).m n = M.m n := by
  show (if n = M.A.length then p else M.m n) = _
  rw [if_neg (by omega)]
theorem more_keeps (R : Rep K T M) {p : Addr} {h : HO} {o : Ob} {S : List Addr} (hp : M.H p = none ∨ p ∈ M.S) (hS : ∀ a, a ∈ S → a ∈ M.S) : Keeps (K := K) M (M.more p h o S) := by
  have ne : ∀ a, Sep M a → M.H a ≠ none → a ≠ p := fun a s h0 z => by
    subst z
    exact hp.elim h0 s.2
  refine ⟨fun a xs q => ?_, fun a s h0 => ⟨fun n l z => ?_, fun z => s.2 (hS a z)⟩, fun a u q s => (upd_ne (ne a s (by rw [q]; intro z; cases z))).trans q, by show _ ≤ (M.A ++ [o]).length; rw [List.length_append]; omega, fun n hn => more_m hn⟩
  · rcases q with q | q
    · have s := R.sep_tup q
      have n1 := ne a s (rd_ne q)
      rcases q with q | ⟨u, q⟩
      · exact .inl (.inl ((upd_ne n1).trans q))
      · exact .inl (.inr ⟨u, (upd_ne n1).trans q⟩)
    · exact .inr q
  · rcases more_live l with l | l
    · obtain ⟨u, e, _⟩ := l
      rw [more_m (List.getElem?_eq_some_iff.mp e).1] at z
      exact s.1 n ⟨u, e, ‹_›⟩ z
    · subst l
      have z : (if M.A.length = M.A.length then p else M.m M.A.length) = a := z
      rw [if_pos rfl] at z
      exact ne a s h0 z.symm
theorem more_rep (R : Rep K T M) {p : Addr} {h : HO} {o : Ob} {S : List Addr} (hp : M.H p = none ∨ p ∈ M.S) (hS : ∀ a, a ∈ S → a ∈ M.S ∧ a ≠ p) (ro : RO K T (M.more p h o S) p o) : Rep K T (M.more p h o S) := by
  have k := more_keeps (K := K) (h := h) (o := o) R hp (fun a z => (hS a z).1)
  have np : ∀ n, liveAt M.A n → M.m n ≠ p := fun n l z => by
    rcases hp with hp | hp
    · obtain ⟨u, e, _⟩ := R.live_kind l
      rw [z, hp] at e
      cases e
    · exact (R.sc p hp).2 n l z
  have mm : (M.more p h o S).m M.A.length = p := by show (if _ = _ then _ else _) = _; rw [if_pos rfl]
  have lt : ∀ n, liveAt M.A n → n < M.A.length := fun n ⟨u, e, _⟩ => (List.getElem?_eq_some_iff.mp e).1
  refine ⟨fun i j li lj q => ?_, fun n u q => ?_, fun a ha => ?_⟩
  · rcases more_live li with li | li <;> rcases more_live lj with lj | lj
    · rw [more_m (lt i li), more_m (lt j lj)] at q
      exact R.inj i j li lj q
    · subst lj
      rw [more_m (lt i li), mm] at q
      exact absurd q (np i li)
    · subst li
      rw [more_m (lt j lj), mm] at q
      exact absurd q.symm (np j lj)
    · rw [li, lj]
  · have q : (M.A ++ [o])[n]? = some u := q
    by_cases hn : n < M.A.length
    · rw [List.getElem?_append_left hn] at q
      have r := R.at_ n u q
      rw [more_m hn]
      have hh : u.live = true → ∀ w, M.H (M.m n) = some w → (M.more p h o S).H (M.m n) = some w := fun l w e => (upd_ne (np n ⟨u, q, l⟩)).trans e
      cases u with
      | frz y => exact RV.keeps k y _ r
      | lst ws => obtain ⟨vs, h1, h2⟩ := r; exact ⟨vs, hh rfl _ h1, h2.keeps k⟩
      | dct ks ws => obtain ⟨kvs, h1, h2, h3⟩ := r; exact ⟨kvs, hh rfl _ h1, h2, h3.keeps k⟩
      | ins _ _ => exact r.elim
      | dcn ks ws => obtain ⟨kvs, h1, h2, h3, h4, h5⟩ := r; exact ⟨kvs, hh rfl _ h1, h2, h3, RVs.keeps k _ _ h4, h5.keeps k⟩
    · have hl := (List.getElem?_eq_some_iff.mp q).1
      have e : n = M.A.length := by simp at hl; omega
      subst e
      rw [mm]
      rw [List.getElem?_append_right (Nat.le_refl _), Nat.sub_self] at q
      cases q
      exact ro
  · obtain ⟨h1, h2⟩ := hS a ha
    obtain ⟨⟨u, h3, h4⟩, h5⟩ := R.sc a h1
    refine ⟨⟨u, (upd_ne h2).trans h3, h4⟩, fun n l z => ?_⟩
    rcases more_live l with l | l
    · rw [more_m (lt n l)] at z
      exact h5 n l z
    · subst l
      rw [mm] at z
      exact h2 z.symm
theorem more_ext {p : Addr} {h : HO} {o : Ob} (e : Ext0 M0 M) (hd : M0.H p = none) (hS : ∀ a, a ∈ M0.S → M.H a = M0.H a) (R0 : Rep K T M0) : Ext M0 (M.more p h o M0.S) := by
  refine ⟨⟨?_, fun n hn => ?_, fun n y q => ?_, fun n hn l => ?_, fun a u q s => ?_, fun a q => ?_, fun a z => .inl z⟩, rfl, fun a ha => ?_⟩
  · show _ ≤ (M.A ++ [o]).length
    rw [List.length_append]
    exact Nat.le_trans e.len (Nat.le_add_right _ _)
  · rw [more_m (Nat.lt_of_lt_of_le hn e.len)]
    exact e.same n hn
  · have q := e.fz n y q
    show (M.A ++ [o])[n]? = _
    rw [List.getElem?_append_left (List.getElem?_eq_some_iff.mp q).1]
    exact q
  · rcases more_live l with l | l
    · obtain ⟨u, e1, _⟩ := id l
      rw [more_m (List.getElem?_eq_some_iff.mp e1).1]
      exact e.new n hn l
    · subst l
      show M0.H (if M.A.length = M.A.length then p else M.m M.A.length) = none
      rw [if_pos rfl]
      exact hd
  · exact (upd_ne (ne_of_none q hd)).trans (e.keep a u q s)
  · show upd M.H p h a ≠ none
    unfold upd
    split
    · intro z; cases z
    · exact e.there a q
  · obtain ⟨⟨u, h1, _⟩, _⟩ := R0.sc a ha
    exact (upd_ne (ne_of_none h1 hd)).trans (hS a ha)

/-! ### dict displays -/
theorem plain_dK (kvs : List (Key × V)) : Plain (.dK kvs) := ⟨(fun _ z => by cases z), (fun _ _ z => by cases z)⟩
theorem any_key {k : D} {kk : Key} (hk : keyD k = some kk) : ∀ {ks : List D} {kvs : List (Key × V)}, ks.map keyD = kvs.map (fun p => some p.1) → ks.any (fun a => keyEq a k) = kvs.any (fun kv => decide (kv.1 = kk))
  | [], [], _ => rfl
  | [], _ :: _, e => by cases e
  | _ :: _, [], e => by cases e
  | a :: ks, (ka, va) :: kvs, e => by
    have e1 : keyD a = some ka := (List.cons.inj e).1
    have e2 : ks.map keyD = kvs.map (fun p => some p.1) := (List.cons.inj e).2
    show (keyEq a k || ks.any _) = (decide (ka = kk) || kvs.any _)
    rw [keyEq_ok e1 hk, any_key hk e2]
theorem putKs_ok {k : D} {kk : Key} {v : V} (hk : keyD k = some kk) {ks : List D} {kvs : List (Key × V)} (e : ks.map keyD = kvs.map (fun p => some p.1)) : (putKs k ks).map keyD = (putK kvs kk v).map (fun p => some p.1) := by
  unfold putKs putK
  rw [any_key hk e]
  split
  · rw [e, List.map_map]
    congr 1
    funext p
    show some p.1 = some (if p.1 = kk then (p.1, v) else p).1
    split <;> rfl
  · rw [List.map_append, List.map_append, e]
    show _ ++ [keyD k] = _ ++ [some kk]
    rw [hk]
/-- lists of values, one replaced -/
theorem RWs.zip {k : D} {kk : Key} {w : W} {v : V} (hk : keyD k = some kk) (r : RW K T M w v) : ∀ {ks : List D} {ws : List W} {kvs : List (Key × V)}, ks.map keyD = kvs.map (fun p => some p.1) → RWs K T M ws (kvs.map (·.2)) →
    RWs K T M (List.zipWith (fun a y => if keyEq a k then w else y) ks ws) ((kvs.map fun kv => if kv.1 = kk then (kv.1, v) else kv).map (·.2))
  | [], ws, [], _, _ => rfl
  | [], _, _ :: _, e, _ => by cases e
  | _ :: _, _, [], e, _ => by cases e
  | a :: ks, ws, (ka, va) :: kvs, e, h => by
    have e1 : keyD a = some ka := (List.cons.inj e).1
    have e2 : ks.map keyD = kvs.map (fun p => some p.1) := (List.cons.inj e).2
    cases ws with
    | nil => cases (show va :: kvs.map (·.2) = [] from h)
    | cons y ys =>
      obtain ⟨v1, r1, q, h1, h2⟩ := h
      have q : va :: kvs.map (·.2) = v1 :: r1 := q
      cases q
      have ih := RWs.zip hk r e2 h2
      refine ⟨(if ka = kk then (ka, v) else (ka, va)).2, _, rfl, ?_, ih⟩
      show RW K T M (if keyEq a k = true then w else y) _
      rw [keyEq_ok e1 hk]
      by_cases hh : ka = kk
      · rw [if_pos hh, if_pos (decide_eq_true hh)]; exact r
      · rw [if_neg hh, decide_eq_false hh, if_neg Bool.false_ne_true]; exact h1
theorem putVs_ok {k : D} {kk : Key} {w : W} {v : V} (hk : keyD k = some kk) (r : RW K T M w v) {ks : List D} {ws : List W} {kvs : List (Key × V)} (e : ks.map keyD = kvs.map (fun p => some p.1)) (h : RWs K T M ws (kvs.map (·.2))) :
    RWs K T M (putVs k w ks ws) ((putK kvs kk v).map (·.2)) := by
  unfold putVs putK
  rw [any_key hk e]
  split
  · exact RWs.zip hk r e h
  · rw [List.map_append]
    exact h.append ⟨v, [], rfl, r, rfl⟩
theorem mergeKV_ok : ∀ {ks' : List D} {ws' : List W} {kvs' : List (Key × V)} {ks : List D} {ws : List W} {kvs : List (Key × V)}, ks'.map keyD = kvs'.map (fun p => some p.1) → RWs K T M ws' (kvs'.map (·.2)) → ks.map keyD = kvs.map (fun p => some p.1) → RWs K T M ws (kvs.map (·.2)) →
    (mergeKV ks ws ks' ws').1.map keyD = (mergeK kvs kvs').map (fun p => some p.1) ∧ RWs K T M (mergeKV ks ws ks' ws').2 ((mergeK kvs kvs').map (·.2))
  | [], ws', [], ks, ws, kvs, _, _, e, h => by
    have : mergeKV ks ws [] ws' = (ks, ws) := by cases ws' <;> rfl
    rw [this]
    exact ⟨e, h⟩
  | [], _, _ :: _, _, _, _, e, _, _, _ => by cases e
  | _ :: _, _, [], _, _, _, e, _, _, _ => by cases e
  | a :: ks', ws', (ka, va) :: kvs', ks, ws, kvs, e', h', e, h => by
    have e1 : keyD a = some ka := (List.cons.inj e').1
    have e2 : ks'.map keyD = kvs'.map (fun p => some p.1) := (List.cons.inj e').2
    cases ws' with
    | nil => cases (show va :: kvs'.map (·.2) = [] from h')
    | cons y ys =>
      obtain ⟨v1, r1, q, h1, h2⟩ := h'
      have q : va :: kvs'.map (·.2) = v1 :: r1 := q
      cases q
      have := mergeKV_ok (ks' := ks') (ws' := ys) (kvs' := kvs') (ks := putKs a ks) (ws := putVs a y ks ws) (kvs := putK kvs ka va) e2 h2 (putKs_ok e1 e) (putVs_ok e1 h1 e h)
      exact this
theorem zipWith_map {α β γ δ : Type} (f : α → γ → δ) (g : β → γ) : ∀ (xs : List α) (ys : List β), List.zipWith f xs (ys.map g) = List.zipWith (fun x y => f x (g y)) xs ys
  | [], _ => rfl
  | _ :: _, [] => rfl
  | x :: xs, y :: ys => by
    show f x (g y) :: _ = _
    rw [zipWith_map f g xs ys]
    rfl
theorem mergeKV_map : ∀ (ks' : List D) (xs' : List D) (ks : List D) (xs : List D), mergeKV ks (xs.map W.d) ks' (xs'.map W.d) = ((mergeKV ks xs ks' xs').1, (mergeKV ks xs ks' xs').2.map W.d)
  | [], xs', ks, xs => by cases xs' <;> rfl
  | _ :: _, [], ks, xs => rfl
  | k :: ks', x :: xs', ks, xs => by
    have : putVs k (W.d x) ks (xs.map W.d) = (putVs k x ks xs).map W.d := by
      unfold putVs
      split
      · rw [zipWith_map, List.map_zipWith]
        congr 1
        funext a y
        split <;> rfl
      · rw [List.map_append]
        rfl
    show mergeKV (putKs k ks) (putVs k (W.d x) ks (xs.map W.d)) ks' (xs'.map W.d) = _
    rw [this]
    exact mergeKV_map ks' xs' _ _
theorem RWs.toD' {xs : List D} {vs : List V} (h : RWs K T M (xs.map W.d) vs) : RVs K T M xs vs := by
  induction xs generalizing vs with
  | nil => exact h
  | cons x xs ih =>
    obtain ⟨v, r, rfl, h1, h2⟩ := h
    exact ⟨v, r, rfl, h1, ih h2⟩
/-- the pairs of a display -/
inductive JPs (X : Cx) (T : Tb) : List (Option Expr) → List Expr → List (SE × SE) → Prop
  | nil : JPs X T [] [] []
  | cons {k v : Expr} {ks : List (Option Expr)} {vs : List Expr} {f g : SE} {ps : List (SE × SE)} : JE X T k f → JE X T v g → JPs X T ks vs ps → JPs X T (some k :: ks) (v :: vs) ((f, g) :: ps)
theorem JPs.pps {pos : Pos} : ∀ {ks : List (Option Expr)} {vs : List Expr} {ps : List (SE × SE)}, JPs X T ks vs ps → PPs X pos ks vs (ps.map fun p => (rE X.K T p.1, rE X.K T p.2))
  | _, _, _, .nil => pps_nil
  | _, _, _, .cons h1 h2 h3 => pps_cons h1 h2 h3.pps
theorem rd_pairs : ∀ {ps : List (SE × SE)} {M : Mem} {B L : Hs} {ρ : Sl} {σ : L2.St} {Q : List (V × V) → Hp → Prop} {ww : List W × List W} {L9 : Hs}, Pt K T M B L ρ σ M.H → pairsGo B ρ ps L = .ok ww L9 →
    (∀ M' us vs, M'.A = B ++ L9 → Rep K T M' → Ext M M' → RWs K T M' ww.1 us → RWs K T M' ww.2 vs → Q (us.zip vs) M'.H) → tPairs (ps.map fun p => (rE K T p.1, rE K T p.2)) σ M.H Q
  | [], M, B, L, ρ, σ, Q, ww, L9, p, e, k => by
    cases e
    exact k M [] [] p.eA p.rep (Ext.refl M) rfl rfl
  | (f, g) :: ps, M, B, L, ρ, σ, Q, ww, L9, p, e, k => by
    obtain ⟨x, L1, e1, e⟩ := bindI e
    obtain ⟨y, L2, e2, e⟩ := bindI e
    obtain ⟨pp, L3, e3, e⟩ := bindI e
    cases e
    refine ⟨M, B, L, ρ, p, ?_⟩
    show post K T M B (f B ρ L) _
    rw [e1]
    intro M1 a1 R1 x1 v1 rv1
    refine ⟨M1, B, L1, ρ, p.next a1 R1 x1, ?_⟩
    show post K T M1 B (g B ρ L1) _
    rw [e2]
    intro M2 a2 R2 x2 v2 rv2
    exact rd_pairs ((p.next a1 R1 x1).next a2 R2 x2) e3 fun M3 us vs a3 R3 x3 r1 r2 => k M3 (v1 :: us) (v2 :: vs) a3 R3 ((x1.trans x2).trans x3) ⟨v1, us, rfl, rv1.ext R1 (x2.trans x3), r1⟩ ⟨v2, vs, rfl, rv2.ext R2 x3, r2⟩
theorem views_ok {B L : Hs} (R : Rep K T M) (eA : M.A = B ++ L) : ∀ {ws : List W} {vs : List V} {ps : List D} {L1 : Hs}, vwsR B L ws = .ok ps L1 → RWs K T M ws vs → DVs K T M ps vs ∧ L1 = L
  | [], vs, ps, L1, e, r => by cases e; exact ⟨r, rfl⟩
  | w :: ws, vs, ps, L1, e, r => by
    obtain ⟨v, rr, rfl, r1, r2⟩ := r
    obtain ⟨p, L2, e1, e'⟩ := bindI e
    obtain ⟨ev, rfl⟩ := optI e1
    obtain ⟨pp, L3, e2, e''⟩ := bindI e'
    clear e e'
    cases e''
    obtain ⟨d, rfl⟩ := views_ok R eA e2 r2
    exact ⟨⟨v, rr, rfl, vw_dv R eA ev r1, d⟩, rfl⟩
theorem keys_ok : ∀ {ks : List D} {us : List V}, ks.all isKey = true → DVs K T M ks us → ∃ kk : List Key, ks.map keyD = kk.map some ∧ us = kk.map kV
  | [], us, _, d => ⟨[], rfl, d⟩
  | k :: ks, us, h, d => by
    obtain ⟨v, r, rfl, d1, d2⟩ := d
    have h : (isKey k && ks.all isKey) = true := h
    rw [Bool.and_eq_true] at h
    obtain ⟨k1, e1⟩ := keyD_ok h.1
    obtain ⟨kk, e2, e3⟩ := keys_ok h.2 d2
    exact ⟨k1 :: kk, by rw [List.map_cons, e1, e2]; rfl, by rw [e3, keyD_dv e1 d1]; rfl⟩
theorem zip_keys : ∀ {kk : List Key} {vs : List V}, kk.length = vs.length → (kk.map kV).zip vs = (kk.zip vs).map (fun kv => (kV kv.1, kv.2)) ∧ (kk.zip vs).map (fun p => some p.1) = kk.map some ∧ (kk.zip vs).map (·.2) = vs
  | [], [], _ => ⟨rfl, rfl, rfl⟩
  | k :: kk, v :: vs, h => by
    obtain ⟨h1, h2, h3⟩ := zip_keys (kk := kk) (vs := vs) (by simpa using h)
    refine ⟨?_, ?_, ?_⟩
    · show (kV k, v) :: (kk.map kV).zip vs = _; rw [h1]; rfl
    · show some k :: (kk.zip vs).map _ = _; rw [h2]; rfl
    · show v :: (kk.zip vs).map _ = _; rw [h3]
  | [], _ :: _, h => by cases h
  | _ :: _, [], h => by cases h
theorem ownAll_len : ∀ {B L L1 : Hs} {ws : List W} {xs : List D}, ownAll B L ws = some (xs, L1) → xs.length = ws.length
  | B, L, L1, [], xs, e => by cases e; rfl
  | B, L, L1, w :: ws, xs, e => by
    unfold ownAll at e
    split at e
    · split at e
      · rename_i h
        cases e
        rw [List.length_cons, List.length_cons, ownAll_len h]
      · cases e
    · cases e
theorem pairs_len : ∀ {ps : List (SE × SE)} {B : Hs} {ρ : Sl} {L : Hs} {ww : List W × List W} {L9 : Hs}, pairsGo B ρ ps L = .ok ww L9 → ww.1.length = ww.2.length
  | [], B, ρ, L, ww, L9, e => by cases e; rfl
  | (f, g) :: ps, B, ρ, L, ww, L9, e => by
    obtain ⟨x, L1, e1, e⟩ := bindI e
    obtain ⟨y, L2, e2, e⟩ := bindI e
    obtain ⟨pp, L3, e3, e⟩ := bindI e
    cases e
    show pp.1.length + 1 = pp.2.length + 1
    rw [pairs_len e3]
theorem je_dct {ks : List (Option Expr)} {vs : List Expr} {ps : List (SE × SE)} {pos : Pos} (h : JPs X T ks vs ps) (hall : ks.all (·.isSome) = true := by rfl) (hl : ks.length = vs.length := by rfl) (h0 : ks ≠ [] := by exact fun z => by cases z) (h15 : ks.length ≤ 15 := by decide) : JE X T (.Dict ks vs pos) (eDct ps) :=
  PE.weak (pe_disp h.pps hall hl h0 h15) fun σ H Q h => by
    obtain ⟨M, B, L, ρ, p, h⟩ := h
    intro d hd
    have eH := p.eH
    subst eH
    obtain ⟨R1, e1, k1⟩ := opened p.rep hd (plain_dK [])
    unfold eDct at h
    cases eg : pairsGo B ρ ps L with
    | exc _ _ _ => rw [eg] at h; exact h.elim
    | bad => rw [eg] at h; exact h.elim
    | ok ww L9 =>
      rw [eg] at h
      refine rd_pairs (M := M.open d (.dK [])) ⟨rfl, p.eA, R1, p.rs.keeps k1⟩ eg fun M2 us vs a2 R2 x2 r1 r2 => ?_
      have hd2 : M2.H d = some (.dK []) := (x2.ks d (by simp [Mem.open])).trans upd_same
      refine ⟨hd2, ?_⟩
      have h : post X.K T M B ((ownsR B L9 ww.2).bind _) _ := h
      unfold ownsR at h
      cases eo : ownAll B L9 ww.2 with
      | none => rw [eo] at h; exact h.elim
      | some y =>
        obtain ⟨xs, L10⟩ := y
        rw [eo] at h
        obtain ⟨M3, a3, h3, R3, x3, rx⟩ := ownAll_ok R2 a2 eo r2
        have h6 : post X.K T M B ((vwsR B L10 ww.1).bind _) _ := h
        cases ek : vwsR B L10 ww.1 with
        | exc _ _ _ => rw [ek] at h6; exact h6.elim
        | bad => rw [ek] at h6; exact h6.elim
        | ok kd L11 =>
          rw [ek] at h6
          obtain ⟨dk, rfl⟩ := views_ok R3 a3 ek (r1.ext R2 x3)
          have h8 : post X.K T M B ((guardR (kd.all isKey && decide (kd.length ≤ 15)) _).bind _) _ := h6
          obtain ⟨hg, h⟩ := post.guard h8
          rw [Bool.and_eq_true] at hg
          obtain ⟨kk, e2, e3⟩ := keys_ok hg.1 dk
          have lk : kk.length = vs.length := by
            have n1 := r1.length
            have n2 := r2.length
            have n3 := pairs_len eg
            rw [e3, List.length_map] at n1
            omega
          obtain ⟨z1, z2, z3⟩ := zip_keys lk
          refine ⟨kk.zip vs, by rw [e3]; exact z1, ?_, ?_⟩
          · have := of_decide_eq_true hg.2
            have n : kd.length = kk.length := by simpa using congrArg List.length e2
            rw [List.length_zip]
            omega
          · have x23 := x2.trans x3
            obtain ⟨R4, k4⟩ := written (d := d) R3 (by rw [x23.sq]; simp [Mem.open]) (plain_dK (mergeK [] (kk.zip vs)))
            have e4 : Ext0 M (M3.put d (.dK (mergeK [] (kk.zip vs)))) := put_ext0 (e1.trans x23.toExt0) (.inr hd)
            obtain ⟨R5, E5, k5, s5⟩ := closed p.rep hd R4 e4 (by show M3.S = _; rw [x23.sq]; rfl) fun a ha => by
              obtain ⟨⟨u, q1, _⟩, _⟩ := p.rep.sc a ha
              have ne : a ≠ d := ne_of_none q1 hd
              show upd M3.H d _ a = _
              rw [upd_ne ne, x23.ks a (by simp [Mem.open]; exact .inr ha)]
              exact upd_ne ne
            obtain ⟨m1, m2⟩ := mergeKV_ok (K := X.K) (T := T) (M := (M3.put d (.dK (mergeK [] (kk.zip vs)))).close M.S) (ks' := kd) (ws' := xs.map W.d) (kvs' := kk.zip vs) (ks := []) (ws := []) (kvs := []) (by rw [e2, z2]) (by rw [z3]; exact RWs.ofD (RVs.keeps k5 _ _ (RVs.keeps k4 _ _ rx))) rfl rfl
            have mm := mergeKV_map kd xs [] []
            rw [List.map_nil] at mm
            rw [mm] at m1 m2
            have fin := h ((M3.put d (.dK (mergeK [] (kk.zip vs)))).close M.S) a3 R5 E5 (.ref d) ⟨d, mergeK [] (kk.zip vs), rfl, s5, upd_same, m1, m2.toD'⟩
            rw [← h3]
            exact fin
theorem je_dctM {ks : List (Option Expr)} {vs : List Expr} {ps : List (SE × SE)} {pos : Pos} (h : JPs X T ks vs ps) (hall : ks.all (·.isSome) = true := by rfl) (hl : ks.length = vs.length := by rfl) (h0 : ks ≠ [] := by exact fun z => by cases z) (h15 : ks.length ≤ 15 := by decide) : JE X T (.Dict ks vs pos) (eDctM ps) :=
  PE.weak (pe_disp h.pps hall hl h0 h15) fun σ H Q h => by
    obtain ⟨M, B, L, ρ, p, h⟩ := h
    intro d hd
    have eH := p.eH
    subst eH
    obtain ⟨R1, e1, k1⟩ := opened p.rep hd (plain_dK [])
    unfold eDctM at h
    cases eg : pairsGo B ρ ps L with
    | exc _ _ _ => rw [eg] at h; exact h.elim
    | bad => rw [eg] at h; exact h.elim
    | ok ww L9 =>
      rw [eg] at h
      refine rd_pairs (M := M.open d (.dK [])) ⟨rfl, p.eA, R1, p.rs.keeps k1⟩ eg fun M2 us vs a2 R2 x2 r1 r2 => ?_
      have hd2 : M2.H d = some (.dK []) := (x2.ks d (by simp [Mem.open])).trans upd_same
      refine ⟨hd2, ?_⟩
      have h6 : post X.K T M B ((vwsR B L9 ww.1).bind _) _ := h
      cases ek : vwsR B L9 ww.1 with
      | exc _ _ _ => rw [ek] at h6; exact h6.elim
      | bad => rw [ek] at h6; exact h6.elim
      | ok kd L11 =>
        rw [ek] at h6
        obtain ⟨dk, rfl⟩ := views_ok R2 a2 ek r1
        have h8 : post X.K T M B ((guardR (kd.all isKey && decide (kd.length ≤ 15)) _).bind _) _ := h6
        obtain ⟨hg, h9⟩ := post.guard h8
        rw [Bool.and_eq_true] at hg
        obtain ⟨kk, e2, e3⟩ := keys_ok hg.1 dk
        have lk : kk.length = vs.length := by
          have n1 := r1.length
          have n2 := r2.length
          have n3 := pairs_len eg
          rw [e3, List.length_map] at n1
          omega
        obtain ⟨z1, z2, z3⟩ := zip_keys lk
        refine ⟨kk.zip vs, by rw [e3]; exact z1, ?_, ?_⟩
        · have := of_decide_eq_true hg.2
          have n : kd.length = kk.length := by simpa using congrArg List.length e2
          rw [List.length_zip]
          omega
        · have dS : d ∈ M2.S := by rw [x2.sq]; simp [Mem.open]
          have dn : ∀ a, a ∈ M.S → a ≠ d := fun a ha => by
            obtain ⟨⟨u, q1, _⟩, _⟩ := p.rep.sc a ha
            exact ne_of_none q1 hd
          have hS : ∀ a, a ∈ M.S → a ∈ M2.S ∧ a ≠ d := fun a ha => ⟨by rw [x2.sq]; simp [Mem.open]; exact .inr ha, dn a ha⟩
          have kp := more_keeps (K := X.K) (T := T) (h := HO.dK (mergeK [] (kk.zip vs))) (o := Ob.dct (mergeKV [] [] kd ww.2).1 (mergeKV [] [] kd ww.2).2) (S := M.S) R2 (.inr dS) (fun a ha => (hS a ha).1)
          obtain ⟨m1, m2⟩ := mergeKV_ok (K := X.K) (T := T) (M := M2.more d (HO.dK (mergeK [] (kk.zip vs))) (Ob.dct (mergeKV [] [] kd ww.2).1 (mergeKV [] [] kd ww.2).2) M.S) (ks' := kd) (ws' := ww.2) (kvs' := kk.zip vs) (ks := []) (ws := []) (kvs := []) (by rw [e2, z2]) (by rw [z3]; exact r2.keeps kp) rfl rfl
          have R5 := more_rep (K := X.K) (T := T) (h := HO.dK (mergeK [] (kk.zip vs))) (o := Ob.dct (mergeKV [] [] kd ww.2).1 (mergeKV [] [] kd ww.2).2) (S := M.S) R2 (.inr dS) hS ⟨_, upd_same, m1, m2⟩
          have E5 := more_ext (K := X.K) (T := T) (h := HO.dK (mergeK [] (kk.zip vs))) (o := Ob.dct (mergeKV [] [] kd ww.2).1 (mergeKV [] [] kd ww.2).2) (e1.trans x2.toExt0) hd (fun a ha => by
            rw [x2.ks a (by simp [Mem.open]; exact .inr ha)]
            exact upd_ne (dn a ha)) p.rep
          have ln : M2.A.length = B.length + L11.length := by rw [a2, List.length_append]
          refine h9 (M2.more d (HO.dK (mergeK [] (kk.zip vs))) (Ob.dct (mergeKV [] [] kd ww.2).1 (mergeKV [] [] kd ww.2).2) M.S) ?_ R5 E5 (.ref d) ⟨?_, ?_⟩
          · show M2.A ++ [_] = _
            rw [a2, List.append_assoc]
          · show _ < (M2.A ++ [_]).length
            rw [List.length_append, ln]
            exact Nat.lt_succ_self _
          · show V.ref d = V.ref (if B.length + L11.length = M2.A.length then d else _)
            rw [if_pos ln.symm]
theorem js_dput {o i value : Expr} {f g e : SE} {pos pos' : Pos} (hu : X.A.units + 1 < cLine) (ho : JE X T o f) (hi : JE X T i g) (hv : JE X T value e) (hs : swapsWith value (some (.Subscript o i pos')) pos.line X.env = pure false := by rfl) : JS X T (.Assign [.Subscript o i pos'] value pos) (sDPut f g e) :=
  PS.weak (ps_dput hu ho hi hv hs) fun Dn σ H h => by
    obtain ⟨M, B, L, ρ, p, h⟩ := h
    refine ⟨M, B, L, ρ, p, (post.st h).mono fun z L1 M1 eA1 R1 x1 q1 v rv => ?_⟩
    refine ⟨M1, B, L1, ρ, p.next eA1 R1 x1, (post.st q1).mono fun w L2 M2 eA2 R2 x2 q2 u ru => ?_⟩
    refine ⟨M2, B, L2, ρ, (p.next eA1 R1 x1).next eA2 R2 x2, (post.st q2).mono fun y L3 M3 eA3 R3 x3 q3 t rt => ?_⟩
    obtain ⟨k, ek, q4⟩ := post.opt1 (post.st q3)
    clear q3
    have dk := vw_dv R3 eA3 ek rt
    have q5 := q4.here eA3 R3
    cases ep : putAt B L3 w k z with
    | none => rw [ep] at q5; exact q5.elim
    | some L4 =>
      rw [ep] at q5
      unfold putAt at ep
      split at ep
      · rename_i n
        split at ep
        · cases ep
        · rename_i hb
          split at ep
          · rename_i ks ws en
            split at ep
            · rename_i hk
              cases ep
              obtain ⟨kk, e1⟩ := keyD_ok hk.1
              have e2 := keyD_dv e1 dk
              have en3 : M3.A[n]? = some (.dct ks ws) := by rw [eA3, List.getElem?_append_right (by omega)]; exact en
              obtain ⟨kvs, h1, h2, h3⟩ := R3.at_ n _ en3
              have lk : kvs.length = ks.length := by simpa using (congrArg List.length h2).symm
              have rv3 := (rv.ext R1 x2).ext R2 x3
              obtain ⟨hn, eu⟩ := ru.ext R2 x3
              have gg := place_put (K := X.K) (T := T) (o' := .dct (putKs k ks) (putVs k z ks ws)) (h' := .dK (putK kvs kk v)) R3 en3 rfl rfl (plain_dK _) fun M' em eS eA' eH E' => by
                refine ⟨putK kvs kk v, by rw [eH]; exact upd_same, putKs_ok e1 h2, putVs_ok e1 (rv3.ext R3 E') h2 (h3.ext R3 E')⟩
              refine ⟨M3.m n, upd M3.H (M3.m n) (.dK (putK kvs kk v)), eu, ?_, ?_⟩
              · rw [e2]
                exact DPut.k h1 (by rw [lk]; exact hk.2)
              · exact q5 _ σ (by show M3.A.set n _ = _; rw [eA3, List.set_append_right _ _ (by omega)]) gg.1 gg.2 (((((p.next eA1 R1 x1).next eA2 R2 x2).next eA3 R3 x3).rs).ext R3 gg.2)
            · cases ep
          · cases ep
      · cases ep
end
end Ev

set_option Elab.async false
set_option linter.all false
set_option maxRecDepth 100000
set_option maxHeartbeats 1000000
set_option autoImplicit false
/-! EvM: the module's constants, a class's constants and static methods, items, dict(pairs), repr. -/
namespace Ev
open PySem PySem.Spec PyProof.Rows L2
section
variable {X : Cx} {T : Tb} {K : PySem.W.Frag} {M : Mem}
theorem je_glob {x : Str} {v : V} {u : Value} {d : D} {pos : Pos} (hm : X.mg x = some u) (r : RelV v u) (rv : ∀ M, Rep X.K T M → RV X.K T M d v) (hg : Gl X x := by rfl) (hd : (x == ("__debug__" : Str)) = false := by decide) : JE X T (.Name x pos) (eC d) := je_c (pe_glob hg hm r hd) rv
theorem je_gint {x : Str} {i : Int} {pos : Pos} (hm : ∃ t, X.mg x = some (.int i t)) (hg : Gl X x := by rfl) (hd : (x == ("__debug__" : Str)) = false := by decide) : JE X T (.Name x pos) (eC (.int i)) :=
  let ⟨t, h⟩ := hm; je_glob (v := .int i) h ⟨t, rfl⟩ (fun _ _ => rfl) hg hd
/-- C.f, a constant -/
theorem je_cval {x f : Str} {C : Addr} {mc u : Value} {v : V} {d : D} {p pos : Pos} (hm : X.mg x = some (.ref C)) (c : ClX.CRead X.K C mc) (cv : ClX.CVal X.K C mc f v u) (rv : ∀ M, Rep X.K T M → RV X.K T M d v) (hg : Gl X x := by rfl) (hd : (x == ("__debug__" : Str)) = false := by decide)
    (hb : attributeBase (.Name x p) f X.env (eval (.Name x p) X.env) = eval (.Name x p) X.env := by rfl) : JE X T (.Attribute (.Name x p) f pos) (eC d) :=
  PE.weak (ClX.pe_cval (pe_glob (v := .ref C) hg hm rfl hd) hb) fun σ H Q h => by
    obtain ⟨M, B, L, ρ, p, h⟩ := h
    have := h M p.eA p.rep (Ext.refl M) v (rv M p.rep)
    rw [p.eH] at this
    exact ⟨C, mc, v, u, rfl, c, cv, this⟩
/-- C.m is a static method: its record at p, its def at g -/
structure SMet (K : PySem.W.Frag) (C : Addr) (mc : Value) (m : Str) (p g : Addr) : Prop where
  at_ : PySem.W.findCls K (.ref C) mc m = some (.get (.builtin "staticmethod.__get__") (.ref p) .none (.ref C))
  rc : ∃ rest, PySem.W.recIn K p "staticmethod" = some (.ref g :: rest)
theorem smet_get {C p g : Addr} {mc : Value} {m : Str} {pins : List (Addr × Obj)} {σ : L2.St} {H : Hp} {s : Shared} {A : Around} {E : Value → Shared → Prop} {pl : Sem Bool} {Q : Value × List Value → Shared → Prop} (I : Inv X pins σ H s) (r : ClX.CRead X.K C mc) (k : SMet X.K C mc m p g)
    (h : ∀ s', Inv X pins σ H s' → Q (.ref g, []) s') : wpAny (model X.prog X.w) A (getMethod (.ref C) m pl) Q E s := by
  obtain ⟨rest, hp⟩ := k.rc
  refine PySem.W.method_cls I.kIn r.ga (PySem.W.cls_bind I.kIn r.rd k.at_ ?_)
  exact wpAny_call (PySem.W.sm_get (s := { s with toks := s.toks + 1 }) I.kIn hp (PySem.W.handed_on rfl (h _ (I.tok _))))
theorem je_stat0 {F : Fn} {k : Nat} {C g pr : Addr} {mc : Value} {fd : FuncData} {ps : List Str} {x m : Str} {p apos pos : Pos} {pl : Sem Bool} (G : FnG X.prog X.w X.K X.mg X.base CX0 k g fd ps (spOf X.K T 0 F)) (hgu : X.A.guards = some []) (hr : Room k X.A) (hm : X.mg x = some (.ref C)) (c : ClX.CRead X.K C mc) (sm : SMet X.K C mc m pr g)
    (hk : PySem.W.keepIn X.K (.ref g) = true) (hb : Binds X.K fd ps []) (hg : Gl X x := by rfl) (hd : (x == ("__debug__" : Str)) = false := by decide)
    (ht : eval (.Call (.Attribute (.Name x p) m apos) [] [] pos) X.env = (do
      let ov ← eval (.Name x p) X.env
      standAt apos.atName
      let (f, first) ← holding [ov] (getMethod ov m pl)
      callWith pos f first (backTo pos (starEach [] X.env)) (backToKw pos (keywordEach [] X.env))) := by rfl) : JE X T (.Call (.Attribute (.Name x p) m apos) [] [] pos) (eCall 0 F aNil) := by
  refine ⟨fun pins s σ H Q I h => ?_⟩
  obtain ⟨M, B, L, ρ, q, h⟩ := h
  have q0 : spOf X.K T 0 F [] M.H Q E0 := ⟨rfl, M, B, L, [], rfl, q.eA, q.rep, rfl, h⟩
  rw [q.eH] at q0
  refine PySem.W.methodCall_KW (pl := pl) (thn ((pe_glob (X := X) (v := .ref C) hg hm rfl hd).run pins s σ H (fun v H1 => v = .ref C ∧ H1 = H) I ⟨rfl, rfl⟩) fun u s1 ⟨z, H1, I1, rx, ex, eh⟩ => ?_) ht
  subst ex eh
  obtain rfl : u = Value.ref C := rx
  refine smet_get I1 c sm fun s2 I2 => ?_
  refine PySem.W.callWith_K0 I2.kIn hk ?_
  have l : (([] : List Value) ++ ([] : List Value)).length = ps.length := by rw [← G.ln _ _ _ _ q0]; rfl
  have b := hb s2 [] I2.kIn l
  exact G.call hgu hr pass0 I2 b .nil q0

/-! ### the heap grows by objects that nobody names -/
theorem grow (R : Rep K T M) {H' : Hp} (k : ∀ b o, M.H b = some o → H' b = some o) : Rep K T { M with H := H' } ∧ Ext M { M with H := H' } := by
  have e : Ext M { M with H := H' } := ⟨⟨Nat.le_refl _, fun _ _ => rfl, fun _ _ h => h, fun n h ⟨o, e, _⟩ => absurd (List.getElem?_eq_some_iff.mp e).1 (Nat.not_lt.mpr h), fun a u h _ => k a u h, fun a h => by
      cases q : M.H a with
      | none => exact absurd q h
      | some o =>
        show H' a ≠ none
        rw [k a o q]
        exact (by intro z; cases z), fun _ h => .inl h⟩, rfl, fun a ha => by
      obtain ⟨⟨u, h1, _⟩, _⟩ := R.sc a ha
      exact (k a u h1).trans h1.symm⟩
  refine ⟨⟨R.inj, fun n ob q => ?_, fun a ha => ⟨?_, (R.sc a ha).2⟩⟩, e⟩
  · have r := R.at_ n ob q
    cases ob with
    | frz x => exact RV.ext R e x _ r
    | lst ws => obtain ⟨vs, h1, h2⟩ := r; exact ⟨vs, k _ _ h1, h2.ext R e⟩
    | dct ks ws => obtain ⟨kvs, h1, h2, h3⟩ := r; exact ⟨kvs, k _ _ h1, h2, h3.ext R e⟩
    | ins _ _ => exact r.elim
    | dcn ks ws => obtain ⟨kvs, h1, h2, h3, h4, h5⟩ := r; exact ⟨kvs, k _ _ h1, h2, h3, RVs.ext R e _ _ h4, h5.ext R e⟩
  · obtain ⟨⟨u, h1, h2⟩, _⟩ := R.sc a ha
    exact ⟨u, k a u h1, h2⟩
theorem grow_sep (R : Rep K T M) {H' : Hp} {p : Addr} (hp : M.H p = none) : Sep { M with H := H' } p := by
  refine ⟨fun n l q => ?_, fun hs => ?_⟩
  · obtain ⟨u, e, _⟩ := R.live_kind l
    have q' : M.m n = p := q
    rw [q', hp] at e
    cases e
  · obtain ⟨⟨u, e, _⟩, _⟩ := R.sc p hs
    rw [hp] at e
    cases e

/-! ### list(d.items()) -/
def pairsD (ks vs : List D) : List D := List.zipWith (fun k v => .tup [k, v]) ks vs
def opItems : D → Option D
  | .dct ks vs => some (.lst (pairsD ks vs))
  | _ => none
theorem keyD_rv' {k : D} {kk : Key} (h : keyD k = some kk) : RV K T M k (kV kk) := by
  cases k with
  | int i => cases h; exact rfl
  | str s => cases h; exact rfl
  | _ => cases h
theorem pairs_rv {M' : Mem} : ∀ {ks xs : List D} {kvs : List (Key × V)} {ts : List Addr}, ks.map keyD = kvs.map (fun p => some p.1) → RVs K T M' xs (kvs.map (·.2)) → Paired (fun (t : Addr) (q : Key × V) => M'.H t = some (.tup [kV q.1, q.2])) ts kvs → RVs K T M' (pairsD ks xs) (ts.map V.ref)
  | [], xs, kvs, ts, e, r, h => by
    have : kvs = [] := by simpa using e.symm
    subst this
    cases h
    exact rfl
  | k :: ks, xs, [], ts, e, r, h => by cases e
  | k :: ks, xs, (kk, v) :: kvs, ts, e, r, h => by
    have e1 : keyD k = some kk := (List.cons.inj e).1
    have e2 : ks.map keyD = kvs.map (fun p => some p.1) := (List.cons.inj e).2
    cases xs with
    | nil => cases (show v :: kvs.map (·.2) = [] from r)
    | cons x xs =>
      obtain ⟨v1, r1, q, h1, h2⟩ := r
      have q : v :: kvs.map (·.2) = v1 :: r1 := q
      cases q
      cases h with
      | cons ht hr => exact ⟨_, _, rfl, ⟨_, _, rfl, .inl (.inl ht), ⟨_, _, rfl, keyD_rv' e1, _, _, rfl, h1, rfl⟩⟩, pairs_rv e2 h2 hr⟩
theorem je_items {e : Expr} {f : SE} {p apos cpos pos : Pos} (hc : X.calm = true) (he : JE X T e f) (hm : X.mg "list" = none) (hg : Gl X "list" := by rfl) (hv : bootBuiltins "list" = some (.type "list") := by decide +kernel)
    (hbase : attributeBase e "items" X.env (eval e X.env) = eval e X.env := by rfl) (hline : (apos.endLine == cpos.line) = true := by rfl)
    (hs : starEach [.Call (.Attribute e "items" apos) [] [] cpos] X.env = (false, eval (.Call (.Attribute e "items" apos) [] [] cpos) X.env) :: starEach [] X.env := by rfl) :
    JE X T (.Call (.Name "list" p) [.Call (.Attribute e "items" apos) [] [] cpos] [] pos) (e1 opItems f) :=
  PE.weak (LiI.pe_listItems hc he hg hm hv hbase hline hs) fun σ H Q h => by
    obtain ⟨M, B, L, ρ, p, h⟩ := h
    refine ⟨M, B, L, ρ, p, (post.bind h).mono fun w L1 M1 eA R x q v rv => ?_⟩
    obtain ⟨pd, ev, dv, q⟩ := q.view R eA rv
    obtain ⟨z, ez, q⟩ := q.opt
    cases pd with
    | dct ks xs =>
      cases ez
      obtain ⟨a, kvs, rfl, e2, e3, e4⟩ := dv.dct
      refine ⟨a, kvs, rfl, e2, fun H' pp ts k1 k2 k3 k4 k5 k6 => ?_⟩
      obtain ⟨R2, x2⟩ := grow R k1
      exact q { M1 with H := H' } eA R2 x2 (.ref pp) ⟨pp, _, rfl, grow_sep R k2, k5, pairs_rv e3 (RVs.ext R x2 _ _ e4) k6⟩
    | _ => cases ez
/-! ### dict(pairs) -/
def unpair : List D → Option (List D × List D)
  | [] => some ([], [])
  | .tup [k, v] :: r => match unpair r with
    | some (ks, vs) => some (k :: ks, v :: vs)
    | none => none
  | _ => none
def bDict : List D → Option D
  | [.lst xs] => match unpair xs with
    | some (ks, vs) => if ks.all isKey = true then some (.dct (mergeKV [] [] ks vs).1 (mergeKV [] [] ks vs).2) else none
    | none => none
  | _ => none
theorem unpair_ok : ∀ {xs ks ds : List D} {vs : List V}, unpair xs = some (ks, ds) → ks.all isKey = true → RVs K T M xs vs →
    ∃ (ps : List Addr) (kvs : List (Key × V)), vs = ps.map V.ref ∧ Paired (fun p kv => SqT K M.H p [kV kv.1, kv.2]) ps kvs ∧ ks.map keyD = kvs.map (fun p => some p.1) ∧ RVs K T M ds (kvs.map (·.2))
  | [], ks, ds, vs, e, _, r => by
    cases e
    exact ⟨[], [], r, .nil, rfl, rfl⟩
  | x :: xs, ks, ds, vs, e, hk, r => by
    unfold unpair at e
    split at e
    · cases ‹_ :: _ = []›
    · rename_i k v rr eq
      cases eq
      split at e
      · rename_i ks' vs' eu
        cases e
        have hk : (isKey k && ks'.all isKey) = true := hk
        rw [Bool.and_eq_true] at hk
        obtain ⟨v1, r1, rfl, h1, h2⟩ := r
        obtain ⟨ps, kvs, rfl, e2, e3, e4⟩ := unpair_ok eu hk.2 h2
        obtain ⟨a, us, rfl, s1, u1, t1, rfl, a1, u2, t2, rfl, a2, a3⟩ := h1
        have a3 : t2 = [] := a3
        subst a3
        obtain ⟨kk, ek⟩ := keyD_ok hk.1
        have := keyD_dv ek a1.dv
        subst this
        refine ⟨a :: ps, (kk, u2) :: kvs, rfl, .cons s1 e2, ?_, ⟨_, _, rfl, a2, e4⟩⟩
        rw [List.map_cons, List.map_cons, ek, e3]
      · cases e
    · cases e
theorem cd_dict (hc : X.calm = true) : CallD X T (.type "dict") bDict := call_D1 rfl (fun _ _ _ => by simp [bDict]) fun pins s σ M p z x u Q I rx R d e k => by
  cases p with
  | lst xs =>
    have e : (match unpair xs with
      | some (ks, vs) => if ks.all isKey = true then some (D.dct (mergeKV [] [] ks vs).1 (mergeKV [] [] ks vs).2) else none
      | none => none) = some z := e
    cases eu : unpair xs with
    | none => rw [eu] at e; cases e
    | some y =>
      obtain ⟨ks, ds⟩ := y
      rw [eu] at e
      dsimp only at e
      split at e
      · rename_i hk
        cases e
        obtain ⟨a, vs, rfl, s1, r1⟩ := d.lst
        obtain ⟨ps, kvs, rfl, e2, e3, e4⟩ := unpair_ok eu hk r1
        refine call_dictP hc pins s σ _ _ [u] Q I (.cons rx .nil) ⟨a, ps, kvs, rfl, SqL.of s1, e2, fun p hp => ?_⟩
        obtain ⟨R2, x2⟩ := garb (o := .dK (mergeK [] kvs)) R hp
        obtain ⟨m1, m2⟩ := mergeKV_ok (K := X.K) (T := T) (M := { M with H := upd M.H p (.dK (mergeK [] kvs)) }) (ks' := ks) (ws' := ds.map W.d) (kvs' := kvs) (ks := []) (ws := []) (kvs := []) e3 (RWs.ofD (RVs.ext R x2 _ _ e4)) rfl rfl
        have mm := mergeKV_map ks ds [] []
        rw [List.map_nil] at mm
        rw [mm] at m1 m2
        exact k { M with H := upd M.H p (.dK (mergeK [] kvs)) } (.ref p) rfl R2 x2 ⟨p, mergeK [] kvs, rfl, sep_new R hp, upd_same, m1, m2.toD'⟩
      · cases e
  | _ => cases e
/-! ### repr -/
def bRepr : List D → Option D
  | [.tup xs] => if okD (.tup xs) = true ∧ (toPy (.tup xs)).showable = true ∧ (toPy (.tup xs)).shown.length ≤ sizeL then some (.str (toPy (.tup xs)).shown.cps.toList) else none
  | [.bl b] => some (.str (if b = true then trueS else falseS))
  | [.lst xs] => if okD (.lst xs) = true ∧ (toPy (.lst xs)).showable = true ∧ (toPy (.lst xs)).shown.length ≤ sizeL then some (.str (toPy (.lst xs)).shown.cps.toList) else none
  | _ => none
theorem repr_ok {pins : List (Addr × Obj)} {s : Shared} {σ : L2.St} {p : D} {a : Addr} {u : Value} {Q : VK} (hgu : X.A.guards = some []) (hu : X.A.units + 66 < cLine) (I : Inv X pins σ M.H s) (rx : RelV (.ref a) u) (R : Rep X.K T M) (d : DV X.K T M p (.ref a)) (ok : okD p = true) (sh : (toPy p).showable = true)
    (sz : (toPy p).shown.length ≤ sizeL) (k : ∀ M' v, M'.A = M.A → Rep X.K T M' → Ext M M' → RV X.K T M' (.str (toPy p).shown.cps.toList) v → Q v M'.H) : wpAny (model X.prog X.w) X.A (call (.builtin "repr") [u]) (EP X pins σ Q) X.xe s := by
  obtain rfl : u = Value.ref a := rx
  obtain ⟨as, r1⟩ := Dp.reads I (toPy p) (.ref a) (.ref a) (dv_dp ok d) rfl
  have dp : (toPy p).depth ≤ 64 := by
    rw [dep_of]
    unfold okD at ok
    rw [Bool.and_eq_true] at ok
    exact of_decide_eq_true ok.2
  have nd : (toPy p).hasDict = false := PyData.hasDict_of_canLay _ (lay_of p (okD_dOk ok))
  refine repr_of_reads' r1 sh (PyData.noDict_hsm nd) hgu (by omega) (fun _ _ e => e) (fun h' t tk kp => ?_) sz
  exact ⟨.str (toPy p).shown, M.H, I.kept (t' := tk) kp, ⟨t, rfl⟩, k M _ rfl R (Ext.refl M) (by show V.str _ = V.str _; simp)⟩
theorem cd_repr (hgu : X.A.guards = some []) (hu : X.A.units + 66 < cLine) : CallD X T (.builtin "repr") bRepr := call_D1 rfl (fun _ _ _ => by simp [bRepr]) fun pins s σ M p z x u Q I rx R d e k => by
  cases p with
  | tup xs =>
    have e : (if _ then _ else _) = some z := e
    split at e
    · rename_i h
      cases e
      obtain ⟨a, vs, rfl, _⟩ := d.tup
      exact repr_ok hgu hu I rx R d h.1 h.2.1 h.2.2 k
    · cases e
  | lst xs =>
    have e : (if _ then _ else _) = some z := e
    split at e
    · rename_i h
      cases e
      obtain ⟨a, vs, rfl, _⟩ := d.lst
      exact repr_ok hgu hu I rx R d h.1 h.2.1 h.2.2 k
    · cases e
  | bl b =>
    cases e
    exact call_repr_bool pins s σ _ _ [u] Q I (.cons rx .nil) ⟨b, by rw [d.bl], k M _ rfl R (Ext.refl M) rfl⟩
  | _ => cases e
end
end Ev

set_option Elab.async false
set_option linter.all false
set_option maxRecDepth 100000
set_option maxHeartbeats 1000000
set_option autoImplicit false
/-! EvP: lists that change, dicts with nested keys. -/
namespace Ev
open PySem PySem.Spec PyProof.Rows L2
section
variable {X : Cx} {T : Tb} {K : PySem.W.Frag} {M : Mem}
theorem new_place {B L : Hs} (R : Rep K T M) (eA : M.A = B ++ L) {a : Addr} (ha : M.H a = none) {o : Ob} {h : HO} {Q : VK} (ro : Keeps (K := K) M (M.more a h o M.S) → RO K T (M.more a h o M.S) a o)
    (q : post K T M B (.ok (.ref (B.length + L.length)) (L ++ [o])) fun w _ M' => ∀ v, RW K T M' w v → Q v M'.H) : Q (.ref a) (upd M.H a h) := by
  have hS : ∀ b, b ∈ M.S → b ∈ M.S ∧ b ≠ a := fun b hb => ⟨hb, by
    obtain ⟨⟨u, q1, _⟩, _⟩ := R.sc b hb
    exact ne_of_none q1 ha⟩
  have kp := more_keeps (K := K) (h := h) (o := o) (S := M.S) R (.inl ha) (fun b hb => hb)
  have R' := more_rep (K := K) (h := h) (o := o) (S := M.S) R (.inl ha) hS (ro kp)
  have E' := more_ext (K := K) (T := T) (h := h) (o := o) (Ext0.refl M) ha (fun _ _ => rfl) R
  have ln : M.A.length = B.length + L.length := by rw [eA, List.length_append]
  refine q (M.more a h o M.S) ?_ R' E' (.ref a) ⟨?_, ?_⟩
  · show M.A ++ [_] = _
    rw [eA, List.append_assoc]
  · show _ < (M.A ++ [_]).length
    rw [List.length_append, ln]
    exact Nat.lt_succ_self _
  · show V.ref a = V.ref (if B.length + L.length = M.A.length then a else _)
    rw [if_pos ln.symm]
theorem je_lstM {es : List Expr} {g : SA} {pos : Pos} (h : JA X T es g) : JE X T (.List es pos) (eLstM g) :=
  PE.weak (pe_lst h) fun σ H Q h => by
    obtain ⟨M, B, L, ρ, p, h⟩ := h
    refine ⟨M, B, L, ρ, p, (post.bind h).mono fun ws L1 M1 eA R x q vs rvs => ?_⟩
    obtain ⟨hl, q⟩ := q.guard
    have hl := of_decide_eq_true hl
    refine ⟨by rw [← rvs.length, ← sizeL_eq]; exact hl, fun a ha => ?_⟩
    exact new_place R eA ha (o := .lst ws) (h := .lst vs) (fun k => ⟨vs, upd_same, rvs.keeps k⟩) q
theorem seqS_dv {p : D} {v : V} {ys : List D} (h : seqS p = some ys) (d : DV K T M p v) : ∃ a vs, v = .ref a ∧ (SqL K M.H a vs ∨ SqT K M.H a vs) ∧ RVs K T M ys vs := by
  cases p with
  | tup xs => cases h; obtain ⟨a, vs, e, s1, r1⟩ := d.tup; exact ⟨a, vs, e, .inr s1, r1⟩
  | lst xs => cases h; obtain ⟨a, vs, e, s1, r1⟩ := d.lst; exact ⟨a, vs, e, .inl (SqL.of s1), r1⟩
  | scr xs => cases h; obtain ⟨a, vs, e, s1, r1⟩ := d.scr; exact ⟨a, vs, e, .inl s1, r1⟩
  | _ => cases h
theorem je_listM {e : Expr} {f : SE} {p pos : Pos} (hm : X.mg "list" = none) (ha : JE X T e f) (hg : Gl X "list" := by rfl) (hv : bootBuiltins "list" = some (.type "list") := by decide +kernel)
    (hs : starEach [e] X.env = [(false, eval e X.env)] := by rfl) (hpl : (backTo pos (starEach ([] : List Expr) X.env)).any (·.1) = false := by rfl) : JE X T (.Call (.Name "list" p) [e] [] pos) (eListM f) := by
  have hA : JA X T [e] (aCons f aNil) := ja_cons ha ja_nil (by rw [hs]; rfl)
  refine PE.weak (pe_callTy call_list_of hg hm hv hA (by decide) (by decide) (by rw [hs]; rfl) hpl) fun σ H Q h => ?_
  obtain ⟨M, B, L, ρ, p, h⟩ := h
  refine ⟨M, B, L, ρ, p, ?_⟩
  show post X.K T M B ((f B ρ L).bind fun x L1 => (aNil B ρ L1).bind fun xs L2 => Res.ok (x :: xs) L2) _
  unfold eListM at h
  have h := post.bind h
  cases e1 : f B ρ L with
  | exc _ _ _ => rw [e1] at h; exact h.elim
  | bad => rw [e1] at h; exact h.elim
  | ok w L1 =>
    rw [e1] at h
    intro M1 eA R x vs rvs
    obtain ⟨v, r, rfl, rv, rfl⟩ := rvs
    have q := h M1 eA R x
    obtain ⟨pd, ev, dv, q⟩ := q.view R eA rv
    obtain ⟨ys, es, q⟩ := q.opt
    obtain ⟨a, us, rfl, sq, ru⟩ := seqS_dv es dv
    exact ⟨a, us, rfl, sq, fun b hb => new_place R eA hb (o := .lst (ys.map .d)) (h := .lst us) (fun k => ⟨us, upd_same, RWs.ofD (RVs.keeps k _ _ ru)⟩) q⟩

/-! ### methods of lists -/
theorem lstAt_at {B L : Hs} {w : W} {v : V} {n : Nat} {ws : List W} (R : Rep K T M) (eA : M.A = B ++ L) (r : RW K T M w v) (h : lstAt B L w = some (n, ws)) :
    v = .ref (M.m (n + B.length)) ∧ M.A[n + B.length]? = some (.lst ws) ∧ ∃ vs, M.H (M.m (n + B.length)) = some (.lst vs) ∧ RWs K T M ws vs := by
  unfold lstAt at h
  split at h
  · rename_i k
    split at h
    · cases h
    · rename_i hb
      split at h
      · rename_i us e
        cases h
        have ek : k - B.length + B.length = k := by omega
        rw [ek]
        have e' : M.A[k]? = some (.lst ws) := by rw [eA, List.getElem?_append_right (by omega)]; exact e
        exact ⟨r.2, e', R.at_ k _ e'⟩
      · cases h
  · cases h
theorem lstAt_ty {B L : Hs} {w : W} {v : V} (R : Rep K T M) (eA : M.A = B ++ L) (r : RW K T M w v) (h : (lstAt B L w).isSome = true) : tyV K "list" v M.H := by
  cases e : lstAt B L w with
  | none => rw [e] at h; cases h
  | some x =>
    obtain ⟨n, ws⟩ := x
    obtain ⟨rfl, _, vs, h1, _⟩ := lstAt_at R eA r e
    exact .inl ⟨rfl, vs, SqL.of h1⟩
/-- a list's place is changed -/
theorem lst_put {B L : Hs} {n : Nat} {ws ws' : List W} {vs' : List V} {Q : Mem → Prop} (R : Rep K T M) (eA : M.A = B ++ L) (hn : M.A[n + B.length]? = some (.lst ws)) (r : RWs K T M ws' vs')
    (q : ∀ M', M'.A = B ++ L.set n (.lst ws') → Rep K T M' → Ext M M' → M'.H = upd M.H (M.m (n + B.length)) (.lst vs') → Q M') : Q { M with A := M.A.set (n + B.length) (.lst ws'), H := upd M.H (M.m (n + B.length)) (.lst vs') } := by
  have gg := place_put (K := K) (T := T) (o' := .lst ws') (h' := .lst vs') R hn rfl rfl (plain_lst _) fun M' em eS eA' eH E' => ⟨vs', by rw [eH]; exact upd_same, r.ext R E'⟩
  refine q _ ?_ gg.1 gg.2 rfl
  show M.A.set (n + B.length) _ = _
  rw [eA, List.set_append_right _ _ (by omega), Nat.add_sub_cancel]
theorem je_app {o e : Expr} {f g : SE} {apos cpos : Pos} (ho : JE X T o f) (he : JE X T e g) (hbase : attributeBase o "append" X.env (eval o X.env) = eval o X.env := by rfl)
    (hfew : ((backTo cpos (starEach [e] X.env)).all (fun x => !x.1) && (backToKw cpos (keywordEach [] X.env)).all (fun x => x.1.isSome)
      && decide ([e].length + ([] : List Keyword).length + (if ([] : List Keyword).isEmpty then 0 else 1) < 30)) = true := by rfl)
    (hline : (apos.endLine == cpos.line) = true := by rfl) (hs : starEach [e] X.env = (false, eval e X.env) :: starEach [] X.env := by rfl) (hplain : (backTo cpos (starEach [] X.env)).any (·.1) = false := by rfl) : JE X T (.Call (.Attribute o "append" apos) [e] [] cpos) (eApp f g) := by
  have hA : JA X T [e] (aCons g aNil) := ja_cons he ja_nil hs
  refine PE.weak (pe_bm PySem.F.plainAttrs_list PySem.F.slot_list_append PySem.F.type_list_append mt_append ho hA hbase hfew hline hs hplain) fun σ H Q h => ?_
  obtain ⟨M, B, L, ρ, p, h⟩ := h
  refine ⟨M, B, L, ρ, p, (post.bind h).mono fun w L1 M1 eA R x q v rv => ?_⟩
  obtain ⟨hl, q⟩ := q.guard
  refine ⟨lstAt_ty R eA rv hl, M1, B, L1, ρ, p.next eA R x, ?_⟩
  show post X.K T M1 B ((g B ρ L1).bind fun x L1 => (aNil B ρ L1).bind fun xs L2 => Res.ok (x :: xs) L2) _
  have q := post.bind q
  cases e1 : g B ρ L1 with
  | exc _ _ _ => rw [e1] at q; exact q.elim
  | bad => rw [e1] at q; exact q.elim
  | ok y L2 =>
    rw [e1] at q
    intro M2 eA2 R2 x2 vs rvs
    obtain ⟨u, r, rfl, ru, rfl⟩ := rvs
    have q := q M2 eA2 R2 x2
    dsimp only at q
    cases e2 : lstAt B L2 w with
    | none => rw [e2] at q; exact q.elim
    | some z =>
      obtain ⟨n, ws⟩ := z
      rw [e2] at q
      dsimp only at q
      split at q
      · rename_i hz
        obtain ⟨rfl, en, us, hu, rw'⟩ := lstAt_at R2 eA2 (rv.ext R x2) e2
        refine ⟨_, us, u, rfl, rfl, hu, by rw [← rw'.length, ← sizeL_eq]; exact hz, ?_⟩
        exact lst_put (Q := fun M' => Q .non M'.H) R2 eA2 en (ws' := ws ++ [y]) (rw'.append (es := [y]) ⟨u, [], rfl, ru, rfl⟩) fun M' a' R' x' _ => q M' a' R' x' .non rfl
      · exact q.elim
theorem je_ext {o e : Expr} {f g : SE} {apos cpos : Pos} (ho : JE X T o f) (he : JE X T e g) (hbase : attributeBase o "extend" X.env (eval o X.env) = eval o X.env := by rfl)
    (hfew : ((backTo cpos (starEach [e] X.env)).all (fun x => !x.1) && (backToKw cpos (keywordEach [] X.env)).all (fun x => x.1.isSome)
      && decide ([e].length + ([] : List Keyword).length + (if ([] : List Keyword).isEmpty then 0 else 1) < 30)) = true := by rfl)
    (hline : (apos.endLine == cpos.line) = true := by rfl) (hs : starEach [e] X.env = (false, eval e X.env) :: starEach [] X.env := by rfl) (hplain : (backTo cpos (starEach [] X.env)).any (·.1) = false := by rfl) : JE X T (.Call (.Attribute o "extend" apos) [e] [] cpos) (eExt f g) := by
  have hA : JA X T [e] (aCons g aNil) := ja_cons he ja_nil hs
  refine PE.weak (pe_bm PySem.F.plainAttrs_list PySem.F.slot_list_extend PySem.F.type_list_extend mt_extend ho hA hbase hfew hline hs hplain) fun σ H Q h => ?_
  obtain ⟨M, B, L, ρ, p, h⟩ := h
  refine ⟨M, B, L, ρ, p, (post.bind h).mono fun w L1 M1 eA R x q v rv => ?_⟩
  obtain ⟨hl, q⟩ := q.guard
  refine ⟨lstAt_ty R eA rv hl, M1, B, L1, ρ, p.next eA R x, ?_⟩
  show post X.K T M1 B ((g B ρ L1).bind fun x L1 => (aNil B ρ L1).bind fun xs L2 => Res.ok (x :: xs) L2) _
  have q := post.bind q
  cases e1 : g B ρ L1 with
  | exc _ _ _ => rw [e1] at q; exact q.elim
  | bad => rw [e1] at q; exact q.elim
  | ok y L2 =>
    rw [e1] at q
    intro M2 eA2 R2 x2 vs rvs
    obtain ⟨u, r, rfl, ru, rfl⟩ := rvs
    have q3 := q M2 eA2 R2 x2
    obtain ⟨pd, _, dv, q4⟩ := q3.view R2 eA2 ru
    obtain ⟨ys, ey, q⟩ := q4.opt
    clear q3 q4
    cases pd with
    | lst zs =>
      cases ey
      obtain ⟨b, bs, rfl, hb, rb⟩ := dv.lst
      cases e2 : lstAt B L2 w with
      | none => rw [e2] at q; exact q.elim
      | some z =>
        obtain ⟨n, ws⟩ := z
        rw [e2] at q
        dsimp only at q
        split at q
        · rename_i hz
          obtain ⟨rfl, en, us, hu, rw'⟩ := lstAt_at R2 eA2 (rv.ext R x2) e2
          refine ⟨_, b, us, bs, rfl, rfl, hu, hb, by rw [← rw'.length, ← rb.length, ← sizeL_eq]; exact hz, ?_⟩
          exact lst_put (Q := fun M' => Q .non M'.H) R2 eA2 en (rw'.append (RWs.ofD rb)) fun M' a' R' x' _ => q M' a' R' x' .non rfl
        · exact q.elim
    | _ => cases ey
theorem RWs.get : ∀ {ws : List W} {vs : List V} {i : Nat} {w : W}, RWs K T M ws vs → ws[i]? = some w → ∃ v, vs[i]? = some v ∧ RW K T M w v
  | [], vs, _, _, h, e => by simp at e
  | x :: xs, vs, 0, d, h, e => by
    obtain ⟨v, r, rfl, h1, h2⟩ := h
    simp at e; subst e
    exact ⟨v, rfl, h1⟩
  | x :: xs, vs, i + 1, d, h, e => by
    obtain ⟨v, r, rfl, h1, h2⟩ := h
    obtain ⟨u, e1, r1⟩ := RWs.get (i := i) (w := d) h2 (by simpa using e)
    exact ⟨u, by simpa using e1, r1⟩
theorem RWs.dropLast : ∀ {ws : List W} {vs : List V}, RWs K T M ws vs → RWs K T M ws.dropLast vs.dropLast
  | [], vs, h => by rw [show vs = [] from h]; exact rfl
  | [x], vs, h => by
    obtain ⟨v, r, rfl, h1, rfl⟩ := h
    exact rfl
  | x :: y :: xs, vs, h => by
    obtain ⟨v, r, rfl, h1, h2⟩ := h
    have ih := RWs.dropLast h2
    obtain ⟨u, r', rfl, _, _⟩ := h2
    exact ⟨v, _, rfl, h1, ih⟩
theorem RWs.listSet {w : W} {v : V} (r : RW K T M w v) : ∀ {ws : List W} {vs : List V} (i : Nat), RWs K T M ws vs → RWs K T M (ws.set i w) (vs.set i v)
  | [], vs, _, h => by rw [show vs = [] from h]; exact rfl
  | x :: xs, vs, 0, h => by
    obtain ⟨u, q, rfl, h1, h2⟩ := h
    exact ⟨v, q, rfl, r, h2⟩
  | x :: xs, vs, i + 1, h => by
    obtain ⟨u, q, rfl, h1, h2⟩ := h
    exact ⟨u, q.set i v, rfl, h1, RWs.listSet r i h2⟩
theorem je_pop {o : Expr} {f : SE} {apos cpos : Pos} (ho : JE X T o f) (hbase : attributeBase o "pop" X.env (eval o X.env) = eval o X.env := by rfl) (hline : (apos.endLine == cpos.line) = true := by rfl) : JE X T (.Call (.Attribute o "pop" apos) [] [] cpos) (ePop f) := by
  refine PE.weak (pe_bm0 PySem.F.plainAttrs_list PySem.F.slot_list_pop PySem.F.type_list_pop mt_pop ho hbase hline) fun σ H Q h => ?_
  obtain ⟨M, B, L, ρ, p, h⟩ := h
  refine ⟨M, B, L, ρ, p, (post.bind h).mono fun w L1 M1 eA R x q v rv => ?_⟩
  cases e2 : lstAt B L1 w with
  | none => rw [e2] at q; exact q.elim
  | some z =>
    obtain ⟨n, ws⟩ := z
    rw [e2] at q
    dsimp only at q
    cases e3 : ws[ws.length - 1]? with
    | none => rw [e3] at q; exact q.elim
    | some y =>
      rw [e3] at q
      refine ⟨lstAt_ty R eA rv (by rw [e2]; rfl), ?_⟩
      obtain ⟨rfl, en, us, hu, rw'⟩ := lstAt_at R eA rv e2
      obtain ⟨u, e4, ru⟩ := rw'.get e3
      refine ⟨_, us, u, rfl, rfl, hu, by rw [← rw'.length]; exact e4, ?_⟩
      exact lst_put (Q := fun M' => Q u M'.H) R eA en rw'.dropLast fun M' a' R' x' _ => q M' a' R' x' u (ru.ext R x')
/-! ### dicts with nested keys -/
mutual
theorem nk_ok : ∀ d : D, nkOk d = true → ∃ k, nk d = some k ∧ k.depth = dep d
  | .non, _ => ⟨_, rfl, rfl⟩
  | .bl _, _ => ⟨_, rfl, rfl⟩
  | .int _, _ => ⟨_, rfl, rfl⟩
  | .str _, _ => ⟨_, rfl, rfl⟩
  | .tup xs, h => by
    obtain ⟨ks, e, q⟩ := nks_ok xs h
    exact ⟨.tup ks, by unfold nk; rw [e], by show NestedKey.depthAll ks + 1 = deps xs + 1; rw [q]⟩
  | .lst _, h => by cases h
  | .dct _ _, h => by cases h
  | .set _, h => by cases h
  | .obj _ _, h => by cases h
  | .fn _, h => by cases h
  | .scr _, h => by cases h
theorem nks_ok : ∀ xs : List D, nkOks xs = true → ∃ ks, nks xs = some ks ∧ NestedKey.depthAll ks = deps xs
  | [], _ => ⟨[], rfl, rfl⟩
  | x :: xs, h => by
    have h : (nkOk x && nkOks xs) = true := h
    rw [Bool.and_eq_true] at h
    obtain ⟨k, e1, q1⟩ := nk_ok x h.1
    obtain ⟨ks, e2, q2⟩ := nks_ok xs h.2
    exact ⟨k :: ks, by unfold nks; rw [e1, e2], by show max _ _ = max _ _; rw [q1, q2]⟩
end
theorem isNK_ok {d : D} (h : isNK d = true) : ∃ ks, nk d = some (.tup ks) ∧ (NestedKey.tup ks).depth ≤ 8 := by
  cases d with
  | tup xs =>
    have h : (nkOks xs && decide (dep (.tup xs) ≤ 8)) = true := h
    rw [Bool.and_eq_true, decide_eq_true_eq] at h
    obtain ⟨ks, e, q⟩ := nks_ok xs h.1
    refine ⟨ks, by unfold nk; rw [e], ?_⟩
    show NestedKey.depthAll ks + 1 ≤ 8
    rw [q]
    exact h.2
  | _ => cases h
theorem str_inj (s t : List Nat) : decide ((⟨s.toArray⟩ : Str) = ⟨t.toArray⟩) = decide (s = t) := by
  by_cases h : s = t
  · rw [h, decide_eq_true rfl, decide_eq_true rfl]
  · rw [decide_eq_false h, decide_eq_false]
    intro z
    injection z with z
    exact h (by simpa using congrArg Array.toList z)
mutual
theorem eqD_nk : ∀ (a b : D) (ka kb : NestedKey), nk a = some ka → nk b = some kb → eqD a b = NestedKey.beq ka kb
  | .non, b, _, _, ea, eb => by cases ea; cases b <;> first | (cases eb; done) | (cases eb; rfl) | (unfold nk at eb; split at eb; (cases eb; rfl); cases eb)
  | .bl p, b, _, _, ea, eb => by
    cases ea
    cases b with
    | bl q => cases eb; cases p <;> cases q <;> rfl
    | int j => cases eb; show ((if p = true then 1 else 0) == j) = decide ((if p = true then (1 : Int) else 0) = j); rw [Bool.eq_iff_iff]; simp
    | non => cases eb; rfl
    | str s => cases eb; rfl
    | tup xs => unfold nk at eb; split at eb; (cases eb; rfl); cases eb
    | _ => cases eb
  | .int i, b, _, _, ea, eb => by
    cases ea
    cases b with
    | bl q => cases eb; show (i == (if q = true then 1 else 0)) = decide (i = (if q = true then (1 : Int) else 0)); rw [Bool.eq_iff_iff]; simp
    | int j => cases eb; show (i == j) = decide (i = j); rw [Bool.eq_iff_iff]; simp
    | non => cases eb; rfl
    | str s => cases eb; rfl
    | tup xs => unfold nk at eb; split at eb; (cases eb; rfl); cases eb
    | _ => cases eb
  | .str s, b, _, _, ea, eb => by
    cases ea
    cases b with
    | bl q => cases eb; rfl
    | int j => cases eb; rfl
    | non => cases eb; rfl
    | str t => cases eb; exact (str_inj s t).symm
    | tup xs => unfold nk at eb; split at eb; (cases eb; rfl); cases eb
    | _ => cases eb
  | .tup xs, b, _, _, ea, eb => by
    unfold nk at ea
    cases ex : nks xs with
    | none => rw [ex] at ea; cases ea
    | some ks =>
      rw [ex] at ea
      cases ea
      cases b with
      | bl q => cases eb; rfl
      | int j => cases eb; rfl
      | non => cases eb; rfl
      | str t => cases eb; rfl
      | tup ys =>
        unfold nk at eb
        cases ey : nks ys with
        | none => rw [ey] at eb; cases eb
        | some js =>
          rw [ey] at eb
          cases eb
          exact eqDs_nk xs ys ks js ex ey
      | _ => cases eb
  | .lst _, _, _, _, ea, _ => by cases ea
  | .dct _ _, _, _, _, ea, _ => by cases ea
  | .set _, _, _, _, ea, _ => by cases ea
  | .obj _ _, _, _, _, ea, _ => by cases ea
  | .fn _, _, _, _, ea, _ => by cases ea
  | .scr _, _, _, _, ea, _ => by cases ea
theorem eqDs_nk : ∀ (xs ys : List D) (ks js : List NestedKey), nks xs = some ks → nks ys = some js → eqDs xs ys = NestedKey.beqAll ks js
  | [], [], _, _, ea, eb => by cases ea; cases eb; rfl
  | [], y :: ys, _, _, ea, eb => by
    cases ea
    unfold nks at eb
    split at eb
    · cases eb; rfl
    · cases eb
  | x :: xs, [], _, _, ea, eb => by
    cases eb
    unfold nks at ea
    split at ea
    · cases ea; rfl
    · cases ea
  | x :: xs, y :: ys, _, _, ea, eb => by
    unfold nks at ea eb
    split at ea
    · rename_i k ks e1 e2
      split at eb
      · rename_i j js f1 f2
        cases ea
        cases eb
        show (eqD x y && eqDs xs ys) = (NestedKey.beq k j && NestedKey.beqAll ks js)
        rw [eqD_nk x y k j e1 f1, eqDs_nk xs ys ks js e2 f2]
      · cases eb
    · cases ea
end
theorem eqD_dec {a b : D} {ka kb : NestedKey} (ha : nk a = some ka) (hb : nk b = some kb) : eqD a b = decide (ka = kb) := by rw [NestedKey.decide_eq]; exact eqD_nk a b ka kb ha hb
section
variable {pins : List (Addr × Obj)} {σ : L2.St} {s : Shared}
mutual
theorem nest_is (I : Inv X pins σ M.H s) : ∀ (d : D) (v : V) (u : Value) (k : NestedKey), RV X.K T M d v → RelV v u → nk d = some k → NestedIs s.heap k u
  | .non, v, u, k, r, rl, e => by cases e; rw [show v = .non from r] at rl; rw [show u = Value.none from rl]; exact .none
  | .bl b, v, u, k, r, rl, e => by cases e; rw [show v = .bl b from r] at rl; rw [show u = Value.bool b from rl]; exact .bool rfl
  | .int i, v, u, k, r, rl, e => by cases e; rw [show v = .int i from r] at rl; obtain ⟨t, rfl⟩ := rl; exact .int _ _
  | .str x, v, u, k, r, rl, e => by cases e; rw [show v = .str ⟨x.toArray⟩ from r] at rl; obtain ⟨t, rfl⟩ := rl; exact .text _ _
  | .tup xs, v, u, k, r, rl, e => by
    obtain ⟨a, vs, rfl, sq, rv⟩ := r
    rw [show u = Value.ref a from rl]
    unfold nk at e
    cases ex : nks xs with
    | none => rw [ex] at e; cases e
    | some ks =>
      rw [ex] at e
      cases e
      obtain ⟨its, rvl, ⟨o, ho, hc, n, hd⟩, _⟩ := I.tuple sq
      exact .tup ho hc hd (by simpa using nest_all I xs vs its ks rv rvl ex)
  | .lst _, _, _, _, _, _, e => by cases e
  | .dct _ _, _, _, _, _, _, e => by cases e
  | .set _, _, _, _, _, _, e => by cases e
  | .obj _ _, _, _, _, _, _, e => by cases e
  | .fn _, _, _, _, _, _, e => by cases e
  | .scr _, _, _, _, _, _, e => by cases e
theorem nest_all (I : Inv X pins σ M.H s) : ∀ (ds : List D) (vs : List V) (us : List Value) (ks : List NestedKey), RVs X.K T M ds vs → Vals vs us → nks ds = some ks → NestedAll s.heap ks us
  | [], vs, us, ks, r, rl, e => by cases e; rw [show vs = [] from r] at rl; cases rl; exact .nil
  | x :: xs, vs, us, ks, r, rl, e => by
    obtain ⟨v, rr, rfl, r1, r2⟩ := r
    cases rl with
    | cons q1 q2 =>
      unfold nks at e
      split at e
      · rename_i k ks' e1 e2
        cases e
        exact .cons (nest_is I x v _ k r1 q1 e1) (nest_all I xs rr _ ks' r2 q2 e2)
      · cases e
end
/-- the dict's object -/
theorem dn_of {a : Addr} {kvs : List NV} {ks : List D} (I : Inv X pins σ M.H s) (e : M.H a = some (DN X.prog X.w a kvs)) (hk : ks.all isNK = true) (hn : ks.map nk = kvs.map (fun p => some p.1)) (hr : RVs X.K T M ks (kvs.map fun p => V.ref p.2.1)) :
    kvs.length ≤ sizeLine ∧ (a == sysModules) = false ∧ ∃ xs, Paired NR kvs xs ∧ s.heap.DictOfH (nestedKind X.prog X.w) a xs := by
  obtain ⟨⟨z, y, xs, r, o, es, ep, h1, h2, h3, h4, h5⟩, w0⟩ := (show ObjOk X.prog X.w M.H s.heap a (.ext (DNp X.prog X.w a kvs)) from I.hok a _ e)
  refine ⟨z, y, xs, r, o, es, ep, h1, h2, h3, h4, ?_, h5⟩
  clear h4 h5 z e w0
  induction r generalizing ks with
  | nil => intro x hx; cases hx
  | @cons p q ps qs hq t ih =>
    cases ks with
    | nil => cases hn
    | cons d ds =>
      obtain ⟨v, rr, ev, r1, r2⟩ := hr
      have hk : (isNK d && ds.all isNK) = true := hk
      rw [Bool.and_eq_true] at hk
      have n1 : nk d = some p.1 := (List.cons.inj hn).1
      have n2 : ds.map nk = ps.map (fun p => some p.1) := (List.cons.inj hn).2
      have v1 : V.ref p.2.1 = v := (List.cons.inj ev).1
      have v2 : ps.map (fun p => V.ref p.2.1) = rr := (List.cons.inj ev).2
      subst v1 v2
      intro x hx
      rcases List.mem_cons.mp hx with rfl | hx
      · obtain ⟨kk, e1, e2⟩ := isNK_ok hk.1
        rw [n1] at e1
        have e1 := Option.some.inj e1
        refine ⟨nest_is I d _ _ _ r1 (by rw [hq.2.1]; exact rfl) (by rw [n1, hq.1]), ?_⟩
        rw [← hq.1, e1]
        exact e2
      · exact ih hk.2 n2 r2 x hx
end
def putN (kvs : List NV) (k : NestedKey) (b : Addr) (v : V) : List NV := if (kvs.any fun p => decide (p.1 = k)) = true then kvs.map (fun p => if p.1 = k then (p.1, p.2.1, v) else p) else kvs ++ [(k, b, v)]
theorem nr_any {kvs : List NV} {xs : List (NestedKey × Addr × Value)} (r : Paired NR kvs xs) (k : NestedKey) : (atKey xs k).isSome = kvs.any fun p => decide (p.1 = k) := by
  unfold atKey
  rw [Option.isSome_map]
  induction r with
  | nil => rfl
  | @cons p q ps qs hq t ih =>
    rw [List.any_cons, List.find?_cons, hq.1]
    by_cases h : q.1 = k
    · rw [decide_eq_true h]; rfl
    · rw [decide_eq_false h]; exact ih
theorem nr_map {kvs : List NV} {xs : List (NestedKey × Addr × Value)} (r : Paired NR kvs xs) (k : NestedKey) {v : V} {u : Value} (rv : RelV v u) : Paired NR (kvs.map fun p => if p.1 = k then (p.1, p.2.1, v) else p) (xs.map (PySem.putAt k u)) := by
  induction r with
  | nil => exact .nil
  | @cons p q ps qs hq t ih =>
    refine .cons ?_ ih
    unfold PySem.putAt
    show NR (if p.1 = k then (p.1, p.2.1, v) else p) _
    by_cases h : q.1 = k
    · rw [if_pos h, if_pos (hq.1.trans h)]; exact ⟨hq.1, hq.2.1, rv⟩
    · rw [if_neg h, if_neg (fun z => h (hq.1.symm.trans z))]; exact hq
theorem nr_put {kvs : List NV} {xs : List (NestedKey × Addr × Value)} (r : Paired NR kvs xs) (k : NestedKey) (b : Addr) {v : V} {u : Value} (rv : RelV v u) : Paired NR (putN kvs k b v) (storedH xs k b u) := by
  unfold putN storedH
  rw [nr_any r k]
  split
  · exact nr_map r k rv
  · exact Paired.snoc r ⟨rfl, rfl, rv⟩
theorem length_putN (kvs : List NV) (k : NestedKey) (b : Addr) (v : V) : (putN kvs k b v).length ≤ kvs.length + 1 := by
  unfold putN
  split
  · rw [List.length_map]; omega
  · rw [List.length_append]; exact Nat.le_refl _
theorem nkIn_ok {k : D} {kk : NestedKey} (hk : nk k = some kk) : ∀ {ks : List D} {kvs : List NV}, ks.map nk = kvs.map (fun p => some p.1) → nkIn k ks = kvs.any fun p => decide (p.1 = kk)
  | [], [], _ => rfl
  | [], _ :: _, e => by cases e
  | _ :: _, [], e => by cases e
  | d :: ks, p :: kvs, e => by
    have e1 : nk d = some p.1 := (List.cons.inj e).1
    have e2 : ks.map nk = kvs.map (fun p => some p.1) := (List.cons.inj e).2
    show (eqD d k || nkIn k ks) = (decide (p.1 = kk) || kvs.any _)
    rw [eqD_dec e1 hk, nkIn_ok hk e2]
theorem nkKs_all {k : D} {ks : List D} (hk : isNK k = true) (h : ks.all isNK = true) : (nkKs k ks).all isNK = true := by
  unfold nkKs
  split
  · exact h
  · rw [List.all_append, h]
    show (true && (isNK k && true)) = true
    rw [hk]; rfl
theorem nkKs_nk {k : D} {kk : NestedKey} {b : Addr} {v : V} (hk : nk k = some kk) {ks : List D} {kvs : List NV} (e : ks.map nk = kvs.map (fun p => some p.1)) : (nkKs k ks).map nk = (putN kvs kk b v).map (fun p => some p.1) := by
  unfold nkKs putN
  rw [nkIn_ok hk e]
  split
  · rw [e, List.map_map]
    congr 1
    funext p
    show some p.1 = some (if p.1 = kk then (p.1, p.2.1, v) else p).1
    split <;> rfl
  · rw [List.map_append, List.map_append, e]
    show _ ++ [nk k] = _ ++ [some kk]
    rw [hk]
theorem nkKs_rv {k : D} {kk : NestedKey} {b : Addr} {v : V} (hk : nk k = some kk) (hb : RV K T M k (.ref b)) {ks : List D} {kvs : List NV} (e : ks.map nk = kvs.map (fun p => some p.1)) (r : RVs K T M ks (kvs.map fun p => V.ref p.2.1)) :
    RVs K T M (nkKs k ks) ((putN kvs kk b v).map fun p => V.ref p.2.1) := by
  unfold nkKs putN
  rw [nkIn_ok hk e]
  split
  · have : (kvs.map fun p => if p.1 = kk then (p.1, p.2.1, v) else p).map (fun p : NV => V.ref p.2.1) = kvs.map fun p => V.ref p.2.1 := by
      rw [List.map_map]
      congr 1
      funext p
      show V.ref (if p.1 = kk then (p.1, p.2.1, v) else p).2.1 = _
      split <;> rfl
    rw [this]
    exact r
  · rw [List.map_append]
    exact r.append ⟨_, [], rfl, hb, rfl⟩
theorem nkVs_map {k : D} {kk : NestedKey} {w : W} {v : V} (hk : nk k = some kk) (hw : RW K T M w v) {ks : List D} {ws : List W} {kvs : List NV} (e : ks.map nk = kvs.map (fun p => some p.1)) (r : RWs K T M ws (kvs.map (·.2.2))) :
    RWs K T M (List.zipWith (fun a y => if eqD a k = true then w else y) ks ws) ((kvs.map fun p => if p.1 = kk then (p.1, p.2.1, v) else p).map (·.2.2)) := by
  induction kvs generalizing ks ws with
  | nil =>
    cases ks with
    | nil => exact rfl
    | cons _ _ => cases e
  | cons p kvs ih =>
    cases ks with
    | nil => cases e
    | cons d ks =>
      cases ws with
      | nil => cases (show p.2.2 :: kvs.map (·.2.2) = [] from r)
      | cons y ys =>
        obtain ⟨v1, r1, q, h1, h2⟩ := r
        have q : p.2.2 :: kvs.map (·.2.2) = v1 :: r1 := q
        cases q
        have e1 : nk d = some p.1 := (List.cons.inj e).1
        refine ⟨(if p.1 = kk then (p.1, p.2.1, v) else p).2.2, _, rfl, ?_, ih (List.cons.inj e).2 h2⟩
        show RW K T M (if eqD d k = true then w else y) _
        rw [eqD_dec e1 hk]
        by_cases h : p.1 = kk
        · rw [if_pos h, if_pos (decide_eq_true h)]; exact hw
        · rw [if_neg h, decide_eq_false h, if_neg Bool.false_ne_true]; exact h1
theorem nkVs_rw {k : D} {kk : NestedKey} {b : Addr} {w : W} {v : V} (hk : nk k = some kk) (hw : RW K T M w v) {ks : List D} {ws : List W} {kvs : List NV} (e : ks.map nk = kvs.map (fun p => some p.1)) (r : RWs K T M ws (kvs.map (·.2.2))) :
    RWs K T M (nkVs k w ks ws) ((putN kvs kk b v).map (·.2.2)) := by
  unfold nkVs putN
  rw [nkIn_ok hk e]
  split
  · exact nkVs_map hk hw e r
  · rw [List.map_append]
    exact r.append ⟨v, [], rfl, hw, rfl⟩
theorem plain_DN {P : Program} {w : World} {a : Addr} {kvs : List NV} : Plain (DN P w a kvs) := ⟨(fun _ z => by unfold DN at z; cases z), (fun _ _ z => by unfold DN at z; cases z)⟩
theorem dn_ok {P : Program} {w : World} {H : Hp} {h : Heap} {a : Addr} {kvs : List NV} (p : DNp P w a kvs h) : ObjOk P w H h a (DN P w a kvs) := by
  refine ⟨p, ?_, fun h1 h2 q st => ?_⟩
  · obtain ⟨_, _, _, _, o, _, _, e, _⟩ := p
    exact ⟨o, e⟩
  · obtain ⟨z, y, xs, r, o, es, ep, e, t⟩ := q
    exact ⟨z, y, xs, r, o, es, ep, st o e, t⟩
theorem room9 {A : Around} {P : Program} {w : World} (hu : A.units + 10 < cLine) : (nestedKind P w).room A.in1 := by
  show A.in1.units + 8 < cLine
  rw [Around.in1_units]
  omega
/-- {} -/
theorem je_dctN {pos : Pos} (tw : T.w = X.w) (tp : T.P = X.prog) : JE X T (.Dict [] [] pos) eDctN := by
  have base : PE X (.Dict [] [] pos) (fun _ H Q => ∀ p, H p = none → Q (.ref p) (upd H p (DN X.prog X.w p []))) := ⟨fun pins s σ H Q I h =>
    wpAny_Dict_empty ⟨.ref s.heap.objs.size, _, I.laid (a := s.heap.objs.size) (o := DN X.prog X.w s.heap.objs.size []) (t' := s.toks) (fun _ _ q => Heap.get?_push_of_some _ q) (Nat.le_refl _)
      (dn_ok ⟨Nat.zero_le _, beq_eq_false_iff_ne.mpr (Ne.symm (Nat.ne_of_lt I.big)), [], .nil, _, #[], 0, Heap.get?_push_size _ rfl, ⟨rfl, rfl, rfl⟩, rfl, rfl, List.nodup_nil⟩), rfl, h _ (I.hok.fresh (Nat.le_refl _))⟩⟩
  refine PE.weak base fun σ H Q h p hp => ?_
  obtain ⟨M, B, L, ρ, pt, h⟩ := h
  have eH := pt.eH
  subst eH
  exact new_place pt.rep pt.eA hp (o := .dcn [] []) (h := DN X.prog X.w p []) (fun k => ⟨[], by rw [tw, tp]; exact upd_same, rfl, rfl, rfl, rfl⟩) h
/-- x in d, by values -/
def rInN (K : PySem.W.Frag) (T : Tb) (neg : Bool) : R2 := fun x y H Q => ∃ M p n ks ws, M.H = H ∧ Rep K T M ∧ DV K T M p x ∧ y = .ref (M.m n) ∧ M.A[n]? = some (.dcn ks ws) ∧ isNK p = true ∧ Q (.bl (if neg = true then !nkIn p ks else nkIn p ks)) H
theorem dn_rv {p : D} {x : V} (h : isNK p = true) (d : DV K T M p x) : RV K T M p x := by
  cases p with
  | tup xs => exact d.rv (fun _ z => by cases z) (fun _ _ z => by cases z)
  | _ => cases h
theorem op_inN (tw : T.w = X.w) (tp : T.P = X.prog) (hu : X.A.units + 10 < cLine) : OpR X (compareOp .In) (rInN X.K T false) := by
  intro pins s σ H x y v u Q I rx ry h
  obtain ⟨M, p, n, ks, ws, rfl, R, d, rfl, en, hk, q⟩ := h
  obtain ⟨kvs, e1, e2, e3, e4, e5⟩ := R.at_ n _ en
  rw [tw, tp] at e1
  obtain ⟨kk, k1, k2⟩ := isNK_ok hk
  have rp := dn_rv hk d
  obtain ⟨z, hd, xs, rel, dd⟩ := dn_of I e1 e2 e3 e4
  rw [show u = Value.ref (M.m n) from ry]
  cases p with
  | tup ys =>
    obtain ⟨a, vs, rfl, sq, rv⟩ := rp
    rw [show v = Value.ref a from rx]
    have ki := nest_is I (.tup ys) _ _ _ ⟨a, vs, rfl, sq, rv⟩ (show RelV (.ref a) (.ref a) from rfl) k1
    refine wpAny_in_heap (room9 hu) ⟨ki, k2⟩ hd dd ?_
    rw [nr_any rel, ← nkIn_ok k1 e3]
    exact ⟨.bl _, M.H, I.tok _, rfl, q⟩
  | _ => cases hk
theorem op_notInN (tw : T.w = X.w) (tp : T.P = X.prog) (hu : X.A.units + 10 < cLine) : OpR X (compareOp .NotIn) (rInN X.K T true) := by
  intro pins s σ H x y v u Q I rx ry h
  obtain ⟨M, p, n, ks, ws, rfl, R, d, rfl, en, hk, q⟩ := h
  obtain ⟨kvs, e1, e2, e3, e4, e5⟩ := R.at_ n _ en
  rw [tw, tp] at e1
  obtain ⟨kk, k1, k2⟩ := isNK_ok hk
  have rp := dn_rv hk d
  obtain ⟨z, hd, xs, rel, dd⟩ := dn_of I e1 e2 e3 e4
  rw [show u = Value.ref (M.m n) from ry]
  cases p with
  | tup ys =>
    obtain ⟨a, vs, rfl, sq, rv⟩ := rp
    rw [show v = Value.ref a from rx]
    have ki := nest_is I (.tup ys) _ _ _ ⟨a, vs, rfl, sq, rv⟩ (show RelV (.ref a) (.ref a) from rfl) k1
    refine wpAny_notIn_heap (room9 hu) ⟨ki, k2⟩ hd dd ?_
    rw [nr_any rel, ← nkIn_ok k1 e3]
    exact ⟨.bl _, M.H, I.tok _, rfl, q⟩
  | _ => cases hk
theorem rd_inN {neg : Bool} {fa fb : SE} {σ : L2.St} {H : Hp} {Q : VK} (h : rE K T (eInN neg fa fb) σ H Q) : tOp (rInN K T neg) (rE K T fa) (rE K T fb) σ H Q := by
  obtain ⟨M, B, L, ρ, p, h⟩ := h
  refine ⟨M, B, L, ρ, p, (post.bind h).mono fun w L1 M1 eA R x q v rv => ?_⟩
  refine ⟨M1, B, L1, ρ, p.next eA R x, (post.bind q).mono fun w2 L2 M2 eA2 R2 x2 q2 v2 rv2 => ?_⟩
  obtain ⟨pd, e1, d1, q3⟩ := q2.view R2 eA2 (rv.ext R x2)
  cases w2 with
  | d _ => exact q3.elim
  | ref n =>
    dsimp only at q3
    unfold look at q3
    rw [← eA2] at q3
    cases e2 : M2.A[n]? with
    | none => rw [e2] at q3; exact q3.elim
    | some o =>
      rw [e2] at q3
      cases o with
      | dcn ks ws =>
        dsimp only at q3
        by_cases hk : isNK pd = true
        · rw [if_pos hk] at q3
          exact ⟨M2, pd, n, ks, ws, rfl, R2, d1, rv2.2, e2, hk, q3.here eA2 R2 _ rfl⟩
        · rw [if_neg hk] at q3; exact q3.elim
      | _ => exact q3.elim
theorem eInN_bool {neg : Bool} {fa fb : SE} : ∀ B ρ L w L', eInN neg fa fb B ρ L = .ok w L' → ∃ k, w = .d (.bl k) := fun B ρ L w L' h => by
  obtain ⟨x, L1, e1, h⟩ := bindI h
  obtain ⟨y, L2, e2, h⟩ := bindI h
  obtain ⟨p, L3, e3, h⟩ := bindI h
  split at h
  · split at h
    · split at h
      · cases h; exact ⟨_, rfl⟩
      · cases h
    · cases h
  · cases h
theorem je_inNf {a b : Expr} {fa fb : SE} {pos : Pos} (tw : T.w = X.w) (tp : T.P = X.prog) (hu : X.A.units + 10 < cLine) (ha : JE X T a fa) (hb : JE X T b fb) (hm : behindInMarks .In b = false := by first | exact nomark _ | rfl) : JE X T (.Compare a [.In] [b] pos) (eInN false fa fb) :=
  PE.weak (pe_cmpR (op_inN tw tp hu) ha hb hm) fun σ H Q h => rd_inN h
theorem je_inNt {a b : Expr} {fa fb : SE} {pos : Pos} (tw : T.w = X.w) (tp : T.P = X.prog) (hu : X.A.units + 10 < cLine) (ha : JE X T a fa) (hb : JE X T b fb) (hm : behindInMarks .NotIn b = false := by first | exact nomark _ | rfl) : JE X T (.Compare a [.NotIn] [b] pos) (eInN true fa fb) :=
  PE.weak (pe_cmpR (op_notInN tw tp hu) ha hb hm) fun σ H Q h => rd_inN h
theorem jt_inNf {a b : Expr} {fa fb : SE} {pos : Pos} (tw : T.w = X.w) (tp : T.P = X.prog) (hu : X.A.units + 10 < cLine) (ha : JE X T a fa) (hb : JE X T b fb) (hm : behindInMarks .In b = false := by first | exact nomark _ | rfl) : JT X T (.Compare a [.In] [b] pos) (tE (eInN false fa fb)) :=
  PT.weak (pt_cmpR (op_inN tw tp hu) ha hb hm) fun σ H Q h => rd_test (fun σ H Q h => rd_inN h) h eInN_bool
theorem jt_inNt {a b : Expr} {fa fb : SE} {pos : Pos} (tw : T.w = X.w) (tp : T.P = X.prog) (hu : X.A.units + 10 < cLine) (ha : JE X T a fa) (hb : JE X T b fb) (hm : behindInMarks .NotIn b = false := by first | exact nomark _ | rfl) : JT X T (.Compare a [.NotIn] [b] pos) (tE (eInN true fa fb)) :=
  PT.weak (pt_cmpR (op_notInN tw tp hu) ha hb hm) fun σ H Q h => rd_test (fun σ H Q h => rd_inN h) h eInN_bool
/-! ### o[k] = v -/
def rPut (K : PySem.W.Frag) (T : Tb) : TSet := fun o i v H Q => ∃ M B L x k w L', M.H = H ∧ M.A = B ++ L ∧ Rep K T M ∧ RW K T M x o ∧ DV K T M k i ∧ RW K T M w v ∧ putIn B L x k w = some L' ∧ ∀ M', M'.A = B ++ L' → Rep K T M' → Ext M M' → Q M'.H
theorem set_put (tw : T.w = X.w) (tp : T.P = X.prog) (hu : X.A.units + 10 < cLine) : PSet X (rPut X.K T) := by
  intro pins s σ H o i v ov iv u Q I ro ri rv h
  obtain ⟨M, B, L, x, k, w, L', rfl, eA, R, rx, dk, rw', ep, q⟩ := h
  unfold putIn at ep
  split at ep
  · rename_i n
    split at ep
    · cases ep
    · rename_i hb
      have at_ : ∀ ob, L[n - B.length]? = some ob → M.A[n]? = some ob := fun ob e => by rw [eA, List.getElem?_append_right (by omega)]; exact e
      have seta : ∀ ob, M.A.set n ob = B ++ L.set (n - B.length) ob := fun ob => by rw [eA, List.set_append_right _ _ (by omega)]
      split at ep
      · rename_i ws en
        split at ep
        · rename_i j
          split at ep
          · rename_i m em
            cases ep
            obtain ⟨vs, h1, h2⟩ := R.at_ n _ (at_ _ en)
            have gg := place_put (K := X.K) (T := T) (o' := .lst (ws.set m w)) (h' := .lst (vs.set m v)) R (at_ _ en) rfl rfl (plain_lst _) fun M' _ _ eA' eH E' => ⟨vs.set m v, by rw [eH]; exact upd_same, RWs.listSet (rw'.ext R E') m (h2.ext R E')⟩
            refine set_list pins s σ M.H o i v ov iv u Q I ro ri rv ⟨M.m n, vs, j, m, rx.2, dk.int, h1, ?_, q _ (seta _) gg.1 gg.2⟩
            rw [← h2.length]
            exact em
          · cases ep
        · cases ep
      · rename_i ks ws en
        split at ep
        · rename_i hk
          cases ep
          obtain ⟨kk, e1⟩ := keyD_ok hk.1
          have e2 := keyD_dv e1 dk
          obtain ⟨kvs, h1, h2, h3⟩ := R.at_ n _ (at_ _ en)
          have lk : kvs.length = ks.length := by simpa using (congrArg List.length h2).symm
          have gg := place_put (K := X.K) (T := T) (o' := .dct (putKs k ks) (putVs k w ks ws)) (h' := .dK (putK kvs kk v)) R (at_ _ en) rfl rfl (plain_dK _) fun M' _ _ eA' eH E' => ⟨putK kvs kk v, by rw [eH]; exact upd_same, putKs_ok e1 h2, putVs_ok e1 (rw'.ext R E') h2 (h3.ext R E')⟩
          refine set_dict (by omega) pins s σ M.H o i v ov iv u Q I ro ri rv ⟨M.m n, upd M.H (M.m n) (.dK (putK kvs kk v)), rx.2, ?_, q _ (seta _) gg.1 gg.2⟩
          rw [e2]
          exact DPut.k h1 (by rw [lk, ← sizeL_eq]; exact hk.2)
        · cases ep
      · rename_i ks ws en
        split at ep
        · rename_i hk
          cases ep
          obtain ⟨kk, k1, k2⟩ := isNK_ok hk.1
          have rp := dn_rv hk.1 dk
          obtain ⟨kvs, e1, e2, e3, e4, e5⟩ := R.at_ n _ (at_ _ en)
          have e1' : M.H (M.m n) = some (DN X.prog X.w (M.m n) kvs) := by rw [← tw, ← tp]; exact e1
          obtain ⟨z, hd, xs, rel, dd⟩ := dn_of I e1' e2 e3 e4
          have lk : kvs.length = ks.length := by simpa using (congrArg List.length e3).symm
          rw [rx.2] at ro
          rw [show ov = Value.ref (M.m n) from ro]
          cases k with
          | tup ys =>
            obtain ⟨b, vs, rfl, sq, rvs⟩ := rp
            rw [show iv = Value.ref b from ri]
            have rb : RV X.K T M (.tup ys) (.ref b) := ⟨b, vs, rfl, sq, rvs⟩
            have ki := nest_is I (.tup ys) _ _ _ rb (show RelV (.ref b) (.ref b) from rfl) k1
            have hz : xs.length ≤ sizeLine := by rw [← Paired.length rel]; exact z
            have gg := place_put (K := X.K) (T := T) (o' := .dcn (nkKs (.tup ys) ks) (nkVs (.tup ys) w ks ws)) (h' := DN X.prog X.w (M.m n) (putN kvs (.tup kk) b v)) R (at_ _ en) rfl rfl plain_DN
              fun M' _ _ eA' eH E' => ⟨putN kvs (.tup kk) b v, by rw [eH, tw, tp]; exact upd_same, nkKs_all hk.1 e2, nkKs_nk k1 e3, nkKs_rv k1 (RV.ext R E' _ _ rb) e3 (RVs.ext R E' _ _ e4), nkVs_rw k1 (rw'.ext R E') e3 (e5.ext R E')⟩
            refine wpAny_setItem_heap (hsz := hz) (room9 hu) ⟨ki, k2⟩ dd fun h' dd' hs => ?_
            obtain ⟨qo, es, epp, hq, h2, h3, h4, _, h5⟩ := dd'
            refine ⟨_, d_write I (by rw [e1']; exact True.intro) hs ⟨qo, hq⟩ (dn_ok ⟨?_, hd, _, nr_put rel (.tup kk) b rv, qo, es, epp, hq, h2, h3, h4, h5⟩), q _ (seta _) gg.1 gg.2⟩
            have l1 := length_putN kvs (.tup kk) b v
            have l2 := hk.2
            rw [← sizeL_eq]
            omega
          | _ => cases hk.1
        · cases ep
      · cases ep
  · cases ep
theorem jg_item {o i : Expr} {f g : SE} {pos : Pos} (tw : T.w = X.w) (tp : T.P = X.prog) (hu : X.A.units + 10 < cLine) (ho : JE X T o f) (hi : JE X T i g)
    (ha : ∀ v, assign (.Subscript o i pos) X.env v = (do
      let ov ← holding [v] (eval o X.env)
      let iv ← holding [v, ov] (eval i X.env)
      standAt pos
      holding [v, ov, iv] (setItem ov iv v)
      release [v, ov, iv] []) := by intro _; rfl) : JG X T (.Subscript o i pos) (gItem f g) [] :=
  PG.weak (pg_sub ho hi (set_put tw tp hu) ha) fun v σ H Q h => by
    obtain ⟨M, B, L, ρ, w, p, rw', h⟩ := h
    refine ⟨M, B, L, ρ, p, (post.bind h).mono fun x L1 M1 eA R x1 q u ru => ?_⟩
    refine ⟨M1, B, L1, ρ, p.next eA R x1, (post.bind q).mono fun y L2 M2 eA2 R2 x2 q2 t rt => ?_⟩
    obtain ⟨k, ek, dk, q3⟩ := q2.view R2 eA2 rt
    cases e : putIn B L2 x k w with
    | none => rw [e] at q3; exact q3.elim
    | some L3 =>
      rw [e] at q3
      refine ⟨M2, B, L2, x, k, w, L3, rfl, eA2, R2, ru.ext R x2, dk, (rw'.ext p.rep x1).ext R x2, e, fun M' a' R' x' => ?_⟩
      exact q3 M' a' R' x' σ ((((p.next eA R x1).next eA2 R2 x2).rs).ext R2 x') (Stay.refl _ _)
/-! ### several names -/
inductive NamesAt (X : Cx) : List Expr → List Nat → Prop
  | nil : NamesAt X [] []
  | cons {x : Str} {p : Pos} {es : List Expr} {i : Nat} {is : List Nat} : X.N[i]? = some x → Loc X.env.scope x → (X.fn x = true ∨ X.env.scope.names.lookup x = some .local) → NamesAt X es is → NamesAt X (.Name x p :: es) (i :: is)
def gNames : List Nat → TGs
  | [] => gNil
  | i :: is => gCons (gName i) (gNames is)
theorem pgs_names (hN : X.N.Nodup) : ∀ {es : List Expr} {is : List Nat}, NamesAt X es is → (assignEach es X.env).map (·.2) = es.map (fun e => assign e X.env) → PGs X es (gNames is)
  | _, _, .nil, _ => pgs_nil
  | _, _, .cons (x := x) (p := p) h1 h2 h3 h4, hs => by
    have hs' : assign _ X.env :: (assignEach _ X.env).map (·.2) = _ := hs
    exact pgs_cons (pg_name hN h1 h2 h3) (pgs_names hN h4 (List.cons.inj hs').2) rfl
theorem gNames_set {M : Mem} {H : Hp} {Q : L2.St → Hp → Prop} : ∀ {is : List Nat} {ws : List W} {vs : List V} {ρ ρ' : Sl} {σ : L2.St}, setAll is ws ρ = some ρ' → RWs K T M ws vs → RS K T M ρ σ → (∀ σ', RS K T M ρ' σ' → Q σ' H) → gNames is vs σ H Q
  | [], ws, vs, ρ, ρ', σ, e, r, rs, k => by
    cases ws with
    | nil => cases e; exact ⟨r, k σ rs⟩
    | cons _ _ => cases e
  | i :: is, ws, vs, ρ, ρ', σ, e, r, rs, k => by
    cases ws with
    | nil => cases e
    | cons w ws =>
      obtain ⟨v, q, rfl, r1, r2⟩ := r
      exact ⟨v, q, rfl, gNames_set (is := is) e r2 (rs.set r1 i) k⟩
theorem setAll_len : ∀ {is : List Nat} {ws : List W} {ρ ρ' : Sl}, setAll is ws ρ = some ρ' → ws.length = is.length
  | [], [], _, _, _ => rfl
  | [], _ :: _, _, _, e => by cases e
  | _ :: _, [], _, _, e => by cases e
  | i :: is, w :: ws, ρ, ρ', e => by rw [List.length_cons, List.length_cons, setAll_len (is := is) (ws := ws) (ρ := ρ.set i (some w)) e]
theorem js_parN {is : List Nat} {nms es : List Expr} {f : SA} {k k2 : Nat} {pt pt2 pos : Pos} (hc : X.calm = true) (hN : X.N.Nodup) (ha : JA X T es f) (hn : NamesAt X nms is) (hl : (assignEach nms X.env).length = is.length := by rfl)
    (hst : (assignEach nms X.env).findIdx? (·.1) = none := by rfl) (hm : (assignEach nms X.env).map (·.2) = nms.map (fun e => assign e X.env) := by rfl)
    (hs : swapsWithSole [.Tuple nms k pt] (.Tuple es k2 pt2) pos.line X.env = pure false := by rfl) (hw : swappedStores [.Tuple nms k pt] (.Tuple es k2 pt2) X.env = pure none := by rfl)
    (h1 : (assignEach [.Tuple nms k pt] X.env).map (·.2) = [assign (.Tuple nms k pt) X.env] := by rfl) : JS X T (.Assign [.Tuple nms k pt] (.Tuple es k2 pt2) pos) (sParN is f) :=
  PS.weak (ps_asg (pe_tup ha) (pg_tup hc (pgs_names hN hn hm) hl hst) hs hw h1) fun Dn σ H h => by
    obtain ⟨M, B, L, ρ, p, h⟩ := h
    refine ⟨M, B, L, ρ, p, (post.st h).mono fun ws L1 M1 eA R x q vs rvs => ?_⟩
    cases e : setAll is ws ρ with
    | none => rw [e] at q; exact q.elim
    | some ρ' =>
      rw [e] at q
      dsimp only at q
      by_cases hz : ws.length ≤ sizeL
      · rw [if_pos hz] at q
        refine ⟨by rw [← rvs.length, ← sizeL_eq]; exact hz, fun a ha => ?_⟩
        obtain ⟨R3, E3⟩ := garb (o := .tup vs) R ha
        refine ⟨a, vs, rfl, .inl (.inl upd_same), by rw [← rvs.length]; exact setAll_len e, ?_⟩
        exact gNames_set (M := { M1 with H := upd M1.H a (.tup vs) }) e (rvs.ext R E3) ((p.rs.ext p.rep x).ext R E3) fun σ' rs' => q { M1 with H := upd M1.H a (.tup vs) } σ' eA R3 E3 rs'
      · rw [if_neg hz] at q; exact q.elim
end
end Ev

set_option Elab.async false
set_option linter.all false
set_option maxRecDepth 100000
set_option maxHeartbeats 1000000
set_option autoImplicit false
/-! EvQ: t[::-1], -x, is True, sum, {}, lists put together that change; defs that call themselves. -/
namespace Ev
open PySem PySem.Spec PyProof.Rows L2
section
variable {X : Cx} {T : Tb} {K : PySem.W.Frag} {M : Mem}
/-- an operator of one value by data -/
theorem rd_1 {op : D → Option D} {f : SE} {σ : L2.St} {H : Hp} {Q : VK} {r : V → Hp → VK → Prop} (ok : ∀ (M : Mem) (p z : D) (x : V) (Q : VK), Rep K T M → DV K T M p x → op p = some z → (∀ M' v, M'.A = M.A → Rep K T M' → Ext M M' → RV K T M' z v → Q v M'.H) → r x M.H Q)
    (h : rE K T (e1 op f) σ H Q) : rE K T f σ H fun x H1 => r x H1 Q := by
  obtain ⟨M, B, L, ρ, p, h⟩ := h
  refine ⟨M, B, L, ρ, p, (post.bind h).mono fun w L1 M1 eA R x q v rv => ?_⟩
  obtain ⟨pd, _, dv, q⟩ := q.view R eA rv
  obtain ⟨z, ez, q⟩ := q.opt
  exact ok M1 pd z v Q R dv ez fun M' u a' R' x' ru => q M' (a'.trans eA) R' x' u ru
theorem je_rev {e : Expr} {f : SE} {k : Nat} {p1 p2 p3 pos : Pos} (he : JE X T e f) : JE X T (.Subscript e (.Slice none none (some (.UnaryOp .USub (.Constant (.int 1) k p1) p2)) p3) pos) (e1 opRev f) :=
  PE.weak (pe_revA he) fun σ H Q h => rd_1 (r := fun x H1 Q => (∃ a xs, x = .ref a ∧ SqL X.K H1 a xs ∧ ∀ p, H1 p = none → Q (.ref p) (upd H1 p (.lst xs.reverse))) ∨ (∃ a xs, x = .ref a ∧ SqT X.K H1 a xs ∧ ∀ p, H1 p = none → Q (.ref p) (upd H1 p (.tup xs.reverse)))) (fun M p z x Q R d e k => by
    have rev : ∀ {xs : List D} {vs : List V}, RVs X.K T M xs vs → RVs X.K T M xs.reverse vs.reverse := fun {xs vs} r => by
      induction xs generalizing vs with
      | nil => rw [show vs = [] from r]; exact rfl
      | cons x xs ih =>
        obtain ⟨v, q, rfl, r1, r2⟩ := r
        rw [List.reverse_cons, List.reverse_cons]
        exact (ih r2).append ⟨v, [], rfl, r1, rfl⟩
    cases p with
    | tup xs =>
      cases e
      obtain ⟨a, vs, rfl, s1, r1⟩ := d.tup
      exact .inr ⟨a, vs, rfl, s1, new_tup R (rev r1) k⟩
    | lst xs =>
      cases e
      obtain ⟨a, vs, rfl, s1, r1⟩ := d.lst
      exact .inl ⟨a, vs, rfl, SqL.of s1, new_lst R (rev r1) k⟩
    | _ => cases e) h
theorem je_neg {e : Expr} {f : SE} {pos : Pos} (he : JE X T e f) : JE X T (.UnaryOp .USub e pos) (e1 opNeg f) :=
  PE.weak (pe_un un_neg he) fun σ H Q h => rd_1 (r := rU fun i => .int (-i)) (fun M p z x Q R d e k => by
    cases p with
    | int i => cases e; exact ⟨i, d.int, k M _ rfl R (Ext.refl M) rfl⟩
    | _ => cases e) h
theorem opD_is : OpD X T (compareOp .Is) opIsB := by
  intro pins s σ H x y v u Q I rx ry h
  obtain ⟨M, p, q, z, rfl, R, d1, d2, e, k⟩ := h
  cases p with
  | bl a =>
    cases q with
    | bl b =>
      cases e
      refine op_isBl pins s σ _ x y v u Q I rx ry ⟨a, b, d1.bl, d2.bl, ?_⟩
      have : (a == b) = decide (a = b) := by cases a <;> cases b <;> rfl
      rw [← this]
      exact k M _ rfl R (Ext.refl M) rfl
    | _ => cases e
  | _ => cases q <;> cases e
theorem opIsB_bool : ∀ p q z, opIsB p q = some z → ∃ k, z = .bl k := fun p q z e => by
  cases p with
  | bl a =>
    cases q with
    | bl b => cases e; exact ⟨_, rfl⟩
    | _ => cases e
  | _ => cases q <;> cases e
theorem cd_sum (hc : X.calm = true) : CallD X T (.builtin "sum") bSum := call_D1 rfl (fun _ _ _ => by simp [bSum]) fun pins s σ M p z x u Q I rx R d e k => by
  cases p with
  | lst xs =>
    have e : (match allI xs with | some is => some (D.int is.sum) | none => none) = some z := e
    cases ei : allI xs with
    | none => rw [ei] at e; cases e
    | some is =>
      rw [ei] at e
      cases e
      obtain ⟨a, vs, rfl, s1, r1⟩ := d.lst
      exact cr_sum hc pins s σ _ _ [u] Q I (.cons rx .nil) ⟨a, is, rfl, by rw [← allI_ok ei r1]; exact SqL.of s1, k M _ rfl R (Ext.refl M) rfl⟩
  | _ => cases e
/-- {} as data -/
theorem je_dct0 {pos : Pos} : JE X T (.Dict [] [] pos) (eC (.dct [] [])) := PE.weak pe_dnewK fun σ H Q h p hp => by
  obtain ⟨M, B, L, ρ, pt, h⟩ := h
  have eH := pt.eH
  subst eH
  obtain ⟨R', E'⟩ := garb (o := .dK []) pt.rep hp
  exact h { M with H := upd M.H p (.dK []) } pt.eA R' E' (.ref p) ⟨p, [], rfl, sep_new pt.rep hp, upd_same, rfl, rfl⟩
/-- a + b of lists, that may be changed -/
theorem je_addM {a b : Expr} {fa fb : SE} {pos : Pos} (ha : JE X T a fa) (hb : JE X T b fb) : JE X T (.BinOp a .Add b pos) (eAddM fa fb) :=
  PE.weak (pe_op op_cat ha hb) fun σ H Q h => by
    obtain ⟨M, B, L, ρ, p, h⟩ := h
    refine ⟨M, B, L, ρ, p, (post.bind h).mono fun w L1 M1 eA R x q v rv => ?_⟩
    refine ⟨M1, B, L1, ρ, p.next eA R x, (post.bind q).mono fun w2 L2 M2 eA2 R2 x2 q2 v2 rv2 => ?_⟩
    obtain ⟨pd, _, d1, q3⟩ := q2.view R2 eA2 (rv.ext R x2)
    obtain ⟨qd, _, d2, q4⟩ := q3.view R2 eA2 rv2
    obtain ⟨xs, e1, q5⟩ := q4.opt
    obtain ⟨ys, e2, q6⟩ := q5.opt
    obtain ⟨hl, q7⟩ := q6.guard
    have hl := of_decide_eq_true hl
    clear q2 q3 q4 q5 q6
    cases pd with
    | lst xs' =>
      cases e1
      cases qd with
      | lst ys' =>
        cases e2
        obtain ⟨a1, vs, rfl, s1, r1⟩ := d1.lst
        obtain ⟨a2, us, rfl, s2, r2⟩ := d2.lst
        refine ⟨a1, a2, vs, us, rfl, rfl, s1, s2, by rw [← r1.length, ← r2.length, ← sizeL_eq]; exact hl, fun b hb => ?_⟩
        exact new_place R2 eA2 hb (o := .lst ((xs ++ ys).map .d)) (h := .lst (vs ++ us)) (fun k => ⟨vs ++ us, upd_same, RWs.ofD ((RVs.keeps k _ _ r1).append (RVs.keeps k _ _ r2))⟩) q7
      | _ => cases e2
    | _ => cases e1
/-- sep.join(texts) -/
theorem allS_ok : ∀ {xs : List D} {ss : List (List Nat)} {vs : List V}, allS xs = some ss → RVs K T M xs vs → vs = ss.map fun s => V.str ⟨s.toArray⟩
  | [], ss, vs, e, r => by cases e; exact r
  | x :: xs, ss, vs, e, r => by
    obtain ⟨v, rr, rfl, r1, r2⟩ := r
    cases x with
    | str s =>
      unfold allS at e
      cases q : allS xs with
      | none => rw [q] at e; cases e
      | some js =>
        rw [q] at e
        cases e
        rw [allS_ok q r2, show v = V.str ⟨s.toArray⟩ from r1]
        rfl
    | _ => cases e
theorem joinS_eq (a : List Nat) : ∀ ss : List (List Nat), joinS a ss = TL.joinL a ss
  | [] => rfl
  | [_] => rfl
  | p :: q :: r => by
    show p ++ (a ++ joinS a (q :: r)) = p ++ (a ++ TL.joinL a (q :: r))
    rw [joinS_eq a (q :: r)]
theorem join_str (a : List Nat) (ss : List (List Nat)) : Txt.join (⟨a.toArray⟩ : Str) (ss.map fun s => (⟨s.toArray⟩ : Str)) = ⟨(joinS a ss).toArray⟩ := by
  rw [joinS_eq]
  exact SX.join_S a ss
theorem je_join {x : Str} {sep : List Nat} {j : Nat} {p0 : Pos} {e : Expr} {g : SE} {apos cpos : Pos} (he : JE X T e g) (hx : x = ⟨sep.toArray⟩ := by decide) (hbase : attributeBase (.Constant (.str x) j p0) "join" X.env (eval (.Constant (.str x) j p0) X.env) = eval (.Constant (.str x) j p0) X.env := by rfl)
    (hfew : ((backTo cpos (starEach [e] X.env)).all (fun x => !x.1) && (backToKw cpos (keywordEach [] X.env)).all (fun x => x.1.isSome)
      && decide ([e].length + ([] : List Keyword).length + (if ([] : List Keyword).isEmpty then 0 else 1) < 30)) = true := by rfl)
    (hline : (apos.endLine == cpos.line) = true := by rfl) (hs : starEach [e] X.env = (false, eval e X.env) :: starEach [] X.env := by rfl) (hplain : (backTo cpos (starEach [] X.env)).any (·.1) = false := by rfl) : JE X T (.Call (.Attribute (.Constant (.str x) j p0) "join" apos) [e] [] cpos) (e1 (opJoin (.str sep)) g) := by
  have hA : JA X T [e] (aCons g aNil) := ja_cons he ja_nil hs
  refine PE.weak (pe_bm PySem.F.plainAttrs_str PySem.F.slot_str_join PySem.F.type_str_join mt_join pe_str hA hbase hfew hline hs hplain) fun σ H Q h => ?_
  refine ⟨rfl, ?_⟩
  obtain ⟨M, B, L, ρ, p, h⟩ := h
  refine ⟨M, B, L, ρ, p, ?_⟩
  show post X.K T M B ((g B ρ L).bind fun x L1 => (aNil B ρ L1).bind fun xs L2 => Res.ok (x :: xs) L2) _
  have q := post.bind h
  cases e1 : g B ρ L with
  | exc _ _ _ => rw [e1] at q; exact q.elim
  | bad => rw [e1] at q; exact q.elim
  | ok y L2 =>
    rw [e1] at q
    intro M2 eA2 R2 x2 vs rvs
    obtain ⟨u, r, rfl, ru, rfl⟩ := rvs
    have q3 := q M2 eA2 R2 x2
    obtain ⟨qd, _, d2, q5⟩ := q3.view R2 eA2 ru
    obtain ⟨z, ez, q6⟩ := q5.opt
    cases qd with
    | lst xs =>
      have ez : (match allS xs with | some ss => if (ss.map List.length).sum + ss.length * sep.length ≤ sizeL then some (D.str (joinS sep ss)) else none | none => none) = some z := ez
      cases es : allS xs with
      | none => rw [es] at ez; cases ez
      | some ss =>
        rw [es] at ez
        dsimp only at ez
        split at ez
        · rename_i hl
          cases ez
          obtain ⟨b, us, rfl, s1, r1⟩ := d2.lst
          rw [allS_ok es r1] at s1
          have e2 : (ss.map fun s => V.str ⟨s.toArray⟩) = (ss.map fun s => (⟨s.toArray⟩ : Str)).map V.str := by rw [List.map_map]; rfl
          rw [e2] at s1
          refine ⟨x, b, ss.map fun s => (⟨s.toArray⟩ : Str), rfl, rfl, .inl (SqL.of s1), ?_, ?_⟩
          · have e3 : ((ss.map fun s => (⟨s.toArray⟩ : Str)).map (·.length)) = ss.map List.length := by
              rw [List.map_map]
              refine List.map_congr_left fun s _ => ?_
              exact str_len s
            rw [e3, List.length_map, hx, str_len]
            exact hl
          · rw [hx, join_str]
            exact q6.here eA2 R2 _ rfl
        · cases ez
    | _ => cases ez
end
/-! ### defs that call themselves -/
theorem fn_bad {P : Program} {w : World} {K : PySem.W.Frag} {T : Tb} {mg : Str → Option Value} {base : Heap} {k : Nat} {f : Addr} {fd : FuncData} {ps : List Str} : FnG P w K mg base CX0 k f fd ps (spOf K T ps.length badFn) :=
  ⟨fun vs H Q E h => h.1, fun A ou s H args us vs Q E hg hr he hb hv h => by
    obtain ⟨_, M, B, L, ws, _, _, _, _, h⟩ := h
    exact h.elim⟩
end Ev

set_option Elab.async false
set_option linter.all false
set_option maxRecDepth 100000
set_option maxHeartbeats 1000000
set_option autoImplicit false
/-! EvH: what the written part tells by names: the head's hook with facts of one's own. -/
namespace Ev
open PySem PySem.Spec PyProof.Rows L2
/-! ### written data -/
mutual
def kD (K : PySem.W.Frag) : D → Value → Bool
  | .non, .none => true
  | .bl b, .bool c => b == c
  | .int i, .int j _ => decide (i = j)
  | .str x, .str y _ => decide (x = y.cps.toList)
  | .tup xs, .ref a => (match K.lookup a with
    | some ⟨.type c, _, .seq its _, _⟩ => decide (c = "tuple") && (decide (its.size ≤ sizeLine) && kDs K xs its.toList)
    | _ => false)
  | _, _ => false
def kDs (K : PySem.W.Frag) : List D → List Value → Bool
  | [], [] => true
  | x :: xs, u :: us => kD K x u && kDs K xs us
  | _, _ => false
end
section
variable {K : PySem.W.Frag} {T : Tb}
mutual
theorem kD_ok : ∀ {d : D} {u : Value}, kD K d u = true → ∃ v, RelV v u ∧ ∀ M, RV K T M d v
  | .non, u, h => by
    cases u with
    | none => exact ⟨.non, rfl, fun _ => rfl⟩
    | _ => cases h
  | .bl b, u, h => by
    cases u with
    | bool c =>
      have e : b = c := eq_of_beq (show (b == c) = true from h)
      exact ⟨.bl b, by rw [e]; rfl, fun _ => rfl⟩
    | _ => cases h
  | .int i, u, h => by
    cases u with
    | int j t =>
      have e : i = j := of_decide_eq_true h
      exact ⟨.int i, ⟨t, by rw [e]⟩, fun _ => rfl⟩
    | _ => cases h
  | .str x, u, h => by
    cases u with
    | str y t =>
      have e : x = y.cps.toList := of_decide_eq_true h
      exact ⟨.str y, ⟨t, rfl⟩, fun _ => by show V.str y = V.str _; rw [e]⟩
    | _ => cases h
  | .tup xs, u, h => by
    cases u with
    | ref a =>
      unfold kD at h
      cases q : K.lookup a with
      | none => rw [q] at h; cases h
      | some o =>
        obtain ⟨oc, od, dt, osl⟩ := o
        rw [q] at h
        cases oc with
        | type c =>
          cases dt with
          | seq its n =>
            have h' : (decide (c = "tuple") && (decide (its.size ≤ sizeLine) && kDs K xs its.toList)) = true := h
            rw [Bool.and_eq_true, Bool.and_eq_true] at h'
            obtain ⟨vs, r1, r2⟩ := kDs_ok h'.2.2
            exact ⟨.ref a, rfl, fun M => ⟨a, vs, rfl, .inr ⟨_, its, n, q, congrArg Value.type (of_decide_eq_true h'.1), rfl, of_decide_eq_true h'.2.1, r1⟩, r2 M⟩⟩
          | _ => cases h
        | _ => cases dt <;> cases h
    | _ => cases h
  | .lst _, u, h => by cases u <;> cases h
  | .dct _ _, u, h => by cases u <;> cases h
  | .set _, u, h => by cases u <;> cases h
  | .obj _ _, u, h => by cases u <;> cases h
  | .fn _, u, h => by cases u <;> cases h
  | .scr _, u, h => by cases u <;> cases h
theorem kDs_ok : ∀ {ds : List D} {us : List Value}, kDs K ds us = true → ∃ vs, Vals vs us ∧ ∀ M, RVs K T M ds vs
  | [], us, h => by
    cases us with
    | nil => exact ⟨[], .nil, fun _ => rfl⟩
    | cons _ _ => cases h
  | d :: ds, us, h => by
    cases us with
    | nil => cases h
    | cons u us =>
      have h' : (kD K d u && kDs K ds us) = true := h
      rw [Bool.and_eq_true] at h'
      obtain ⟨v, r1, r2⟩ := kD_ok h'.1
      obtain ⟨vs, r3, r4⟩ := kDs_ok h'.2
      exact ⟨v :: vs, .cons r1 r3, fun M => ⟨v, vs, rfl, r2 M, r4 M⟩⟩
end
end
/-! ### facts by names -/
def mcT : Value := .type "type"
/-- the def behind a static method -/
def smAt (x m : Str) (K : PySem.W.Frag) : Addr := match PySem.W.recIn K (He.ma K (He.ga K x) m) "staticmethod" with
  | some (.ref g :: _) => g
  | _ => 0
def gloAt (x : Str) (K : PySem.W.Frag) : Addr := He.ga K x
def isGlo (x : Str) (K : PySem.W.Frag) : Bool := decide (PySem.W.nsIn K mainGlobals x = some (some (.ref (He.ga K x))))
def isFree (x : Str) (K : PySem.W.Frag) : Bool := decide (PySem.W.nsIn K mainGlobals x = some none)
def isDat (x : Str) (d : D) (K : PySem.W.Frag) : Bool := match PySem.W.nsIn K mainGlobals x with
  | some (some u) => kD K d u
  | _ => false
def isCls (x : Str) (K : PySem.W.Frag) : Bool := PySem.W.readsIn K (He.ga K x) mcT && decide (PySem.W.specialIn K (.ref (He.ga K x)) "__getattribute__" = some (some (.builtin "type.__getattribute__")))
def isCon (x f : Str) (d : D) (K : PySem.W.Frag) : Bool := match PySem.W.findCls K (.ref (He.ga K x)) mcT f with
  | some (.val u) => kD K d u
  | _ => false
def isSta (x m : Str) (K : PySem.W.Frag) : Bool := (match PySem.W.findCls K (.ref (He.ga K x)) mcT m with
  | some (.get g a o t) => decide (g = .builtin "staticmethod.__get__") && (decide (a = .ref (He.ma K (He.ga K x) m)) && (decide (o = .none) && decide (t = .ref (He.ga K x))))
  | _ => false) && (match PySem.W.recIn K (He.ma K (He.ga K x) m) "staticmethod" with
  | some (.ref _ :: _) => true
  | _ => false)
section
variable {K : PySem.W.Frag} {h : Heap} {mg : Str → Option Value} {T : Tb} {x m f : Str} {d : D}
theorem glo_of (I : K.In h) (G : h.Ns mainGlobals mg) (c : isGlo x K = true) : mg x = some (.ref (He.ga K x)) := PySem.W.mg_of I G (of_decide_eq_true c)
theorem free_of (I : K.In h) (G : h.Ns mainGlobals mg) (c : isFree x K = true) : mg x = none := PySem.W.mg_none_of I G (of_decide_eq_true c)
theorem dat_of (I : K.In h) (G : h.Ns mainGlobals mg) (c : isDat x d K = true) : ∃ u v, mg x = some u ∧ RelV v u ∧ ∀ M, RV K T M d v := by
  unfold isDat at c
  split at c
  · rename_i u e
    obtain ⟨v, r1, r2⟩ := kD_ok (T := T) c
    exact ⟨u, v, PySem.W.mg_of I G e, r1, r2⟩
  · cases c
theorem cls_of (c : isCls x K = true) : ClX.CRead K (He.ga K x) mcT := by
  unfold isCls at c
  rw [Bool.and_eq_true] at c
  exact ⟨c.1, of_decide_eq_true c.2⟩
theorem con_of (c : isCon x f d K = true) : ∃ v u, ClX.CVal K (He.ga K x) mcT f v u ∧ ∀ M, RV K T M d v := by
  unfold isCon at c
  split at c
  · rename_i u e
    obtain ⟨v, r1, r2⟩ := kD_ok (T := T) c
    exact ⟨v, u, ⟨e, r1⟩, r2⟩
  · cases c
theorem sta_of (c : isSta x m K = true) : SMet K (He.ga K x) mcT m (He.ma K (He.ga K x) m) (smAt x m K) := by
  unfold isSta at c
  rw [Bool.and_eq_true] at c
  obtain ⟨c1, c2⟩ := c
  refine ⟨?_, ?_⟩
  · split at c1
    · rename_i g a o t e
      rw [Bool.and_eq_true, Bool.and_eq_true, Bool.and_eq_true] at c1
      obtain ⟨h1, h2, h3, h4⟩ := c1
      rw [e, of_decide_eq_true h1, of_decide_eq_true h2, of_decide_eq_true h3, of_decide_eq_true h4]
    · cases c1
  · unfold smAt
    split at c2
    · rename_i g r e
      exact ⟨r, by rw [e]⟩
    · cases c2
end
/-! ### defs -/
structure DH where
  at_ : PySem.W.Frag → Addr
  name : Str
  qual : Str
  params : Arguments
  body : List Stmt
  scope : Scope
def DH.val (d : DH) : He.FnW := some (d.name, d.qual, d.params, .stmts d.body, d.scope, mainGlobals, [], builtinsNs)
def fnH (K : PySem.W.Frag) (a : Addr) : He.FnW := match K.lookup a with
  | some ⟨_, _, .func fd, _⟩ => some (fd.name, fd.qualname, fd.params, fd.body, fd.scope, fd.globals, fd.closure, fd.builtins)
  | _ => none
def DH.ok (K : PySem.W.Frag) (d : DH) : Bool := PySem.W.keepIn K (.ref (d.at_ K)) && (match K.lookup (d.at_ K) with
  | some ⟨_, _, .func fd, _⟩ => PySem.W.codeIn K fd.code d.qual && He.dflB K fd.defaults []
  | _ => false)
theorem DH.fun {K : PySem.W.Frag} {d : DH} (e : fnH K (d.at_ K) = d.val) (c : d.ok K = true) : ∃ fd, FunD K d.name d.qual d.params d.body d.scope [] [] (d.at_ K) fd := by
  unfold DH.ok at c
  rw [Bool.and_eq_true] at c
  unfold fnH at e
  cases q : K.lookup (d.at_ K) with
  | none => rw [q] at e; cases e
  | some o =>
    obtain ⟨oc, od, dt, osl⟩ := o
    rw [q] at e c
    cases dt with
    | func fd =>
      obtain ⟨n1, n2, n3, n4, n5, n6, n7, n8, n9, n10, n11, n12, n13, n14, n15⟩ := fd
      have e2 : some (n1, n2, n3, n4, n5, n6, n7, n15) = some (d.name, d.qual, d.params, FuncBody.stmts d.body, d.scope, mainGlobals, ([] : List (Str × Addr)), builtinsNs) := e
      simp only [Option.some.injEq, Prod.mk.injEq] at e2
      obtain ⟨g1, g2, g3, g4, g5, g6, g7, g8⟩ := e2
      subst g1 g2 g3 g4 g5 g6 g7 g8
      have c3 : (PySem.W.codeIn K n13 d.qual && He.dflB K n8 []) = true := c.2
      rw [Bool.and_eq_true] at c3
      exact ⟨_, ⟨oc, od, n8, n9, n10, n11, n12, n13, n14, osl, rfl, q, c3.1, He.dflB_ok c3.2, .inl rfl⟩, c.1⟩
    | _ => cases e
/-! ### the hook -/
abbrev Fc := PySem.W.Frag → Bool
def obsV (fs : List Fc) (ds : List DH) (K : PySem.W.Frag) : Bool × List He.FnW := (fs.all (fun f => f K) && ds.all (fun d => d.ok K), ds.map fun d => fnH K (d.at_ K))
def goodV (ds : List DH) : Bool × List He.FnW := (true, ds.map DH.val)
/-- what the module's names, and the statics, reach in n steps -/
def asV (g : Addr → Option Obj) : Nat → List Addr
  | 0 => [mainGlobals, cStatics]
  | n + 1 => He.growD g (asV g n)
def obsVG (n : Nat) (fs : List Fc) (ds : List DH) (g : Addr → Option Obj) : Bool × List He.FnW := obsV fs ds (He.frG g (asV g n))
def hookV (n : Nat) (fs : List Fc) (ds : List DH) : PySem.W.Hook where
  α := Bool × List He.FnW
  obs := fun s => obsVG n fs ds s.heap.get?
  val := fun _ => goodV ds
  says := fun _ h => ∃ K : PySem.W.Frag, K.In h ∧ obsV fs ds K = goodV ds
  of := fun _ _ e => ⟨_, He.frG_in, e⟩
  keeps := fun _ _ _ ⟨K, hK, c⟩ k => ⟨K, PySem.W.Frag.In.keeps hK k, c⟩
theorem obsVG_eq {n : Nat} {fs : List Fc} {ds : List DH} {g : Addr → Option Obj} {s : Shared} (h : ∀ a, g a = s.heap.get? a) : obsVG n fs ds g = (hookV n fs ds).obs s := by
  rw [show g = s.heap.get? from funext h]
  rfl
section
variable {fs : List Fc} {ds : List DH} {K : PySem.W.Frag}
theorem said_fact (c : obsV fs ds K = goodV ds) (i : Nat) {f : Fc} (h : fs[i]? = some f := by rfl) : f K = true := by
  have c1 : (fs.all (fun f => f K) && ds.all (fun d => d.ok K)) = true := congrArg Prod.fst c
  rw [Bool.and_eq_true] at c1
  exact List.all_eq_true.mp c1.1 f (List.mem_of_getElem? h)
theorem said_def (c : obsV fs ds K = goodV ds) (i : Nat) {d : DH} (h : ds[i]? = some d := by rfl) : ∃ fd, FunD K d.name d.qual d.params d.body d.scope [] [] (d.at_ K) fd := by
  have c1 : (fs.all (fun f => f K) && ds.all (fun d => d.ok K)) = true := congrArg Prod.fst c
  rw [Bool.and_eq_true] at c1
  have c2 : (ds.map fun d => fnH K (d.at_ K)) = ds.map DH.val := congrArg Prod.snd c
  have c3 : (ds.map fun d => fnH K (d.at_ K))[i]? = (ds.map DH.val)[i]? := by rw [c2]
  rw [List.getElem?_map, List.getElem?_map, h] at c3
  exact DH.fun (Option.some.inj c3) (List.all_eq_true.mp c1.2 d (List.mem_of_getElem? h))
end
/-! ### three names at once -/
section
variable {X : Cx} {T : Tb}
theorem js_par3 {i j l : Nat} {x y z : Str} {a b c : Expr} {f : SA} {px py pz pt pos : Pos} {kt k2 : Nat} {pt2 : Pos} (hc : X.calm = true) (hN : X.N.Nodup) (ha : JA X T [a, b, c] f) (hi : X.N[i]? = some x := by rfl) (hj : X.N[j]? = some y := by rfl) (hl : X.N[l]? = some z := by rfl)
    (hij : i ≠ j := by decide) (hil : i ≠ l := by decide) (hjl : j ≠ l := by decide) (hx : X.env.scope.names.lookup x = some .local := by rfl) (hy : X.env.scope.names.lookup y = some .local := by rfl) (hz : X.env.scope.names.lookup z = some .local := by rfl)
    (hw : swappedStores [.Tuple [.Name x px, .Name y py, .Name z pz] kt pt] (.Tuple [a, b, c] k2 pt2) X.env = pure (some [x, y, z]) := by rfl) (hs : swapsWithSole [.Tuple [.Name x px, .Name y py, .Name z pz] kt pt] (.Tuple [a, b, c] k2 pt2) pos.line X.env = pure false := by rfl) :
    JS X T (.Assign [.Tuple [.Name x px, .Name y py, .Name z pz] kt pt] (.Tuple [a, b, c] k2 pt2) pos) (sPar3 i j l f) := PS.weak (ps_par3 hc hN hi hj hl hij hil hjl hx hy hz ha hw hs) fun Dn σ H h => by
  obtain ⟨M, B, L, ρ, p, h⟩ := h
  refine ⟨M, B, L, ρ, p, (post.st h).mono fun ws L1 M1 eA R x q vs rvs => ?_⟩
  match ws, q, rvs with
  | [w1, w2, w3], q, rvs =>
    obtain ⟨v1, s1, rfl, a1, v2, s2, rfl, a2, v3, s3, rfl, a3, rfl⟩ := rvs
    exact ⟨v1, v2, v3, rfl, q.ext_next eA R ((((p.rs.ext p.rep x).set a1 i).set a2 j).set a3 l)⟩
  | [], q, _ => exact q.elim
  | [_], q, _ => exact q.elim
  | [_, _], q, _ => exact q.elim
  | _ :: _ :: _ :: _ :: _, q, _ => exact q.elim
end
end Ev

set_option Elab.async false
set_option linter.all false
set_option maxRecDepth 100000
set_option maxHeartbeats 1000000
set_option autoImplicit false
/-! EvJ: small words for printed walks. -/
namespace Ev
open PySem PySem.Spec PyProof.Rows L2
theorem u1 {k : Nat} {A : Around} (r : Room k A) : A.units + 1 < cLine := by have := r.un; omega
theorem u10 {k : Nat} {A : Around} (r : Room k A) : A.units + 10 < cLine := by have := r.un; omega
theorem u64 {k : Nat} {A : Around} (r : Room k A) : A.units + 64 < cLine := by have := r.un; omega
theorem u65 {k : Nat} {A : Around} (r : Room k A) : A.units + 65 < cLine := by have := r.un; omega
theorem u66 {k : Nat} {A : Around} (r : Room k A) : A.units + 66 < cLine := by have := r.un; omega
/-- a statement of a class's body -/
def inCls (s : Stmt) (j : Nat) : Stmt := match s with
  | .ClassDef (body := b) .. => b.getD j (.Pass ⟨0, 0, 0, 0⟩)
  | _ => .Pass ⟨0, 0, 0, 0⟩
theorem kw_binds {K : PySem.W.Frag} {x qual : Str} {params : Arguments} {body : List Stmt} {scope : Scope} {kws : List (Str × V)} {f : Addr} {fd : FuncData} {args : Args} {binds : List (Str × Value)} (F : FunD K x qual params body scope [] kws f fd)
    (h : ∀ (kV doc pm : Value) (an : Option Addr) (cdv ct : Value), bindArgs (PySem.W.fnOf x qual params body scope .none kV doc pm an cdv ct) args = pure binds) (s : Shared) : BindsTo s fd args binds := by
  obtain ⟨oc, od, dV, kV, doc, pm, an, cdv, ct, osl, rfl, lk, hcd, hD, hK⟩ := F.ex
  rcases hD with ⟨_, rfl⟩ | ⟨e, _⟩
  · exact .of_eq (h kV doc pm an cdv ct)
  · exact absurd rfl e
section
variable {X : Cx} {T : Tb}
theorem je_datum {x : Str} {d : D} {pos : Pos} (h : ∃ u v, X.mg x = some u ∧ RelV v u ∧ ∀ M, RV X.K T M d v) (hg : Gl X x := by rfl) (hd : (x == ("__debug__" : Str)) = false := by decide) : JE X T (.Name x pos) (eC d) :=
  let ⟨_, _, hm, r, rv⟩ := h; je_glob hm r (fun M _ => rv M) hg hd
theorem je_conD {x f : Str} {C : Addr} {mc : Value} {d : D} {p pos : Pos} (hm : X.mg x = some (.ref C)) (c : ClX.CRead X.K C mc) (h : ∃ v u, ClX.CVal X.K C mc f v u ∧ ∀ M, RV X.K T M d v) (hg : Gl X x := by rfl) (hd : (x == ("__debug__" : Str)) = false := by decide)
    (hb : attributeBase (.Name x p) f X.env (eval (.Name x p) X.env) = eval (.Name x p) X.env := by rfl) : JE X T (.Attribute (.Name x p) f pos) (eC d) :=
  let ⟨_, _, cv, rv⟩ := h; je_cval hm c cv (fun M _ => rv M) hg hd hb
end
theorem rvs_ints {K : PySem.W.Frag} {T : Tb} {M : Mem} : ∀ ns : List Int, RVs K T M (ns.map D.int) (ns.map V.int)
  | [] => rfl
  | _ :: ns => ⟨_, _, rfl, rfl, rvs_ints ns⟩
/-- the law's start: the script alone -/
theorem law_start {K : PySem.W.Frag} {T : Tb} {H : Hp} {a : Addr} {ns : List Int} {F : Fn} {E : XK} (hO : Only H) (hS : SqL K H a (ns.map V.int)) (h : ∃ L, F [.d (.scr (ns.map D.int))] [] [] = .ok (.d (.bl true)) L) : spOf K T 1 F [.ref a] H (fun v _ => v = .bl true) E := by
  obtain ⟨L, h⟩ := h
  have R : Rep K T ⟨fun _ => 0, [], H, []⟩ := ⟨fun i j ⟨o, e, _⟩ => by simp at e, fun n o e => by simp at e, fun a ha => by simp at ha⟩
  refine ⟨rfl, ⟨fun _ => 0, [], H, []⟩, [], [], [.d (.scr (ns.map D.int))], rfl, rfl, R, ⟨_, _, rfl, ⟨a, _, rfl, ?_, rvs_ints ns⟩, rfl⟩, ?_⟩
  · rcases hS with s | s
    · exact .inl ⟨⟨fun n ⟨o, e, _⟩ => by simp at e, by simp⟩, s⟩
    · exact .inr s
  · rw [h]
    exact fun M' _ _ _ v rv => rv
end Ev

set_option linter.all false
set_option maxRecDepth 100000
set_option autoImplicit false
/-! EvX: running the plain semantics by rules. -/
namespace Ev
section
variable {B L L1 L2 L3 L4 : Hs} {ρ ρ1 ρ2 : Sl} {w x y z : W} {p q r s : D} {a b c o i v : SE} {f g : SA} {t u : ST} {k k1 k2 : Bool}
theorem x_var {n : Nat} (h : ρ[n]? = some (some w)) : eVar n B ρ L = .ok w L := by unfold eVar; rw [h]
theorem x_c {d : D} : eC d B ρ L = .ok (.d d) L := rfl
theorem x_1 {op : D → Option D} (h : a B ρ L = .ok x L1) (hx : vw B L1 x = some p) (ho : op p = some r) : e1 op a B ρ L = .ok (.d r) L1 := by
  unfold e1 vwR ofOpt Res.bind
  rw [h]
  dsimp only
  rw [hx]
  dsimp only
  rw [ho]
theorem x_2 {op : D → D → Option D} (h : a B ρ L = .ok x L1) (h2 : b B ρ L1 = .ok y L2) (hx : vw B L2 x = some p) (hy : vw B L2 y = some q) (ho : op p q = some r) : e2 op a b B ρ L = .ok (.d r) L2 := by
  unfold e2 vwR ofOpt Res.bind
  rw [h]
  dsimp only
  rw [h2]
  dsimp only
  rw [hx]
  dsimp only
  rw [hy]
  dsimp only
  rw [ho]
theorem x_nil : aNil B ρ L = .ok [] L := rfl
theorem x_cons {ws : List W} (h : a B ρ L = .ok x L1) (h2 : f B ρ L1 = .ok ws L2) : aCons a f B ρ L = .ok (x :: ws) L2 := by
  unfold aCons Res.bind
  rw [h]
  dsimp only
  rw [h2]
theorem x_star {ws : List W} {ys : List D} (h : a B ρ L = .ok x L1) (hx : vw B L1 x = some p) (hs : seqD p = some ys) (h2 : f B ρ L1 = .ok ws L2) : aStar a f B ρ L = .ok (ys.map .d ++ ws) L2 := by
  unfold aStar vwR ofOpt Res.bind
  rw [h]
  dsimp only
  rw [hx]
  dsimp only
  rw [hs]
  dsimp only
  rw [h2]
theorem x_tup {ws : List W} {xs : List D} (h : f B ρ L = .ok ws L1) (ho : ownAll B L1 ws = some (xs, L2)) (hl : xs.length ≤ sizeL) : eTup f B ρ L = .ok (.d (.tup xs)) L2 := by
  unfold eTup ownsR guardR Res.bind
  rw [h]
  dsimp only
  rw [ho]
  dsimp only
  rw [decide_eq_true hl]
theorem x_lst {ws : List W} {xs : List D} (h : f B ρ L = .ok ws L1) (ho : ownAll B L1 ws = some (xs, L2)) (hl : xs.length ≤ sizeL) : eLst f B ρ L = .ok (.d (.lst xs)) L2 := by
  unfold eLst ownsR guardR Res.bind
  rw [h]
  dsimp only
  rw [ho]
  dsimp only
  rw [decide_eq_true hl]
theorem x_lstM {ws : List W} (h : f B ρ L = .ok ws L1) (hl : ws.length ≤ sizeL) : eLstM f B ρ L = .ok (.ref (B.length + L1.length)) (L1 ++ [.lst ws]) := by
  unfold eLstM guardR Res.bind
  rw [h]
  dsimp only
  rw [decide_eq_true hl]
theorem x_call {np : Nat} {F : Fn} {ws : List W} (h : f B ρ L = .ok ws L1) (hl : ws.length = np) (hF : F ws B L1 = .ok w L2) : eCall np F f B ρ L = .ok w L2 := by
  unfold eCall guardR Res.bind
  rw [h]
  dsimp only
  rw [decide_eq_true hl]
  exact hF
theorem x_callK {nk np : Nat} {F : Fn} {ws : List W} {gg : List W → List W} (h : f B ρ L = .ok ws L1) (hl : ws.length = nk) (hF : F (gg ws) B L1 = .ok w L2) : eCallK nk np F gg f B ρ L = .ok w L2 := by
  unfold eCallK guardR Res.bind
  rw [h]
  dsimp only
  rw [decide_eq_true hl]
  exact hF
theorem x_B {op : List D → Option D} {ws : List W} {ps : List D} (h : f B ρ L = .ok ws L1) (hv : vwsR B L1 ws = .ok ps L2) (ho : op ps = some r) : eB op f B ρ L = .ok (.d r) L2 := by
  unfold eB ofOpt Res.bind
  rw [h]
  dsimp only
  rw [hv]
  dsimp only
  rw [ho]
theorem x_vnil : vwsR B L [] = .ok [] L := rfl
theorem x_vcons {ws : List W} {ps : List D} (h : vw B L w = some p) (h2 : vwsR B L ws = .ok ps L2) : vwsR B L (w :: ws) = .ok (p :: ps) L2 := by
  show (vwR B L w).bind _ = _
  unfold vwR ofOpt Res.bind
  rw [h]
  dsimp only
  rw [h2]
/-! tests -/
theorem x_tE (h : a B ρ L = .ok x L1) (hx : vw B L1 x = some p) (ht : tru p = some k) : tE a B ρ L = .ok k L1 := by
  unfold tE vwR ofOpt Res.bind
  rw [h]
  dsimp only
  rw [hx]
  dsimp only
  rw [ht]
/-- two ways on -/
def Br (k : Bool) (P Q : Prop) : Prop := (k = true → P) ∧ (k = false → Q)
theorem br1 {P Q : Prop} (h : k = true) (p : P) : Br k P Q := ⟨fun _ => p, fun z => by rw [h] at z; cases z⟩
theorem br0 {P Q : Prop} (h : k = false) (p : Q) : Br k P Q := ⟨fun z => absurd z (by rw [h]; exact Bool.false_ne_true), fun _ => p⟩
theorem br2 {P Q : Prop} (p : k = true → P) (q : k = false → Q) : Br k P Q := ⟨p, q⟩
theorem x_tAnd {R : Res Bool} (h : t B ρ L = .ok k L1) (h2 : Br k (u B ρ L1 = R) (Res.ok false L1 = R)) : tAnd t u B ρ L = R := by
  unfold tAnd Res.bind
  rw [h]
  cases k with
  | true => exact h2.1 rfl
  | false => exact h2.2 rfl
theorem x_tOr {R : Res Bool} (h : t B ρ L = .ok k L1) (h2 : Br k (Res.ok true L1 = R) (u B ρ L1 = R)) : tOr t u B ρ L = R := by
  unfold tOr Res.bind
  rw [h]
  cases k with
  | true => exact h2.1 rfl
  | false => exact h2.2 rfl
theorem x_tNot (h : t B ρ L = .ok k L1) : tNot t B ρ L = .ok (!k) L1 := by
  unfold tNot Res.bind
  rw [h]
theorem x_if {R : Res W} (h : t B ρ L = .ok k L1) (h2 : Br k (a B ρ L1 = R) (b B ρ L1 = R)) : eIf t a b B ρ L = R := by
  unfold eIf Res.bind
  rw [h]
  cases k with
  | true => exact h2.1 rfl
  | false => exact h2.2 rfl
theorem x_and {R : Res W} (h : a B ρ L = .ok x L1) (hx : vw B L1 x = some p) (ht : tru p = some k) (h2 : Br k (b B ρ L1 = R) (Res.ok x L1 = R)) : eAnd a b B ρ L = R := by
  unfold eAnd vwR ofOpt Res.bind
  rw [h]
  dsimp only
  rw [hx]
  dsimp only
  rw [ht]
  cases k with
  | true => exact h2.1 rfl
  | false => exact h2.2 rfl
theorem x_or {R : Res W} (h : a B ρ L = .ok x L1) (hx : vw B L1 x = some p) (ht : tru p = some k) (h2 : Br k (Res.ok x L1 = R) (b B ρ L1 = R)) : eOr a b B ρ L = R := by
  unfold eOr vwR ofOpt Res.bind
  rw [h]
  dsimp only
  rw [hx]
  dsimp only
  rw [ht]
  cases k with
  | true => exact h2.1 rfl
  | false => exact h2.2 rfl
theorem x_not (h : a B ρ L = .ok x L1) (hx : vw B L1 x = some p) (ht : tru p = some k) : eNot a B ρ L = .ok (.d (.bl (!k))) L1 := by
  unfold eNot vwR ofOpt Res.bind
  rw [h]
  dsimp only
  rw [hx]
  dsimp only
  rw [ht]
theorem x_isN (h : a B ρ L = .ok x L1) : eIsN a B ρ L = .ok (.d (.bl (isN x))) L1 := by
  unfold eIsN Res.bind
  rw [h]
theorem x_notN (h : a B ρ L = .ok x L1) : eNotN a B ρ L = .ok (.d (.bl (!isN x))) L1 := by
  unfold eNotN Res.bind
  rw [h]
/-- the second half of a chain -/
def ch2 (op' : D → D → Option D) (B : Hs) (y z : W) (L3 : Hs) : Res W := (vwR B L3 y).bind fun q L3 => (vwR B L3 z).bind fun s L3 => (ofOpt (op' q s) L3).bind fun r L4 => .ok (.d r) L4
theorem x_ch2 {op' : D → D → Option D} (hy : vw B L y = some q) (hz : vw B L z = some s) (ho : op' q s = some r) : ch2 op' B y z L = .ok (.d r) L := by
  unfold ch2 vwR ofOpt Res.bind
  rw [hy]
  dsimp only
  rw [hz]
  dsimp only
  rw [ho]
theorem x_chain {op op' : D → D → Option D} {R : Res W} (h : a B ρ L = .ok x L1) (h2 : b B ρ L1 = .ok y L2) (hx : vw B L2 x = some p) (hy : vw B L2 y = some q) (ho : op p q = some (.bl k))
    (h3 : Br k (∃ z L3, c B ρ L2 = .ok z L3 ∧ ch2 op' B y z L3 = R) (Res.ok (.d (.bl false)) L2 = R)) : eChain op op' a b c B ρ L = R := by
  unfold eChain
  rw [h]
  show (b B ρ L1).bind _ = _
  rw [h2]
  show (vwR B L2 x).bind _ = _
  unfold vwR
  rw [hx]
  show (ofOpt (vw B L2 y) L2).bind _ = _
  rw [hy]
  show (ofOpt (op p q) L2).bind _ = _
  rw [ho]
  show (if k = true then _ else _) = R
  cases k with
  | true =>
    obtain ⟨z, L3, e1, e2⟩ := h3.1 rfl
    rw [if_pos rfl, e1]
    exact e2
  | false => rw [if_neg Bool.false_ne_true]; exact h3.2 rfl
theorem x_ex {A' : Type} {B' : Type} {P : A' → B' → Prop} {Q : A' → B' → Prop} {z : A'} {l : B'} (h : P z l) (h2 : Q z l) : ∃ z l, P z l ∧ Q z l := ⟨z, l, h, h2⟩
theorem x_oNone : oNone B ρ L = .ok none L := rfl
theorem x_oSome {j : Int} (h : a B ρ L = .ok x L1) (hx : vw B L1 x = some p) (hj : intD p = some j) : oSome a B ρ L = .ok (some j) L1 := by
  unfold oSome vwR ofOpt Res.bind
  rw [h]
  dsimp only
  rw [hx]
  dsimp only
  rw [hj]
theorem x_sl {lo hi : SO} {l h : Option Int} (h1 : a B ρ L = .ok x L1) (h2 : lo B ρ L1 = .ok l L2) (h3 : hi B ρ L2 = .ok h L3) (hx : vw B L3 x = some p) (ho : opSl p l h = some r) : eSl a lo hi B ρ L = .ok (.d r) L3 := by
  unfold eSl vwR ofOpt Res.bind
  rw [h1]
  dsimp only
  rw [h2]
  dsimp only
  rw [h3]
  dsimp only
  rw [hx]
  dsimp only
  rw [ho]
/-! dicts -/
theorem x_pnil : pairsGo B ρ [] L = .ok ([], []) L := rfl
theorem x_pcons {ps : List (SE × SE)} {ww : List W × List W} (h : a B ρ L = .ok x L1) (h2 : b B ρ L1 = .ok y L2) (h3 : pairsGo B ρ ps L2 = .ok ww L3) : pairsGo B ρ ((a, b) :: ps) L = .ok (x :: ww.1, y :: ww.2) L3 := by
  show (a B ρ L).bind _ = _
  unfold Res.bind
  rw [h]
  dsimp only
  rw [h2]
  dsimp only
  rw [h3]
theorem x_dct {ps : List (SE × SE)} {ww : List W × List W} {xs ks : List D} (h : pairsGo B ρ ps L = .ok ww L1) (ho : ownAll B L1 ww.2 = some (xs, L2)) (hk : vwsR B L2 ww.1 = .ok ks L3) (hg : (ks.all isKey && decide (ks.length ≤ 15)) = true) :
    eDct ps B ρ L = .ok (.d (.dct (mergeKV [] [] ks xs).1 (mergeKV [] [] ks xs).2)) L3 := by
  unfold eDct ownsR guardR Res.bind
  rw [h]
  dsimp only
  rw [ho]
  dsimp only
  rw [hk]
  dsimp only
  rw [hg]
theorem x_dctM {ps : List (SE × SE)} {ww : List W × List W} {ks : List D} (h : pairsGo B ρ ps L = .ok ww L1) (hk : vwsR B L1 ww.1 = .ok ks L2) (hg : (ks.all isKey && decide (ks.length ≤ 15)) = true) :
    eDctM ps B ρ L = .ok (.ref (B.length + L2.length)) (L2 ++ [.dct (mergeKV [] [] ks ww.2).1 (mergeKV [] [] ks ww.2).2]) := by
  unfold eDctM guardR Res.bind
  rw [h]
  dsimp only
  rw [hk]
  dsimp only
  rw [hg]
/-! statements -/
variable {S1 S2 : SS} {sr : SR}
theorem x_snil : sNil B ρ L = .next ρ L := rfl
theorem x_seq {r1 : SR} (h : S1 B ρ L = r1) (h2 : r1.then (fun ρ1 L1 => S2 B ρ1 L1) = sr) : sSeq S1 S2 B ρ L = sr := by
  unfold sSeq
  rw [h]
  exact h2
theorem x_thenN (h : S2 B ρ L = sr) : (SR.next ρ L).then (fun ρ1 L1 => S2 B ρ1 L1) = sr := h
theorem x_thenR {kk : Sl → Hs → SR} : (SR.ret w L).then kk = .ret w L := rfl
theorem x_thenB {kk : Sl → Hs → SR} : (SR.brk ρ L).then kk = .brk ρ L := rfl
theorem x_thenC {kk : Sl → Hs → SR} : (SR.cnt ρ L).then kk = .cnt ρ L := rfl
theorem x_ret (h : a B ρ L = .ok w L1) : sRet a B ρ L = .ret w L1 := by
  unfold sRet Res.st
  rw [h]
theorem x_expr (h : a B ρ L = .ok w L1) : sExpr a B ρ L = .next ρ L1 := by
  unfold sExpr Res.st
  rw [h]
theorem x_sif (h : t B ρ L = .ok k L1) (h2 : Br k (S1 B ρ L1 = sr) (S2 B ρ L1 = sr)) : sIf t S1 S2 B ρ L = sr := by
  unfold sIf Res.st
  rw [h]
  cases k with
  | true => exact h2.1 rfl
  | false => exact h2.2 rfl
theorem x_asg {g : SG} (h : a B ρ L = .ok w L1) (hg : g w B ρ L1 = .ok ρ1 L2) : sAsg a g B ρ L = .next ρ1 L2 := by
  unfold sAsg Res.st
  rw [h]
  dsimp only
  rw [hg]
theorem x_gvar {n : Nat} : gVar n w B ρ L = .ok (ρ.set n (some w)) L := rfl
theorem x_gtup {gs : List SG} {xs : List D} (hx : vw B L w = some p) (ht : tupD p = some xs) (h : gAll gs xs B ρ L = .ok ρ1 L1) : gTup gs w B ρ L = .ok ρ1 L1 := by
  unfold gTup vwR ofOpt Res.bind
  rw [hx]
  dsimp only
  rw [ht]
  exact h
theorem x_gnil : gAll [] [] B ρ L = .ok ρ L := rfl
theorem x_gcons {g : SG} {gs : List SG} {xs : List D} (h : g (.d p) B ρ L = .ok ρ1 L1) (h2 : gAll gs xs B ρ1 L1 = .ok ρ2 L2) : gAll (g :: gs) (p :: xs) B ρ L = .ok ρ2 L2 := by
  show (g (.d p) B ρ L).bind _ = _
  unfold Res.bind
  rw [h]
  exact h2
theorem x_par {n m : Nat} (h : f B ρ L = .ok [x, y] L1) : sPar n m f B ρ L = .next ((ρ.set n (some x)).set m (some y)) L1 := by
  unfold sPar Res.st
  rw [h]
theorem x_par3 {n m l : Nat} (h : f B ρ L = .ok [x, y, z] L1) : sPar3 n m l f B ρ L = .next (((ρ.set n (some x)).set m (some y)).set l (some z)) L1 := by
  unfold sPar3 Res.st
  rw [h]
theorem x_dput (hv : v B ρ L = .ok z L1) (ho : o B ρ L1 = .ok x L2) (hi : i B ρ L2 = .ok y L3) (hy : vw B L3 y = some q) (hp : putAt B L3 x q z = some L4) : sDPut o i v B ρ L = .next ρ L4 := by
  unfold sDPut vwR ofOpt Res.st
  rw [hv]
  dsimp only
  rw [ho]
  dsimp only
  rw [hi]
  dsimp only
  rw [hy]
  dsimp only
  rw [hp]
/-! defs -/
def fnEnd : SR → Res W
  | .next _ L1 => .ok (.d .non) L1
  | .ret w L1 => .ok w L1
  | .exc c ds _ L1 => .exc c ds L1
  | _ => .bad
theorem x_fn {np ns : Nat} {b : SS} {ws : List W} {r1 : SR} {R : Res W} (hl : ws.length = np) (h : b B (ws.map some ++ List.replicate (ns - np) none) L = r1) (h2 : fnEnd r1 = R) : fnBody np ns b ws B L = R := by
  unfold fnBody
  rw [if_pos hl, h, ← h2]
  cases r1 <;> rfl
theorem x_pure {F : Fn} {ws : List W} {w' : W} (h : F ws (B ++ L) [] = .ok w L1) (ho : out (B ++ L).length L1 w = some w') : pureFn F ws B L = .ok w' L := by
  unfold pureFn
  rw [h]
  dsimp only
  rw [ho]
/-! operators -/
theorem o_fdiv {m n : Int} (h : 0 < n ∧ n.natAbs.log2 < 9000) : opFdiv (.int m) (.int n) = some (.int (m / n)) := if_pos h
theorem o_mod {m n : Int} (h : 0 < n) : opMod (.int m) (.int n) = some (.int (m % n)) := if_pos h
theorem o_pow {m n : Int} (h : 0 ≤ n ∧ n ≤ 1000000 ∧ m.natAbs < 2 ^ 64) : opPow (.int m) (.int n) = some (.int (m ^ n.toNat)) := if_pos h
theorem o_mul {m n : Int} (h : mulOk m n = true) : opMul (.int m) (.int n) = some (.int (m * n)) := if_pos h
theorem o_eq {d e : D} (h : (okD d && okD e) = true) : opEq d e = some (.bl (eqD d e)) := by
  cases d with
  | str x => cases e with
    | str y => rfl
    | _ => first | (unfold opEq; exact if_pos h) | (unfold opNe; exact if_pos h)
  | int m => cases e with
    | int n => rfl
    | _ => unfold opEq; exact if_pos h
  | lst xs => cases e with
    | lst ys => cases ys with
      | nil => cases xs <;> rfl
      | cons _ _ => unfold opEq; exact if_pos h
    | _ => unfold opEq; exact if_pos h
  | _ => cases e <;> (unfold opEq; exact if_pos h)
theorem o_ne {d e : D} (h : (okD d && okD e) = true) : opNe d e = some (.bl (!eqD d e)) := by
  cases d with
  | str x => cases e with
    | str y => rfl
    | _ => first | (unfold opEq; exact if_pos h) | (unfold opNe; exact if_pos h)
  | int m => cases e with
    | int n => rfl
    | _ => unfold opNe; exact if_pos h
  | lst xs => cases e with
    | lst ys => cases ys with
      | nil => cases xs <;> rfl
      | cons _ _ => unfold opNe; exact if_pos h
    | _ => unfold opNe; exact if_pos h
  | _ => cases e <;> (unfold opNe; exact if_pos h)
end
theorem r_ok {α : Type} {a : α} {L : Hs} : Res.ok a L = Res.ok a L := rfl
theorem v_d {B L : Hs} {p : D} : vw B L (.d p) = some p := rfl
theorem t_bl {k : Bool} : tru (.bl k) = some k := rfl
theorem t_int {n : Int} : tru (.int n) = some (decide (n ≠ 0)) := rfl
theorem t_non : tru .non = some false := rfl
theorem o_add {m n : Int} : opAdd (.int m) (.int n) = some (.int (m + n)) := rfl
theorem o_sub {m n : Int} : opSub (.int m) (.int n) = some (.int (m - n)) := rfl
theorem o_lt {m n : Int} : opLt (.int m) (.int n) = some (.bl (decide (m < n))) := rfl
theorem o_le {m n : Int} : opLe (.int m) (.int n) = some (.bl (decide (m ≤ n))) := rfl
theorem o_gt {m n : Int} : opGt (.int m) (.int n) = some (.bl (decide (n < m))) := rfl
theorem o_ge {m n : Int} : opGe (.int m) (.int n) = some (.bl (decide (n ≤ m))) := rfl
theorem o_eqI {m n : Int} : opEq (.int m) (.int n) = some (.bl (decide (m = n))) := rfl
theorem o_eqS {m n : List Nat} : opEq (.str m) (.str n) = some (.bl (decide (m = n))) := rfl
theorem o_neI {m n : Int} : opNe (.int m) (.int n) = some (.bl (!decide (m = n))) := rfl
theorem o_neS {m n : List Nat} : opNe (.str m) (.str n) = some (.bl (!decide (m = n))) := rfl
theorem b_len {xs : List D} : bLen [.lst xs] = some (.int xs.length) := rfl
theorem b_lenT {xs : List D} : bLen [.tup xs] = some (.int xs.length) := rfl
theorem b_lenS {xs : List D} : bLen [.scr xs] = some (.int xs.length) := rfl
theorem b_abs {n : Int} : bAbs [.int n] = some (.int (if n < 0 then -n else n)) := rfl
theorem b_int {n : Int} : bInt [.int n] = some (.int n) := rfl
theorem b_intB {k : Bool} : bInt [.bl k] = some (.int (if k then 1 else 0)) := rfl
theorem b_max {m n : Int} : bMax [.int m, .int n] = some (.int (if n > m then n else m)) := rfl
theorem b_min {m n : Int} : bMin [.int m, .int n] = some (.int (if n < m then n else m)) := rfl
theorem w_nil {B L : Hs} : ownAll B L [] = some ([], L) := rfl
theorem w_cons {B L L2 : Hs} {p : D} {ws : List W} {xs : List D} (h : ownAll B L ws = some (xs, L2)) : ownAll B L (.d p :: ws) = some (p :: xs, L2) := by
  show (match ownAll B L ws with | some (xs, L2) => some (p :: xs, L2) | none => none) = _
  rw [h]
section
variable {B L L1 L2 : Hs} {ρ ρ1 : Sl} {w x : W} {p r : D} {a : SE} {it : SI} {g : SG} {b : SS} {sr sr1 : SR} {xs ys : List D}
theorem x_iE (h : a B ρ L = .ok x L1) (hs : still B L1 x = some p) (hi : items p = some xs) : iE a B ρ L = .ok xs L1 := by
  unfold iE ofOpt Res.bind
  rw [h]
  dsimp only
  rw [hs]
  dsimp only
  rw [hi]
theorem x_iRange {j : Int} (h : a B ρ L = .ok x L1) (hx : vw B L1 x = some p) (hj : intD p = some j) (hg : -(2 ^ 62) ≤ j ∧ j < 2 ^ 62) : iRange a B ρ L = .ok ((List.range j.toNat).map fun (i : Nat) => D.int i) L1 := by
  unfold iRange vwR ofOpt guardR Res.bind
  rw [h]
  dsimp only
  rw [hx]
  dsimp only
  rw [hj]
  dsimp only
  rw [decide_eq_true hg]
theorem x_for (hi : it B ρ L = .ok xs L1) (h : forGo g b B xs ρ L1 = sr) : sFor it g b B ρ L = sr := by
  unfold sFor Res.st
  rw [hi]
  exact h
theorem x_fornil : forGo g b B [] ρ L = .next ρ L := rfl
theorem x_forcons (hg : g (.d p) B ρ L = .ok ρ1 L1) (hb : b B ρ1 L1 = sr1) (h : sr1.turn (fun ρ2 L2 => forGo g b B xs ρ2 L2) = sr) : forGo g b B (p :: xs) ρ L = sr := by
  show (g (.d p) B ρ L).st ρ _ = sr
  unfold Res.st
  rw [hg]
  dsimp only
  rw [hb]
  exact h
theorem x_turnN {k : Sl → Hs → SR} (h : k ρ L = sr) : (SR.next ρ L).turn k = sr := h
theorem x_turnC {k : Sl → Hs → SR} (h : k ρ L = sr) : (SR.cnt ρ L).turn k = sr := h
theorem x_turnB {k : Sl → Hs → SR} : (SR.brk ρ L).turn k = .next ρ L := rfl
theorem x_turnR {k : Sl → Hs → SR} : (SR.ret w L).turn k = .ret w L := rfl
theorem e_ret : fnEnd (.ret w L) = .ok w L := rfl
theorem e_next : fnEnd (.next ρ L) = .ok (.d .non) L := rfl
theorem o_out {n : Nat} : out n L (.d p) = some (.d p) := rfl
theorem a_lst (h : xs.length + ys.length ≤ sizeL) : opAdd (.lst xs) (.lst ys) = some (.lst (xs ++ ys)) := if_pos h
theorem a_tup (h : xs.length + ys.length ≤ sizeL) : opAdd (.tup xs) (.tup ys) = some (.tup (xs ++ ys)) := if_pos h
end
section
variable {B L L1 L2 L3 L4 : Hs} {ρ ρ1 ρ2 : Sl} {w x y z : W} {p q r s : D} {a b c o i v : SE} {f g : SA} {t u t1 t2 : ST} {k k1 k2 : Bool} {n : Nat} {ws : List W}
theorem x_app (ho : o B ρ L = .ok x L1) (h1 : (lstAt B L1 x).isSome = true) (ha : a B ρ L1 = .ok y L2) (h2 : lstAt B L2 x = some (n, ws)) (hl : ws.length < sizeL) (hL : L2.set n (.lst (ws ++ [y])) = L3) : eApp o a B ρ L = .ok (.d .non) L3 := by
  unfold eApp guardR Res.bind
  rw [ho]
  dsimp only
  rw [h1]
  dsimp only
  rw [ha]
  dsimp only
  rw [h2]
  dsimp only
  rw [if_pos hl, hL]
theorem x_ext {ys : List D} (ho : o B ρ L = .ok x L1) (h1 : (lstAt B L1 x).isSome = true) (ha : a B ρ L1 = .ok y L2) (hy : vw B L2 y = some p) (hp : lstD p = some ys) (h2 : lstAt B L2 x = some (n, ws)) (hl : ws.length + ys.length ≤ sizeL) (hL : L2.set n (.lst (ws ++ ys.map .d)) = L3) : eExt o a B ρ L = .ok (.d .non) L3 := by
  unfold eExt guardR vwR ofOpt Res.bind
  rw [ho]
  dsimp only
  rw [h1]
  dsimp only
  rw [ha]
  dsimp only
  rw [hy]
  dsimp only
  rw [hp]
  dsimp only
  rw [h2]
  dsimp only
  rw [if_pos hl, hL]
theorem x_pop (ho : o B ρ L = .ok x L1) (h2 : lstAt B L1 x = some (n, ws)) (hl : ws[ws.length - 1]? = some y) (hL : L1.set n (.lst ws.dropLast) = L3) : ePop o B ρ L = .ok y L3 := by
  unfold ePop Res.bind
  rw [ho]
  dsimp only
  rw [h2]
  dsimp only
  rw [hl, hL]
theorem x_inN {ks : List D} {neg : Bool} (h : a B ρ L = .ok x L1) (h2 : b B ρ L1 = .ok (.ref n) L2) (hx : vw B L2 x = some p) (hd : look B L2 n = some (.dcn ks ws)) (hk : isNK p = true) (he : (if neg = true then !nkIn p ks else nkIn p ks) = k) : eInN neg a b B ρ L = .ok (.d (.bl k)) L2 := by
  unfold eInN vwR ofOpt Res.bind
  rw [h]
  dsimp only
  rw [h2]
  dsimp only
  rw [hx]
  dsimp only
  rw [hd]
  dsimp only
  rw [if_pos hk, he]
theorem x_gitem (ho : o B ρ L = .ok x L1) (hi : i B ρ L1 = .ok y L2) (hy : vw B L2 y = some p) (hp : putIn B L2 x p w = some L3) : gItem o i w B ρ L = .ok ρ L3 := by
  unfold gItem vwR ofOpt Res.bind
  rw [ho]
  dsimp only
  rw [hi]
  dsimp only
  rw [hy]
  dsimp only
  rw [hp]
theorem x_listM {xs : List D} (h : a B ρ L = .ok x L1) (hx : vw B L1 x = some p) (hs : seqS p = some xs) : eListM a B ρ L = .ok (.ref (B.length + L1.length)) (L1 ++ [.lst (xs.map .d)]) := by
  unfold eListM vwR ofOpt Res.bind
  rw [h]
  dsimp only
  rw [hx]
  dsimp only
  rw [hs]
theorem x_parN {is : List Nat} (h : f B ρ L = .ok ws L1) (hs : setAll is ws ρ = some ρ1) (hl : ws.length ≤ sizeL) : sParN is f B ρ L = .next ρ1 L1 := by
  unfold sParN Res.st
  rw [h]
  dsimp only
  rw [hs]
  dsimp only
  rw [if_pos hl]
theorem x_tIf {R : Res Bool} (h : t B ρ L = .ok k L1) (h2 : Br k (t1 B ρ L1 = R) (t2 B ρ L1 = R)) : tIfT t t1 t2 B ρ L = R := by
  unfold tIfT Res.bind
  rw [h]
  cases k with
  | true => exact h2.1 rfl
  | false => exact h2.2 rfl
theorem l_own : lstAt B [.lst ws] (.ref B.length) = some (0, ws) := by
  unfold lstAt
  simp
theorem l_some : (lstAt B [.lst ws] (.ref B.length)).isSome = true := by rw [l_own]; rfl
end
end Ev

set_option linter.all false
set_option maxRecDepth 100000
set_option autoImplicit false
/-! EvY: how long a repr may be. -/
namespace Ev
open PySem
mutual
def est : D → Nat
  | .int i => i.natAbs.log2 + 2
  | .str s => 10 * s.length + 2
  | .tup xs => 3 + ests xs
  | .lst xs => 3 + ests xs
  | _ => 5
def ests : List D → Nat
  | [] => 0
  | x :: xs => est x + 2 + ests xs
end
theorem join_le (ts : List Str) : (Str.join ", " ts).length ≤ piled ts := by
  by_cases h : ts = []
  · subst h; decide
  · have := join_length_add ts h
    omega
theorem tupT_le (ts : List Str) : (tupleText ts).length ≤ piled ts + 3 := by
  unfold tupleText
  rw [strLen_append, strLen_append]
  have h1 := join_le ts
  have h2 : ((if ts.length == 1 then ",)" else ")" : String) : Str).length ≤ 2 := by split <;> decide
  have h3 : ((("(" : String) : Str)).length = 1 := by decide
  omega
theorem from_le : ∀ (ts : List Str) (k : Nat) (acc : Str), (textFrom k acc ts).length ≤ acc.length + piled ts
  | [], k, acc => Nat.le_refl _
  | t :: r, k, acc => by
    have h := from_le r (k + 1) (acc ++ (if k > 0 then ", " else "" : String) ++ t)
    have e : ((if k > 0 then ", " else "" : String) : Str).length ≤ 2 := by split <;> decide
    rw [strLen_append, strLen_append] at h
    rw [piled_cons]
    show (textFrom (k + 1) _ r).length ≤ _
    omega
theorem lstT_le (ts : List Str) : (listText ts).length ≤ piled ts + 3 := by
  unfold listText
  rw [strLen_append]
  have h1 := from_le ts 0 "["
  have h2 : ((("[" : String) : Str)).length = 1 := by decide
  have h3 : ((("]" : String) : Str)).length = 1 := by decide
  omega
mutual
theorem shown_le : ∀ d : D, dOk d = true → (toPy d).shown.length ≤ est d
  | .non, _ => by decide
  | .bl true, _ => by decide
  | .bl false, _ => by decide
  | .int i, _ => by
    show (Str.ofString (toString i)).length ≤ i.natAbs.log2 + 2
    have := int_text_length_le (a := i) (k := i.natAbs.log2 + 1) (by omega) (by omega)
    have e : (Str.ofString (toString i)).length = (toString i).length := ofString_length _
    omega
  | .str s, h => by
    show (reprText ⟨s.toArray⟩).length ≤ 10 * s.length + 2
    have := StrLaws.reprText_len ⟨s.toArray⟩ (fun c hc => by
      have h' : s.all (· < 0x110000) = true := h
      have := List.all_eq_true.mp h' c (by simpa using hc)
      have : c < 0x110000 := by simpa using this
      omega)
    have e : (⟨s.toArray⟩ : Str).length = s.length := by simp [Str.length]
    omega
  | .tup xs, h => by
    show (tupleText (PyData.shownAll (toPys xs))).length ≤ 3 + ests xs
    have h1 := tupT_le (PyData.shownAll (toPys xs))
    have h2 := shows_le xs h
    omega
  | .lst xs, h => by
    show (listText (PyData.shownAll (toPys xs))).length ≤ 3 + ests xs
    have h1 := lstT_le (PyData.shownAll (toPys xs))
    have h2 := shows_le xs h
    omega
theorem shows_le : ∀ ds : List D, dOks ds = true → piled (PyData.shownAll (toPys ds)) ≤ ests ds
  | [], _ => Nat.le_refl _
  | d :: ds, h => by
    have h' : (dOk d && dOks ds) = true := h
    rw [Bool.and_eq_true] at h'
    have h1 := shown_le d h'.1
    have h2 := shows_le ds h'.2
    show piled (PyData.shown (toPy d) :: PyData.shownAll (toPys ds)) ≤ est d + 2 + ests ds
    rw [piled_cons]
    omega
end
mutual
def shOk : D → Bool
  | .int i => decide (i.natAbs.log2 < 1920)
  | .tup xs => shOks xs
  | .lst xs => shOks xs
  | _ => true
def shOks : List D → Bool
  | [] => true
  | x :: xs => shOk x && shOks xs
end
mutual
theorem sh_ok : ∀ d : D, dOk d = true → shOk d = true → (toPy d).showable = true
  | .non, _, _ => rfl
  | .bl _, _, _ => rfl
  | .int i, _, h => h
  | .str _, _, _ => rfl
  | .tup xs, h, h2 => shs_ok xs h h2
  | .lst xs, h, h2 => shs_ok xs h h2
theorem shs_ok : ∀ ds : List D, dOks ds = true → shOks ds = true → PyData.showableAll (toPys ds) = true
  | [], _, _ => rfl
  | d :: ds, h, h2 => by
    have h' : (dOk d && dOks ds) = true := h
    have h2' : (shOk d && shOks ds) = true := h2
    rw [Bool.and_eq_true] at h' h2'
    show (PyData.showable (toPy d) && PyData.showableAll (toPys ds)) = true
    rw [sh_ok d h'.1 h2'.1, shs_ok ds h'.2 h2'.2]
    rfl
end
/-- repr is told -/
theorem repr_tup {xs : List D} (h1 : okD (.tup xs) = true) (h2 : shOks xs = true) (h3 : 3 + ests xs ≤ sizeL) : ∃ s, bRepr [.tup xs] = some (.str s) := by
  have ok : dOk (.tup xs) = true := by
    unfold okD at h1
    rw [Bool.and_eq_true] at h1
    exact h1.1
  exact ⟨_, if_pos ⟨h1, sh_ok (.tup xs) ok h2, Nat.le_trans (shown_le (.tup xs) ok) h3⟩⟩
theorem repr_lst {xs : List D} (h1 : okD (.lst xs) = true) (h2 : shOks xs = true) (h3 : 3 + ests xs ≤ sizeL) : ∃ s, bRepr [.lst xs] = some (.str s) := by
  have ok : dOk (.lst xs) = true := by
    unfold okD at h1
    rw [Bool.and_eq_true] at h1
    exact h1.1
  exact ⟨_, if_pos ⟨h1, sh_ok (.lst xs) ok h2, Nat.le_trans (shown_le (.lst xs) ok) h3⟩⟩
end Ev

set_option linter.all false
set_option maxRecDepth 100000
namespace Ev

namespace K02
def F__law_pen : Fn := fnBody 1 1 (sRet (eDctM ((eC (.str [99, 101, 108, 108, 115]), eB bList (aCons (eSl (eVar 0) (oNone) (oSome (eC (.int 63)))) (aNil))) :: (eC (.str [97, 116]), eC (.int 0)) :: (eC (.str [114, 101, 115, 116]), eC (.int 0)) :: [])))
def F__law_draw : Fn := fnBody 2 6 (sSeq (sIf (tE (e2 opGt (e2 opIx (eVar 0) (eC (.str [114, 101, 115, 116]))) (eC (.int 0)))) (sSeq (sAsg (e2 opMod (eB bInt (aCons (e2 opIx (eVar 0) (eC (.str [114, 101, 115, 116]))) (aNil))) (eVar 1)) (gVar 5))
  (sSeq (sAsg (e2 opFdiv (e2 opIx (eVar 0) (eC (.str [114, 101, 115, 116]))) (eVar 1)) (gItem (eVar 0) (eC (.str [114, 101, 115, 116]))))
  (sRet (eVar 5)))) (sNil))
  (sSeq (sAsg (e2 opIx (eVar 0) (eC (.str [97, 116]))) (gVar 2))
  (sSeq (sAsg (e2 opAdd (eVar 2) (eC (.int 1))) (gItem (eVar 0) (eC (.str [97, 116]))))
  (sSeq (sAsg (e2 opAdd (e2 opMul (eC (.int 61)) (eVar 2)) (eC (.int 23))) (gVar 3))
  (sSeq (sIf (tE (e2 opNe (e2 opIx (eVar 0) (eC (.str [99, 101, 108, 108, 115]))) (eLst (aNil)))) (sAsg (e2 opIx (e2 opIx (eVar 0) (eC (.str [99, 101, 108, 108, 115]))) (e2 opMod (eB bInt (aCons (eVar 2) (aNil))) (eB bLen (aCons (e2 opIx (eVar 0) (eC (.str [99, 101, 108, 108, 115]))) (aNil))))) (gVar 3)) (sNil))
  (sSeq (sIf (tAnd (tE (e2 opLt (eVar 2) (eB bLen (aCons (e2 opIx (eVar 0) (eC (.str [99, 101, 108, 108, 115]))) (aNil))))) (tE (e2 opGe (eB bAbs (aCons (eVar 3) (aNil))) (e2 opPow (eC (.int 10)) (eC (.int 18)))))) (sSeq (sAsg (e2 opFdiv (e2 opSub (eB bAbs (aCons (eVar 3) (aNil))) (e2 opPow (eC (.int 10)) (eC (.int 18)))) (eVar 1)) (gItem (eVar 0) (eC (.str [114, 101, 115, 116]))))
  (sRet (e2 opMod (e2 opSub (eB bAbs (aCons (eVar 3) (aNil))) (e2 opPow (eC (.int 10)) (eC (.int 18)))) (eVar 1)))) (sNil))
  (sSeq (sAsg (e2 opMod (eB bInt (aCons (e2 opAdd (e2 opAdd (e2 opMul (e2 opMod (eB bInt (aCons (eVar 3) (aNil))) (eC (.int 4294966927))) (eC (.int 57331))) (e2 opMul (e2 opMul (eC (.int 39119)) (eVar 2)) (eVar 2))) (eC (.int 417))) (aNil))) (eC (.int 4294966909))) (gVar 4))
  (sSeq (sAsg (e2 opMod (eB bInt (aCons (e2 opAdd (e2 opAdd (e2 opAdd (e2 opMul (eVar 4) (eVar 4)) (e2 opMul (eC (.int 91193)) (eVar 4))) (e2 opMul (eC (.int 29)) (eVar 2))) (eC (.int 5))) (aNil))) (eC (.int 4294966877))) (gVar 4))
  (sRet (e2 opMod (eB bInt (aCons (e2 opFdiv (e2 opMod (eB bInt (aCons (e2 opMul (eVar 4) (e2 opAdd (eVar 4) (eC (.int 65521)))) (aNil))) (eC (.int 4294966813))) (eC (.int 64))) (aNil))) (eVar 1)))))))))))
def F__law_pick : Fn := fnBody 2 2 (sRet (e2 opIx (eVar 1) (eCall 2 F__law_draw (aCons (eVar 0) (aCons (eB bLen (aCons (eVar 1) (aNil))) (aNil))))))
def F__law_number : Fn := fnBody 1 2 (sSeq (sAsg (e2 opSub (eCall 2 F__law_draw (aCons (eVar 0) (aCons (eC (.int 9)) (aNil)))) (eC (.int 3))) (gVar 1))
  (sRet (eCall 2 F__law_pick (aCons (eVar 0) (aCons (eLst (aCons (eVar 1) (aCons (eVar 1) (aCons (eVar 1) (aCons (eC (.int 99)) (aCons (e1 opNeg (eC (.int 99))) (aCons (eC (.int 98)) (aCons (e2 opSub (eCall 2 F__law_draw (aCons (eVar 0) (aCons (eC (.int 199)) (aNil)))) (eC (.int 99))) (aNil))))))))) (aNil))))))
def F__law_leaf : Fn := fnBody 2 2 (sRet (eCall 2 F__law_pick (aCons (eVar 0) (aCons (eLst (aCons (eTup (aCons (eC (.str [118, 97, 108, 117, 101])) (aCons (eCall 1 F__law_number (aCons (eVar 0) (aNil))) (aNil)))) (aCons (eTup (aCons (eC (.str [98, 111, 100, 121])) (aNil))) (aCons (eTup (aCons (eC (.str [114, 111, 119])) (aCons (eCall 2 F__law_pick (aCons (eVar 0) (aCons (eVar 1) (aNil)))) (aNil)))) (aNil))))) (aNil)))))
def R__law_e : Nat → Fn
  | 0 => badFn
  | n + 1 => fnBody 3 3 (sSeq (sIf (tOr (tE (e2 opLt (eVar 2) (eC (.int 2)))) (tE (e2 opEq (eCall 2 F__law_draw (aCons (eVar 0) (aCons (eC (.int 3)) (aNil)))) (eC (.int 0))))) (sRet (eCall 2 F__law_leaf (aCons (eVar 0) (aCons (eVar 1) (aNil))))) (sNil))
  (sRet (eTup (aCons (eCall 2 F__law_pick (aCons (eVar 0) (aCons (eLst (aCons (eC (.str [43])) (aCons (eC (.str [45])) (aCons (eC (.str [42])) (aNil))))) (aNil)))) (aCons (eCall 3 (R__law_e n) (aCons (eVar 0) (aCons (eVar 1) (aCons (e2 opSub (eVar 2) (eC (.int 1))) (aNil))))) (aCons (eCall 3 (R__law_e n) (aCons (eVar 0) (aCons (eVar 1) (aCons (e2 opSub (eVar 2) (eC (.int 1))) (aNil))))) (aNil)))))))
def F__law_e : Fn := R__law_e 12
def R__law_c : Nat → Fn
  | 0 => badFn
  | n + 1 => fnBody 3 4 (sSeq (sAsg (eIf (tE (e2 opGt (eVar 2) (eC (.int 1)))) (eCall 2 F__law_draw (aCons (eVar 0) (aCons (eC (.int 6)) (aNil)))) (eCall 2 F__law_draw (aCons (eVar 0) (aCons (eC (.int 2)) (aNil))))) (gVar 3))
  (sSeq (sIf (tE (e2 opLt (eVar 3) (eC (.int 3)))) (sRet (eTup (aCons (e2 opIx (eLst (aCons (eC (.str [60])) (aCons (eC (.str [61])) (aCons (eC (.str [60])) (aNil))))) (eVar 3)) (aCons (eCall 3 F__law_e (aCons (eVar 0) (aCons (eVar 1) (aCons (eC (.int 3)) (aNil))))) (aCons (eCall 3 F__law_e (aCons (eVar 0) (aCons (eVar 1) (aCons (eC (.int 2)) (aNil))))) (aNil)))))) (sNil))
  (sSeq (sIf (tE (e2 opEq (eVar 3) (eC (.int 3)))) (sRet (eTup (aCons (eC (.str [110, 111, 116])) (aCons (eCall 3 (R__law_c n) (aCons (eVar 0) (aCons (eVar 1) (aCons (e2 opSub (eVar 2) (eC (.int 1))) (aNil))))) (aNil))))) (sNil))
  (sRet (eTup (aCons (e2 opIx (eLst (aCons (eC (.str [97, 110, 100])) (aCons (eC (.str [111, 114])) (aNil)))) (e2 opSub (eVar 3) (eC (.int 4)))) (aCons (eCall 3 (R__law_c n) (aCons (eVar 0) (aCons (eVar 1) (aCons (e2 opSub (eVar 2) (eC (.int 1))) (aNil))))) (aCons (eCall 3 (R__law_c n) (aCons (eVar 0) (aCons (eVar 1) (aCons (e2 opSub (eVar 2) (eC (.int 1))) (aNil))))) (aNil)))))))))
def F__law_c : Fn := R__law_c 12
mutual
def R__law_deeds : Nat → Fn
  | 0 => badFn
  | n + 1 => fnBody 3 5 (sSeq (sAsg (eLstM (aNil)) (gVar 3))
  (sSeq (sFor (iRange (eCall 2 F__law_draw (aCons (eVar 0) (aCons (eC (.int 4)) (aNil))))) (gVar 4) (sIf (tE (e2 opGt (e2 opIx (eVar 1) (eC (.str [100, 101, 101, 100, 115]))) (eC (.int 0)))) (sSeq (sAsg (e2 opSub (e2 opIx (eVar 1) (eC (.str [100, 101, 101, 100, 115]))) (eC (.int 1))) (gItem (eVar 1) (eC (.str [100, 101, 101, 100, 115]))))
  (sExpr (eApp (eVar 3) (eCall 3 (R__law_deed n) (aCons (eVar 0) (aCons (eVar 1) (aCons (eVar 2) (aNil)))))))) (sNil)))
  (sRet (eB bTuple (aCons (eVar 3) (aNil))))))
def R__law_deed : Nat → Fn
  | 0 => badFn
  | n + 1 => fnBody 3 6 (sSeq (sAsg (eCall 2 F__law_draw (aCons (eVar 0) (aCons (eC (.int 9)) (aNil)))) (gVar 3))
  (sSeq (sIf (tAnd (tE (e2 opLt (eVar 3) (eC (.int 3)))) (tAnd (tE (e2 opNe (e2 opIx (eVar 1) (eC (.str [107, 105, 110, 100, 115]))) (eLst (aNil)))) (tE (e2 opGt (e2 opIx (eVar 1) (eC (.str [115, 101, 110, 100, 115]))) (eC (.int 0)))))) (sSeq (sAsg (e2 opSub (e2 opIx (eVar 1) (eC (.str [115, 101, 110, 100, 115]))) (eC (.int 1))) (gItem (eVar 1) (eC (.str [115, 101, 110, 100, 115]))))
  (sSeq (sAsg (eCall 2 F__law_pick (aCons (eVar 0) (aCons (e2 opAdd (eLst (aCons (eC .non) (aCons (eC .non) (aNil)))) (e2 opIx (eVar 1) (eC (.str [107, 101, 121, 115])))) (aNil)))) (gVar 4))
  (sRet (eTup (aCons (eC (.str [115, 101, 110, 100])) (aCons (eCall 2 F__law_pick (aCons (eVar 0) (aCons (e2 opIx (eVar 1) (eC (.str [107, 105, 110, 100, 115]))) (aNil)))) (aCons (eVar 4) (aCons (eCall 3 F__law_e (aCons (eVar 0) (aCons (e2 opIx (eVar 1) (eC (.str [110, 97, 109, 101, 115]))) (aCons (eC (.int 3)) (aNil))))) (aNil))))))))) (sNil))
  (sSeq (sIf (tAnd (tE (e2 opEq (eVar 3) (eC (.int 3)))) (tE (e2 opGt (eVar 2) (eC (.int 0))))) (sSeq (sAsg (eCall 3 F__law_c (aCons (eVar 0) (aCons (e2 opIx (eVar 1) (eC (.str [110, 97, 109, 101, 115]))) (aCons (eC (.int 3)) (aNil))))) (gVar 5))
  (sRet (eTup (aCons (eC (.str [105, 102])) (aCons (eVar 5) (aCons (eCall 3 (R__law_deeds n) (aCons (eVar 0) (aCons (eVar 1) (aCons (e2 opSub (eVar 2) (eC (.int 1))) (aNil))))) (aCons (eCall 3 (R__law_deeds n) (aCons (eVar 0) (aCons (eVar 1) (aCons (e2 opSub (eVar 2) (eC (.int 1))) (aNil))))) (aNil)))))))) (sNil))
  (sSeq (sIf (tAnd (tE (e2 opEq (eVar 3) (eC (.int 4)))) (tE (e2 opEq (eCall 2 F__law_draw (aCons (eVar 0) (aCons (eC (.int 3)) (aNil)))) (eC (.int 0))))) (sRet (eTup (aCons (eC (.str [102, 97, 105, 108])) (aNil)))) (sNil))
  (sRet (eTup (aCons (eC (.str [115, 101, 116])) (aCons (eCall 2 F__law_pick (aCons (eVar 0) (aCons (e2 opIx (eVar 1) (eC (.str [110, 97, 109, 101, 115]))) (aNil)))) (aCons (eCall 3 F__law_e (aCons (eVar 0) (aCons (e2 opIx (eVar 1) (eC (.str [110, 97, 109, 101, 115]))) (aCons (eC (.int 4)) (aNil))))) (aNil))))))))))
end
def F__law_deeds : Fn := R__law_deeds 12
def F__law_deed : Fn := R__law_deed 12
def F__law_handler : Fn := fnBody 5 7 (sSeq (sAsg (eDctM ((eC (.str [110, 97, 109, 101, 115]), eVar 1) :: (eC (.str [107, 101, 121, 115]), eVar 2) :: (eC (.str [107, 105, 110, 100, 115]), eVar 3) :: (eC (.str [115, 101, 110, 100, 115]), eVar 4) :: (eC (.str [100, 101, 101, 100, 115]), eC (.int 11)) :: [])) (gVar 5))
  (sSeq (sAsg (eCall 3 F__law_deeds (aCons (eVar 0) (aCons (eVar 5) (aCons (eC (.int 3)) (aNil))))) (gVar 6))
  (sSeq (sIf (tAnd (tE (e2 opNe (eVar 3) (eLst (aNil)))) (tAnd (tE (e2 opGt (e2 opIx (eVar 5) (eC (.str [115, 101, 110, 100, 115]))) (eC (.int 0)))) (tE (e2 opGt (eCall 2 F__law_draw (aCons (eVar 0) (aCons (eC (.int 3)) (aNil)))) (eC (.int 0)))))) (sAsg (e2 opAdd (eVar 6) (eTup (aCons (eTup (aCons (eC (.str [115, 101, 110, 100])) (aCons (eCall 2 F__law_pick (aCons (eVar 0) (aCons (eVar 3) (aNil)))) (aCons (eC .non) (aCons (eCall 3 F__law_e (aCons (eVar 0) (aCons (eVar 1) (aCons (eC (.int 2)) (aNil))))) (aNil)))))) (aNil)))) (gVar 6)) (sNil))
  (sRet (eVar 6)))))
def F_is_tree : Fn := pureFn (fnBody 3 3 (sRet (eAnd (e1 (bIsi .tuple) (eVar 0)) (eAnd (e2 opEq (eB bLen (aCons (eVar 0) (aNil))) (eVar 2)) (eAnd (e1 (bIsi .str) (e2 opIx (eVar 0) (eC (.int 0)))) (e2 opEq (e2 opIx (eVar 0) (eC (.int 0))) (eVar 1)))))))
def F_is_word : Fn := pureFn (fnBody 1 2 (sSeq (sIf (tOr (tNot (tE (e1 (bIsi .str) (eVar 0)))) (tNot (tE (eChain opLe opLe (eC (.int 1)) (eB bLen (aCons (eVar 0) (aNil))) (eC (.int 6)))))) (sRet (eC (.bl false))) (sNil))
  (sRet (eB bAll (aCons (eComp (iE (eVar 0)) (gVar 1) (tYes) (e2 opIn (eVar 1) (eC (.str [97, 98, 99, 100, 101, 102, 103, 104, 105, 106, 107, 108, 109, 110, 111, 112, 113, 114, 115, 116, 117, 118, 119, 120, 121, 122]))) [1]) (aNil))))))
def F_is_integer : Fn := pureFn (fnBody 1 1 (sRet (eAnd (e1 (bIsi .int) (eVar 0)) (eNot (e1 (bIsi .bool) (eVar 0))))))
def F_is_value : Fn := pureFn (fnBody 1 1 (sRet (eAnd (eCall 1 F_is_integer (aCons (eVar 0) (aNil))) (eChain opLe opLe (e1 opNeg (eC (.int 99))) (eVar 0) (eC (.int 99))))))
def R_is_expression : Nat → Fn
  | 0 => badFn
  | n + 1 => pureFn (fnBody 2 3 (sSeq (sIf (tE (e2 opEq (eVar 1) (eC (.int 0)))) (sRet (eC (.bl false))) (sNil))
  (sSeq (sIf (tE (eCall 3 F_is_tree (aCons (eVar 0) (aCons (eC (.str [118, 97, 108, 117, 101])) (aCons (eC (.int 2)) (aNil)))))) (sRet (eCall 1 F_is_value (aCons (e2 opIx (eVar 0) (eC (.int 1))) (aNil)))) (sNil))
  (sSeq (sIf (tE (eCall 3 F_is_tree (aCons (eVar 0) (aCons (eC (.str [114, 111, 119])) (aCons (eC (.int 2)) (aNil)))))) (sRet (eCall 1 F_is_word (aCons (e2 opIx (eVar 0) (eC (.int 1))) (aNil)))) (sNil))
  (sSeq (sIf (tE (eB bAny (aCons (eComp (iE (eC (.tup [(.str [43]), (.str [45]), (.str [42])]))) (gVar 2) (tYes) (eCall 3 F_is_tree (aCons (eVar 0) (aCons (eVar 2) (aCons (eC (.int 3)) (aNil))))) [2]) (aNil)))) (sRet (eAnd (eCall 2 (R_is_expression n) (aCons (e2 opIx (eVar 0) (eC (.int 1))) (aCons (e2 opSub (eVar 1) (eC (.int 1))) (aNil)))) (eCall 2 (R_is_expression n) (aCons (e2 opIx (eVar 0) (eC (.int 2))) (aCons (e2 opSub (eVar 1) (eC (.int 1))) (aNil)))))) (sNil))
  (sRet (eCall 3 F_is_tree (aCons (eVar 0) (aCons (eC (.str [98, 111, 100, 121])) (aCons (eC (.int 1)) (aNil)))))))))))
def F_is_expression : Fn := R_is_expression 12
def R_is_condition : Nat → Fn
  | 0 => badFn
  | n + 1 => pureFn (fnBody 2 4 (sSeq (sIf (tE (e2 opEq (eVar 1) (eC (.int 0)))) (sRet (eC (.bl false))) (sNil))
  (sSeq (sIf (tE (eB bAny (aCons (eComp (iE (eC (.tup [(.str [60]), (.str [61])]))) (gVar 2) (tYes) (eCall 3 F_is_tree (aCons (eVar 0) (aCons (eVar 2) (aCons (eC (.int 3)) (aNil))))) [2]) (aNil)))) (sRet (eAnd (eCall 2 F_is_expression (aCons (e2 opIx (eVar 0) (eC (.int 1))) (aCons (eC (.int 6)) (aNil)))) (eCall 2 F_is_expression (aCons (e2 opIx (eVar 0) (eC (.int 2))) (aCons (eC (.int 6)) (aNil)))))) (sNil))
  (sSeq (sIf (tE (eB bAny (aCons (eComp (iE (eC (.tup [(.str [97, 110, 100]), (.str [111, 114])]))) (gVar 3) (tYes) (eCall 3 F_is_tree (aCons (eVar 0) (aCons (eVar 3) (aCons (eC (.int 3)) (aNil))))) [3]) (aNil)))) (sRet (eAnd (eCall 2 (R_is_condition n) (aCons (e2 opIx (eVar 0) (eC (.int 1))) (aCons (e2 opSub (eVar 1) (eC (.int 1))) (aNil)))) (eCall 2 (R_is_condition n) (aCons (e2 opIx (eVar 0) (eC (.int 2))) (aCons (e2 opSub (eVar 1) (eC (.int 1))) (aNil)))))) (sNil))
  (sRet (eAnd (eCall 3 F_is_tree (aCons (eVar 0) (aCons (eC (.str [110, 111, 116])) (aCons (eC (.int 2)) (aNil))))) (eCall 2 (R_is_condition n) (aCons (e2 opIx (eVar 0) (eC (.int 1))) (aCons (e2 opSub (eVar 1) (eC (.int 1))) (aNil))))))))))
def F_is_condition : Fn := R_is_condition 12
mutual
def R_are_deeds : Nat → Fn
  | 0 => badFn
  | n + 1 => pureFn (fnBody 2 3 (sRet (eAnd (e1 (bIsi .tuple) (eVar 0)) (eB bAll (aCons (eComp (iE (eVar 0)) (gVar 2) (tYes) (eCall 2 (R_is_deed n) (aCons (eVar 2) (aCons (eVar 1) (aNil)))) [2]) (aNil))))))
def R_is_deed : Nat → Fn
  | 0 => badFn
  | n + 1 => pureFn (fnBody 2 4 (sSeq (sIf (tE (eCall 3 F_is_tree (aCons (eVar 0) (aCons (eC (.str [115, 101, 116])) (aCons (eC (.int 3)) (aNil)))))) (sRet (eAnd (eCall 1 F_is_word (aCons (e2 opIx (eVar 0) (eC (.int 1))) (aNil))) (eCall 2 F_is_expression (aCons (e2 opIx (eVar 0) (eC (.int 2))) (aCons (eC (.int 6)) (aNil)))))) (sNil))
  (sSeq (sIf (tE (eCall 3 F_is_tree (aCons (eVar 0) (aCons (eC (.str [115, 101, 110, 100])) (aCons (eC (.int 4)) (aNil)))))) (sSeq (sAsg (eOr (eIsN (e2 opIx (eVar 0) (eC (.int 2)))) (eCall 1 F_is_word (aCons (e2 opIx (eVar 0) (eC (.int 2))) (aNil)))) (gVar 2))
  (sRet (eAnd (eCall 1 F_is_word (aCons (e2 opIx (eVar 0) (eC (.int 1))) (aNil))) (eAnd (eVar 2) (eCall 2 F_is_expression (aCons (e2 opIx (eVar 0) (eC (.int 3))) (aCons (eC (.int 6)) (aNil)))))))) (sNil))
  (sSeq (sIf (tE (eCall 3 F_is_tree (aCons (eVar 0) (aCons (eC (.str [105, 102])) (aCons (eC (.int 4)) (aNil)))))) (sSeq (sAsg (eAnd (e2 opGt (eVar 1) (eC (.int 0))) (eCall 2 F_is_condition (aCons (e2 opIx (eVar 0) (eC (.int 1))) (aCons (eC (.int 6)) (aNil))))) (gVar 3))
  (sRet (eAnd (eVar 3) (eAnd (eCall 2 (R_are_deeds n) (aCons (e2 opIx (eVar 0) (eC (.int 2))) (aCons (e2 opSub (eVar 1) (eC (.int 1))) (aNil)))) (eCall 2 (R_are_deeds n) (aCons (e2 opIx (eVar 0) (eC (.int 3))) (aCons (e2 opSub (eVar 1) (eC (.int 1))) (aNil)))))))) (sNil))
  (sRet (eCall 3 F_is_tree (aCons (eVar 0) (aCons (eC (.str [102, 97, 105, 108])) (aCons (eC (.int 1)) (aNil))))))))))
end
def F_are_deeds : Fn := R_are_deeds 12
def F_is_deed : Fn := R_is_deed 12
def R_count_deeds : Nat → Fn
  | 0 => badFn
  | n + 1 => pureFn (fnBody 1 3 (sSeq (sAsg (eComp (iE (eVar 0)) (gVar 2) (tE (e2 opEq (e2 opIx (eVar 2) (eC (.int 0))) (eC (.str [105, 102])))) (e2 opAdd (eCall 1 (R_count_deeds n) (aCons (e2 opIx (eVar 2) (eC (.int 2))) (aNil))) (eCall 1 (R_count_deeds n) (aCons (e2 opIx (eVar 2) (eC (.int 3))) (aNil)))) [2]) (gVar 1))
  (sRet (e2 opAdd (eB bLen (aCons (eVar 0) (aNil))) (eB bSum (aCons (eVar 1) (aNil)))))))
def F_count_deeds : Fn := R_count_deeds 12
def F_is_handler : Fn := pureFn (fnBody 1 1 (sRet (eAnd (eCall 2 F_are_deeds (aCons (eVar 0) (aCons (eC (.int 3)) (aNil)))) (e2 opLe (eCall 1 F_count_deeds (aCons (eVar 0) (aNil))) (eC (.int 12))))))
def F__law_words : Fn := fnBody 2 8 (sSeq (sAsg (eC (.str [97, 98, 99, 100, 101, 102, 103, 104, 105, 106, 107, 108, 109, 110, 111, 112, 113, 114, 115, 116, 117, 118, 119, 120, 121, 122])) (gVar 2))
  (sSeq (sAsg (e1 (opJoin (.str [])) (eComp (iRange (eCall 2 F__law_draw (aCons (eVar 0) (aCons (eC (.int 6)) (aNil))))) (gVar 7) (tYes) (eCall 2 F__law_pick (aCons (eVar 0) (aCons (eVar 2) (aNil)))) [7])) (gVar 3))
  (sSeq (sParN [5, 6] (aCons (eCall 2 F__law_draw (aCons (eVar 0) (aCons (e2 opAdd (eB bLen (aCons (eVar 3) (aNil))) (eC (.int 1))) (aNil)))) (aCons (eCall 2 F__law_draw (aCons (eVar 0) (aCons (eC (.int 26)) (aNil)))) (aNil))))
  (sSeq (sAsg (eCall 2 F__law_pick (aCons (eVar 0) (aCons (eLst (aCons (eC (.int 1)) (aCons (eC (.int 3)) (aCons (eC (.int 5)) (aCons (eC (.int 7)) (aCons (eC (.int 9)) (aCons (eC (.int 11)) (aCons (eC (.int 15)) (aCons (eC (.int 17)) (aCons (eC (.int 19)) (aCons (eC (.int 21)) (aCons (eC (.int 23)) (aCons (eC (.int 25)) (aNil)))))))))))))) (aNil)))) (gVar 4))
  (sRet (eComp (iRange (eVar 1)) (gVar 7) (tYes) (e2 opAdd (e2 opAdd (eSl (eVar 3) (oNone) (oSome (eVar 5))) (e2 opIx (eVar 2) (e2 opMod (eB bInt (aCons (e2 opAdd (eVar 6) (e2 opMul (eVar 4) (eVar 7))) (aNil))) (eC (.int 26))))) (eSl (eVar 3) (oSome (eVar 5)) (oNone))) [7]))))))
def F__law_odd : Fn := fnBody 1 2 (sSeq (sAsg (eLstM (aCons (eC .non) (aCons (eC (.bl true)) (aCons (eC (.bl false)) (aCons (eC (.int 0)) (aCons (eC (.int 1)) (aCons (e1 opNeg (eC (.int 1))) (aCons (eC (.int 99)) (aCons (eC (.int 100)) (aCons (e1 opNeg (eC (.int 100))) (aCons (e2 opMul (e2 opPow (eC (.int 10)) (eC (.int 60))) (e2 opPow (eC (.int 10)) (eC (.int 40)))) (aCons (eC (.str [])) (aCons (eC (.str [97])) (aCons (eC (.str [65])) (aCons (eC (.str [97, 98, 99, 100, 101, 102, 103])) (aCons (eC (.str [97, 32, 98])) (aCons (eC (.str [115, 101, 116])) (aNil)))))))))))))))))) (gVar 1))
  (sSeq (sAsg (eAddM (eVar 1) (eLst (aCons (eTup (aNil)) (aCons (eTup (aCons (eC (.str [97])) (aNil))) (aCons (eTup (aCons (eC (.str [102, 97, 105, 108])) (aNil))) (aCons (eLst (aNil)) (aCons (eLst (aCons (eC (.str [97])) (aNil))) (aCons (eC (.dct [] [])) (aCons (eDct ((eC (.str [97]), eC (.int 1)) :: [])) (aCons (eTup (aCons (eC .non) (aNil))) (aCons (eTup (aCons (eTup (aNil)) (aNil))) (aCons (eTup (aCons (eC (.str [118, 97, 108, 117, 101])) (aCons (eC (.int 1)) (aNil)))) (aCons (eTup (aCons (eC (.str [98, 111, 100, 121])) (aNil))) (aCons (eLst (aCons (eTup (aCons (eC (.str [102, 97, 105, 108])) (aNil))) (aNil))) (aNil))))))))))))))) (gVar 1))
  (sSeq (sExpr (eApp (eVar 1) (eC (.str [102, 97, 105, 108]))))
  (sRet (eCall 2 F__law_pick (aCons (eVar 0) (aCons (e2 opAdd (eVar 1) (eLst (aCons (eTup (aCons (eC (.str [114, 111, 119])) (aCons (eC (.str [97])) (aNil)))) (aCons (eTup (aCons (eC (.str [115, 101, 110, 100])) (aCons (eC (.str [97])) (aCons (eC .non) (aCons (eTup (aCons (eC (.str [98, 111, 100, 121])) (aNil))) (aNil)))))) (aCons (eTup (aCons (eC (.str [97])) (aCons (eC (.str [98])) (aCons (eC (.int 1)) (aNil))))) (aCons (eTup (aCons (eTup (aCons (eC (.str [102, 97, 105, 108])) (aNil))) (aNil))) (aNil))))))) (aNil))))))))
def F__law_deep_e : Fn := pureFn (fnBody 2 4 (sSeq (sAsg (eTup (aCons (eC (.str [98, 111, 100, 121])) (aNil))) (gVar 2))
  (sSeq (sFor (iRange (e2 opSub (eVar 0) (eC (.int 1)))) (gVar 3) (sAsg (eIf (tE (e2 opEq (e2 opMod (eB bInt (aCons (eVar 3) (aNil))) (eC (.int 2))) (eC (.int 0)))) (eTup (aCons (eVar 1) (aCons (eVar 2) (aCons (eTup (aCons (eC (.str [118, 97, 108, 117, 101])) (aCons (eC (.int 1)) (aNil)))) (aNil))))) (eTup (aCons (eVar 1) (aCons (eTup (aCons (eC (.str [114, 111, 119])) (aCons (eC (.str [97])) (aNil)))) (aCons (eVar 2) (aNil)))))) (gVar 2)))
  (sRet (eVar 2)))))
def F__law_deep_c : Fn := pureFn (fnBody 2 4 (sSeq (sAsg (eTup (aCons (eC (.str [60])) (aCons (eTup (aCons (eC (.str [98, 111, 100, 121])) (aNil))) (aCons (eTup (aCons (eC (.str [118, 97, 108, 117, 101])) (aCons (eC (.int 0)) (aNil)))) (aNil))))) (gVar 2))
  (sSeq (sFor (iRange (e2 opSub (eVar 0) (eC (.int 1)))) (gVar 3) (sAsg (eIf (tE (e2 opEq (eVar 1) (eC (.str [110, 111, 116])))) (eTup (aCons (eC (.str [110, 111, 116])) (aCons (eVar 2) (aNil)))) (eTup (aCons (eVar 1) (aCons (eTup (aCons (eC (.str [61])) (aCons (eTup (aCons (eC (.str [98, 111, 100, 121])) (aNil))) (aCons (eTup (aCons (eC (.str [98, 111, 100, 121])) (aNil))) (aNil))))) (aCons (eVar 2) (aNil)))))) (gVar 2)))
  (sRet (eVar 2)))))
def F__law_deep_ifs : Fn := pureFn (fnBody 1 3 (sSeq (sAsg (eTup (aCons (eTup (aCons (eC (.str [102, 97, 105, 108])) (aNil))) (aNil))) (gVar 1))
  (sSeq (sFor (iRange (eVar 0)) (gVar 2) (sAsg (eTup (aCons (eTup (aCons (eC (.str [105, 102])) (aCons (eTup (aCons (eC (.str [61])) (aCons (eTup (aCons (eC (.str [98, 111, 100, 121])) (aNil))) (aCons (eTup (aCons (eC (.str [118, 97, 108, 117, 101])) (aCons (eC (.int 1)) (aNil)))) (aNil))))) (aCons (eVar 1) (aCons (eTup (aNil)) (aNil)))))) (aNil))) (gVar 1)))
  (sRet (eVar 1)))))
def F__law_at_limits : Fn := fnBody 1 8 (sSeq (sPar 4 5 (aCons (eCall 2 F__law_pick (aCons (eVar 0) (aCons (eLst (aCons (eC (.int 5)) (aCons (eC (.int 6)) (aCons (eC (.int 7)) (aNil))))) (aNil)))) (aCons (eCall 2 F__law_pick (aCons (eVar 0) (aCons (eLst (aCons (eC (.str [43])) (aCons (eC (.str [45])) (aCons (eC (.str [42])) (aNil))))) (aNil)))) (aNil))))
  (sSeq (sPar 6 7 (aCons (eCall 2 F__law_deep_e (aCons (eVar 4) (aCons (eVar 5) (aNil)))) (aCons (eCall 2 F__law_deep_c (aCons (eCall 2 F__law_pick (aCons (eVar 0) (aCons (eLst (aCons (eC (.int 5)) (aCons (eC (.int 6)) (aCons (eC (.int 7)) (aNil))))) (aNil)))) (aCons (eCall 2 F__law_pick (aCons (eVar 0) (aCons (eLst (aCons (eC (.str [110, 111, 116])) (aCons (eC (.str [97, 110, 100])) (aCons (eC (.str [111, 114])) (aNil))))) (aNil)))) (aNil)))) (aNil))))
  (sSeq (sAsg (e2 opMul (eC (.str [97])) (eCall 2 F__law_pick (aCons (eVar 0) (aCons (eLst (aCons (eC (.int 1)) (aCons (eC (.int 5)) (aCons (eC (.int 6)) (aCons (eC (.int 7)) (aNil)))))) (aNil))))) (gVar 1))
  (sSeq (sAsg (eLstM (aCons (eTup (aCons (eTup (aCons (eC (.str [115, 101, 116])) (aCons (eVar 1) (aCons (eVar 6) (aNil))))) (aNil))) (aCons (eTup (aCons (eTup (aCons (eC (.str [115, 101, 110, 100])) (aCons (eVar 1) (aCons (eC .non) (aCons (eVar 6) (aNil)))))) (aNil))) (aCons (eTup (aCons (eTup (aCons (eC (.str [115, 101, 110, 100])) (aCons (eC (.str [97])) (aCons (eVar 1) (aCons (eTup (aCons (eC (.str [118, 97, 108, 117, 101])) (aCons (eC (.int 0)) (aNil)))) (aNil)))))) (aNil))) (aNil))))) (gVar 2))
  (sSeq (sAsg (eAddM (eVar 2) (eLst (aCons (eTup (aCons (eTup (aCons (eC (.str [105, 102])) (aCons (eVar 7) (aCons (eTup (aNil)) (aCons (eTup (aNil)) (aNil)))))) (aNil))) (aCons (eTup (aCons (eTup (aCons (eC (.str [105, 102])) (aCons (eTup (aCons (eC (.str [60])) (aCons (eVar 6) (aCons (eTup (aCons (eC (.str [98, 111, 100, 121])) (aNil))) (aNil))))) (aCons (eTup (aCons (eTup (aCons (eC (.str [102, 97, 105, 108])) (aNil))) (aNil))) (aCons (eTup (aNil)) (aNil)))))) (aNil))) (aNil))))) (gVar 2))
  (sSeq (sAsg (eAddM (eVar 2) (eLst (aCons (eCall 1 F__law_deep_ifs (aCons (eCall 2 F__law_pick (aCons (eVar 0) (aCons (eLst (aCons (eC (.int 2)) (aCons (eC (.int 3)) (aCons (eC (.int 4)) (aNil))))) (aNil)))) (aNil))) (aCons (e2 opMul (eTup (aCons (eTup (aCons (eC (.str [102, 97, 105, 108])) (aNil))) (aNil))) (eCall 2 F__law_pick (aCons (eVar 0) (aCons (eLst (aCons (eC (.int 11)) (aCons (eC (.int 12)) (aCons (eC (.int 13)) (aNil))))) (aNil))))) (aNil))))) (gVar 2))
  (sSeq (sAsg (e2 opMul (eTup (aCons (eTup (aCons (eC (.str [115, 101, 116])) (aCons (eC (.str [97])) (aCons (eTup (aCons (eC (.str [98, 111, 100, 121])) (aNil))) (aNil))))) (aNil))) (eCall 2 F__law_pick (aCons (eVar 0) (aCons (eLst (aCons (eC (.int 5)) (aCons (eC (.int 6)) (aNil)))) (aNil))))) (gVar 3))
  (sSeq (sExpr (eApp (eVar 2) (e2 opAdd (eTup (aCons (eTup (aCons (eC (.str [105, 102])) (aCons (eVar 7) (aCons (eVar 3) (aCons (eVar 3) (aNil)))))) (aNil))) (e2 opMul (eTup (aCons (eTup (aCons (eC (.str [102, 97, 105, 108])) (aNil))) (aNil))) (eCall 2 F__law_draw (aCons (eVar 0) (aCons (eC (.int 3)) (aNil))))))))
  (sSeq (sExpr (eApp (eVar 2) (eTup (aCons (eTup (aCons (eC (.str [115, 101, 116])) (aCons (eC (.str [97])) (aCons (eTup (aCons (eC (.str [118, 97, 108, 117, 101])) (aCons (eCall 2 F__law_pick (aCons (eVar 0) (aCons (eLst (aCons (eC (.int 99)) (aCons (eC (.int 100)) (aCons (e1 opNeg (eC (.int 99))) (aCons (e1 opNeg (eC (.int 100))) (aCons (eC (.bl true)) (aCons (eC .non) (aNil)))))))) (aNil)))) (aNil)))) (aNil))))) (aNil)))))
  (sRet (eCall 2 F__law_pick (aCons (eVar 0) (aCons (eVar 2) (aNil))))))))))))))
def R__law_bent : Nat → Fn
  | 0 => badFn
  | n + 1 => fnBody 2 4 (sSeq (sIf (tOr (tNot (tE (e1 (bIsi .tuple) (eVar 1)))) (tOr (tE (e2 opEq (eB bLen (aCons (eVar 1) (aNil))) (eC (.int 0)))) (tE (e2 opEq (eCall 2 F__law_draw (aCons (eVar 0) (aCons (eC (.int 5)) (aNil)))) (eC (.int 0)))))) (sRet (eCall 2 F__law_pick (aCons (eVar 0) (aCons (eLst (aCons (eCall 1 F__law_odd (aCons (eVar 0) (aNil))) (aCons (eTup (aCons (eVar 1) (aNil))) (aCons (eCall 1 F__law_odd (aCons (eVar 0) (aNil))) (aNil))))) (aNil))))) (sNil))
  (sSeq (sPar 2 3 (aCons (eCall 2 F__law_draw (aCons (eVar 0) (aCons (eB bLen (aCons (eVar 1) (aNil))) (aNil)))) (aCons (eCall 2 F__law_draw (aCons (eVar 0) (aCons (eC (.int 9)) (aNil)))) (aNil))))
  (sSeq (sIf (tE (e2 opLt (eVar 3) (eC (.int 6)))) (sRet (e2 opAdd (e2 opAdd (eSl (eVar 1) (oNone) (oSome (eVar 2))) (eTup (aCons (eCall 2 (R__law_bent n) (aCons (eVar 0) (aCons (e2 opIx (eVar 1) (eVar 2)) (aNil)))) (aNil)))) (eSl (eVar 1) (oSome (e2 opAdd (eVar 2) (eC (.int 1)))) (oNone)))) (sNil))
  (sSeq (sIf (tE (e2 opEq (eVar 3) (eC (.int 6)))) (sRet (e2 opAdd (eSl (eVar 1) (oNone) (oSome (eVar 2))) (eSl (eVar 1) (oSome (e2 opAdd (eVar 2) (eC (.int 1)))) (oNone)))) (sNil))
  (sSeq (sIf (tE (e2 opEq (eVar 3) (eC (.int 7)))) (sRet (e2 opAdd (eSl (eVar 1) (oNone) (oSome (e2 opAdd (eVar 2) (eC (.int 1))))) (eSl (eVar 1) (oSome (eVar 2)) (oNone)))) (sNil))
  (sRet (e2 opAdd (e2 opAdd (eSl (eVar 1) (oNone) (oSome (eVar 2))) (e1 opRev (eSl (eVar 1) (oSome (eVar 2)) (oSome (e2 opAdd (eVar 2) (eC (.int 2))))))) (eSl (eVar 1) (oSome (e2 opAdd (eVar 2) (eC (.int 2)))) (oNone)))))))))
def F__law_bent : Fn := R__law_bent 40
def F__law_has_head : Fn := pureFn (fnBody 3 3 (sRet (eAnd (e1 (bIsi .tuple) (eVar 0)) (eAnd (e2 opEq (eB bLen (aCons (eVar 0) (aNil))) (eVar 2)) (eAnd (e1 (bIsi .str) (e2 opIx (eVar 0) (eC (.int 0)))) (e2 opIn (e2 opIx (eVar 0) (eC (.int 0))) (eVar 1)))))))
def F__law_is_number : Fn := pureFn (fnBody 1 1 (sRet (eAnd (e1 (bIsi .int) (eVar 0)) (eAnd (eNot (e1 (bIsi .bool) (eVar 0))) (eChain opLe opLe (e1 opNeg (eC (.int 99))) (eVar 0) (eC (.int 99)))))))
def F__law_is_word : Fn := pureFn (fnBody 1 2 (sSeq (sIf (tOr (tNot (tE (e1 (bIsi .str) (eVar 0)))) (tNot (tE (eChain opLt opLt (eC (.int 0)) (eB bLen (aCons (eVar 0) (aNil))) (eC (.int 7)))))) (sRet (eC (.bl false))) (sNil))
  (sRet (e2 opEq (eComp (iE (eVar 0)) (gVar 1) (tE (e2 opNotIn (eVar 1) (eC (.str [97, 98, 99, 100, 101, 102, 103, 104, 105, 106, 107, 108, 109, 110, 111, 112, 113, 114, 115, 116, 117, 118, 119, 120, 121, 122])))) (eVar 1) [1]) (eLst (aNil))))))
def R__law_is_e : Nat → Fn
  | 0 => badFn
  | n + 1 => pureFn (fnBody 2 2 (sSeq (sIf (tOr (tE (e2 opEq (eVar 1) (eC (.int 0)))) (tOr (tNot (tE (e1 (bIsi .tuple) (eVar 0)))) (tE (e2 opEq (eB bLen (aCons (eVar 0) (aNil))) (eC (.int 0)))))) (sRet (eC (.bl false))) (sNil))
  (sSeq (sIf (tE (eCall 3 F__law_has_head (aCons (eVar 0) (aCons (eLst (aCons (eC (.str [118, 97, 108, 117, 101])) (aNil))) (aCons (eC (.int 2)) (aNil)))))) (sRet (eCall 1 F__law_is_number (aCons (e2 opIx (eVar 0) (eC (.int 1))) (aNil)))) (sNil))
  (sSeq (sIf (tE (eCall 3 F__law_has_head (aCons (eVar 0) (aCons (eLst (aCons (eC (.str [114, 111, 119])) (aNil))) (aCons (eC (.int 2)) (aNil)))))) (sRet (eCall 1 F__law_is_word (aCons (e2 opIx (eVar 0) (eC (.int 1))) (aNil)))) (sNil))
  (sSeq (sIf (tE (eCall 3 F__law_has_head (aCons (eVar 0) (aCons (eLst (aCons (eC (.str [43])) (aCons (eC (.str [45])) (aCons (eC (.str [42])) (aNil))))) (aCons (eC (.int 3)) (aNil)))))) (sRet (eAnd (eCall 2 (R__law_is_e n) (aCons (e2 opIx (eVar 0) (eC (.int 1))) (aCons (e2 opSub (eVar 1) (eC (.int 1))) (aNil)))) (eCall 2 (R__law_is_e n) (aCons (e2 opIx (eVar 0) (eC (.int 2))) (aCons (e2 opSub (eVar 1) (eC (.int 1))) (aNil)))))) (sNil))
  (sRet (eCall 3 F__law_has_head (aCons (eVar 0) (aCons (eLst (aCons (eC (.str [98, 111, 100, 121])) (aNil))) (aCons (eC (.int 1)) (aNil)))))))))))
def F__law_is_e : Fn := R__law_is_e 12
def R__law_is_c : Nat → Fn
  | 0 => badFn
  | n + 1 => pureFn (fnBody 2 2 (sSeq (sIf (tE (e2 opEq (eVar 1) (eC (.int 0)))) (sRet (eC (.bl false))) (sNil))
  (sSeq (sIf (tE (eCall 3 F__law_has_head (aCons (eVar 0) (aCons (eLst (aCons (eC (.str [60])) (aCons (eC (.str [61])) (aNil)))) (aCons (eC (.int 3)) (aNil)))))) (sRet (eAnd (eCall 2 F__law_is_e (aCons (e2 opIx (eVar 0) (eC (.int 1))) (aCons (eC (.int 6)) (aNil)))) (eCall 2 F__law_is_e (aCons (e2 opIx (eVar 0) (eC (.int 2))) (aCons (eC (.int 6)) (aNil)))))) (sNil))
  (sSeq (sIf (tE (eCall 3 F__law_has_head (aCons (eVar 0) (aCons (eLst (aCons (eC (.str [97, 110, 100])) (aCons (eC (.str [111, 114])) (aNil)))) (aCons (eC (.int 3)) (aNil)))))) (sRet (eAnd (eCall 2 (R__law_is_c n) (aCons (e2 opIx (eVar 0) (eC (.int 1))) (aCons (e2 opSub (eVar 1) (eC (.int 1))) (aNil)))) (eCall 2 (R__law_is_c n) (aCons (e2 opIx (eVar 0) (eC (.int 2))) (aCons (e2 opSub (eVar 1) (eC (.int 1))) (aNil)))))) (sNil))
  (sRet (eAnd (eCall 3 F__law_has_head (aCons (eVar 0) (aCons (eLst (aCons (eC (.str [110, 111, 116])) (aNil))) (aCons (eC (.int 2)) (aNil))))) (eCall 2 (R__law_is_c n) (aCons (e2 opIx (eVar 0) (eC (.int 1))) (aCons (e2 opSub (eVar 1) (eC (.int 1))) (aNil))))))))))
def F__law_is_c : Fn := R__law_is_c 12
mutual
def R__law_are_deeds : Nat → Fn
  | 0 => badFn
  | n + 1 => pureFn (fnBody 2 3 (sRet (eAnd (e1 (bIsi .tuple) (eVar 0)) (e2 opEq (eComp (iE (eVar 0)) (gVar 2) (tNot (tE (eCall 2 (R__law_is_deed n) (aCons (eVar 2) (aCons (eVar 1) (aNil)))))) (eVar 2) [2]) (eLst (aNil))))))
def R__law_is_deed : Nat → Fn
  | 0 => badFn
  | n + 1 => pureFn (fnBody 2 2 (sSeq (sIf (tE (eCall 3 F__law_has_head (aCons (eVar 0) (aCons (eLst (aCons (eC (.str [115, 101, 116])) (aNil))) (aCons (eC (.int 3)) (aNil)))))) (sRet (eAnd (eCall 1 F__law_is_word (aCons (e2 opIx (eVar 0) (eC (.int 1))) (aNil))) (eCall 2 F__law_is_e (aCons (e2 opIx (eVar 0) (eC (.int 2))) (aCons (eC (.int 6)) (aNil)))))) (sNil))
  (sSeq (sIf (tE (eCall 3 F__law_has_head (aCons (eVar 0) (aCons (eLst (aCons (eC (.str [115, 101, 110, 100])) (aNil))) (aCons (eC (.int 4)) (aNil)))))) (sRet (eAnd (eCall 1 F__law_is_word (aCons (e2 opIx (eVar 0) (eC (.int 1))) (aNil))) (eAnd (eOr (eIsN (e2 opIx (eVar 0) (eC (.int 2)))) (eCall 1 F__law_is_word (aCons (e2 opIx (eVar 0) (eC (.int 2))) (aNil)))) (eCall 2 F__law_is_e (aCons (e2 opIx (eVar 0) (eC (.int 3))) (aCons (eC (.int 6)) (aNil))))))) (sNil))
  (sSeq (sIf (tAnd (tE (eCall 3 F__law_has_head (aCons (eVar 0) (aCons (eLst (aCons (eC (.str [105, 102])) (aNil))) (aCons (eC (.int 4)) (aNil)))))) (tAnd (tE (e2 opGt (eVar 1) (eC (.int 0)))) (tE (eCall 2 F__law_is_c (aCons (e2 opIx (eVar 0) (eC (.int 1))) (aCons (eC (.int 6)) (aNil))))))) (sRet (eAnd (eCall 2 (R__law_are_deeds n) (aCons (e2 opIx (eVar 0) (eC (.int 2))) (aCons (e2 opSub (eVar 1) (eC (.int 1))) (aNil)))) (eCall 2 (R__law_are_deeds n) (aCons (e2 opIx (eVar 0) (eC (.int 3))) (aCons (e2 opSub (eVar 1) (eC (.int 1))) (aNil)))))) (sNil))
  (sRet (eCall 3 F__law_has_head (aCons (eVar 0) (aCons (eLst (aCons (eC (.str [102, 97, 105, 108])) (aNil))) (aCons (eC (.int 1)) (aNil))))))))))
end
def F__law_are_deeds : Fn := R__law_are_deeds 12
def F__law_is_deed : Fn := R__law_is_deed 12
def R__law_many_deeds : Nat → Fn
  | 0 => badFn
  | n + 1 => pureFn (fnBody 1 2 (sRet (eB bSum (aCons (eComp (iE (eVar 0)) (gVar 1) (tYes) (eIf (tE (e2 opNe (e2 opIx (eVar 1) (eC (.int 0))) (eC (.str [105, 102])))) (eC (.int 1)) (e2 opAdd (e2 opAdd (eC (.int 1)) (eCall 1 (R__law_many_deeds n) (aCons (e2 opIx (eVar 1) (eC (.int 2))) (aNil)))) (eCall 1 (R__law_many_deeds n) (aCons (e2 opIx (eVar 1) (eC (.int 3))) (aNil))))) [1]) (aNil)))))
def F__law_many_deeds : Fn := R__law_many_deeds 12
def F__law_is_handler : Fn := pureFn (fnBody 1 1 (sRet (eAnd (eCall 2 F__law_are_deeds (aCons (eVar 0) (aCons (eC (.int 3)) (aNil)))) (e2 opLt (eCall 1 F__law_many_deeds (aCons (eVar 0) (aNil))) (eC (.int 13))))))
def F_law : Fn := fnBody 1 8 (sSeq (sAsg (eCall 1 F__law_pen (aCons (eVar 0) (aNil))) (gVar 1))
  (sSeq (sFor (iRange (eC (.int 14))) (gVar 2) (sSeq (sAsg (eCall 5 F__law_handler (aCons (eVar 1) (aCons (eCall 2 F__law_words (aCons (eVar 1) (aCons (eC (.int 2)) (aNil)))) (aCons (eCall 2 F__law_words (aCons (eVar 1) (aCons (eC (.int 2)) (aNil)))) (aCons (eCall 2 F__law_words (aCons (eVar 1) (aCons (eC (.int 2)) (aNil)))) (aCons (eC (.int 12)) (aNil))))))) (gVar 3))
  (sSeq (sAsg (eLst (aCons (eVar 3) (aCons (eCall 1 F__law_odd (aCons (eVar 1) (aNil))) (aCons (eCall 1 F__law_at_limits (aCons (eVar 1) (aNil))) (aCons (eB bList (aCons (eVar 3) (aNil))) (aNil)))))) (gVar 4))
  (sSeq (sFor (iRange (eC (.int 6))) (gVar 5) (sSeq (sAsg (eCall 2 F__law_bent (aCons (eVar 1) (aCons (eCall 2 F__law_pick (aCons (eVar 1) (aCons (eLst (aCons (eVar 3) (aCons (eVar 3) (aCons (eCall 1 F__law_at_limits (aCons (eVar 1) (aNil))) (aNil))))) (aNil)))) (aNil)))) (gVar 7))
  (sAsg (e2 opAdd (eVar 4) (eLst (aCons (eVar 7) (aCons (eCall 2 F__law_bent (aCons (eVar 1) (aCons (eVar 7) (aNil)))) (aNil))))) (gVar 4))))
  (sFor (iE (eVar 4)) (gVar 6) (sIf (tE (e2 opNe (eB bRepr (aCons (eCall 1 F_is_handler (aCons (eVar 6) (aNil))) (aNil))) (eB bRepr (aCons (eCall 1 F__law_is_handler (aCons (eVar 6) (aNil))) (aNil))))) (sRet (eC (.bl false))) (sNil)))))))
  (sRet (e2 opIsB (eCall 1 F_is_handler (aCons (eTup (aNil)) (aNil))) (eC (.bl true))))))
end K02
end Ev

set_option Elab.async false
set_option linter.all false
set_option maxRecDepth 100000
set_option maxHeartbeats 4000000
set_option autoImplicit false
namespace Ev
namespace K02
open PySem PySem.Spec PyProof.Rows L2
def top (i : Nat) : Stmt := PySem.Challenge.pw_oncepost_k02_what_is_a_handler.main.body.getD i (.Pass ⟨0, 0, 0, 0⟩)
/-- what the walk leans on -/
structure Facts (P : Program) (w : World) (T : Tb) (K : PySem.W.Frag) (mg : Str → Option Value) (fd : Nat → FuncData) : Prop where
  tw : T.w = w
  tp : T.P = P
  f__law_pen : FunD K "_law_pen" "_law_pen" (defArgs (top 22)) (defBody (top 22)) (defScope (top 22)) [] [] (gloAt "_law_pen" K) (fd 0)
  g__law_pen : mg "_law_pen" = some (.ref (gloAt "_law_pen" K))
  f__law_draw : FunD K "_law_draw" "_law_draw" (defArgs (top 23)) (defBody (top 23)) (defScope (top 23)) [] [] (gloAt "_law_draw" K) (fd 1)
  g__law_draw : mg "_law_draw" = some (.ref (gloAt "_law_draw" K))
  f__law_pick : FunD K "_law_pick" "_law_pick" (defArgs (top 24)) (defBody (top 24)) (defScope (top 24)) [] [] (gloAt "_law_pick" K) (fd 2)
  g__law_pick : mg "_law_pick" = some (.ref (gloAt "_law_pick" K))
  f__law_number : FunD K "_law_number" "_law_number" (defArgs (top 26)) (defBody (top 26)) (defScope (top 26)) [] [] (gloAt "_law_number" K) (fd 3)
  g__law_number : mg "_law_number" = some (.ref (gloAt "_law_number" K))
  f__law_leaf : FunD K "_law_leaf" "_law_leaf" (defArgs (top 28)) (defBody (top 28)) (defScope (top 28)) [] [] (gloAt "_law_leaf" K) (fd 4)
  g__law_leaf : mg "_law_leaf" = some (.ref (gloAt "_law_leaf" K))
  f__law_e : FunD K "_law_e" "_law_e" (defArgs (top 29)) (defBody (top 29)) (defScope (top 29)) [] [] (gloAt "_law_e" K) (fd 5)
  g__law_e : mg "_law_e" = some (.ref (gloAt "_law_e" K))
  f__law_c : FunD K "_law_c" "_law_c" (defArgs (top 30)) (defBody (top 30)) (defScope (top 30)) [] [] (gloAt "_law_c" K) (fd 6)
  g__law_c : mg "_law_c" = some (.ref (gloAt "_law_c" K))
  f__law_deeds : FunD K "_law_deeds" "_law_deeds" (defArgs (top 32)) (defBody (top 32)) (defScope (top 32)) [] [] (gloAt "_law_deeds" K) (fd 7)
  g__law_deeds : mg "_law_deeds" = some (.ref (gloAt "_law_deeds" K))
  f__law_deed : FunD K "_law_deed" "_law_deed" (defArgs (top 31)) (defBody (top 31)) (defScope (top 31)) [] [] (gloAt "_law_deed" K) (fd 8)
  g__law_deed : mg "_law_deed" = some (.ref (gloAt "_law_deed" K))
  f__law_handler : FunD K "_law_handler" "_law_handler" (defArgs (top 33)) (defBody (top 33)) (defScope (top 33)) [] [] (gloAt "_law_handler" K) (fd 9)
  g__law_handler : mg "_law_handler" = some (.ref (gloAt "_law_handler" K))
  f_is_tree : FunD K "is_tree" "is_tree" (defArgs (top 14)) (defBody (top 14)) (defScope (top 14)) [] [] (gloAt "is_tree" K) (fd 10)
  g_is_tree : mg "is_tree" = some (.ref (gloAt "is_tree" K))
  f_is_word : FunD K "is_word" "is_word" (defArgs (top 8)) (defBody (top 8)) (defScope (top 8)) [] [] (gloAt "is_word" K) (fd 11)
  g_is_word : mg "is_word" = some (.ref (gloAt "is_word" K))
  f_is_integer : FunD K "is_integer" "is_integer" (defArgs (top 7)) (defBody (top 7)) (defScope (top 7)) [] [] (gloAt "is_integer" K) (fd 12)
  g_is_integer : mg "is_integer" = some (.ref (gloAt "is_integer" K))
  f_is_value : FunD K "is_value" "is_value" (defArgs (top 9)) (defBody (top 9)) (defScope (top 9)) [] [] (gloAt "is_value" K) (fd 13)
  g_is_value : mg "is_value" = some (.ref (gloAt "is_value" K))
  f_is_expression : FunD K "is_expression" "is_expression" (defArgs (top 15)) (defBody (top 15)) (defScope (top 15)) [] [] (gloAt "is_expression" K) (fd 14)
  g_is_expression : mg "is_expression" = some (.ref (gloAt "is_expression" K))
  f_is_condition : FunD K "is_condition" "is_condition" (defArgs (top 16)) (defBody (top 16)) (defScope (top 16)) [] [] (gloAt "is_condition" K) (fd 15)
  g_is_condition : mg "is_condition" = some (.ref (gloAt "is_condition" K))
  f_are_deeds : FunD K "are_deeds" "are_deeds" (defArgs (top 17)) (defBody (top 17)) (defScope (top 17)) [] [] (gloAt "are_deeds" K) (fd 16)
  g_are_deeds : mg "are_deeds" = some (.ref (gloAt "are_deeds" K))
  f_is_deed : FunD K "is_deed" "is_deed" (defArgs (top 18)) (defBody (top 18)) (defScope (top 18)) [] [] (gloAt "is_deed" K) (fd 17)
  g_is_deed : mg "is_deed" = some (.ref (gloAt "is_deed" K))
  f_count_deeds : FunD K "count_deeds" "count_deeds" (defArgs (top 19)) (defBody (top 19)) (defScope (top 19)) [] [] (gloAt "count_deeds" K) (fd 18)
  g_count_deeds : mg "count_deeds" = some (.ref (gloAt "count_deeds" K))
  f_is_handler : FunD K "is_handler" "is_handler" (defArgs (top 20)) (defBody (top 20)) (defScope (top 20)) [] [] (gloAt "is_handler" K) (fd 19)
  g_is_handler : mg "is_handler" = some (.ref (gloAt "is_handler" K))
  f__law_words : FunD K "_law_words" "_law_words" (defArgs (top 25)) (defBody (top 25)) (defScope (top 25)) [] [] (gloAt "_law_words" K) (fd 20)
  g__law_words : mg "_law_words" = some (.ref (gloAt "_law_words" K))
  f__law_odd : FunD K "_law_odd" "_law_odd" (defArgs (top 27)) (defBody (top 27)) (defScope (top 27)) [] [] (gloAt "_law_odd" K) (fd 21)
  g__law_odd : mg "_law_odd" = some (.ref (gloAt "_law_odd" K))
  f__law_deep_e : FunD K "_law_deep_e" "_law_deep_e" (defArgs (top 44)) (defBody (top 44)) (defScope (top 44)) [] [] (gloAt "_law_deep_e" K) (fd 22)
  g__law_deep_e : mg "_law_deep_e" = some (.ref (gloAt "_law_deep_e" K))
  f__law_deep_c : FunD K "_law_deep_c" "_law_deep_c" (defArgs (top 45)) (defBody (top 45)) (defScope (top 45)) [] [] (gloAt "_law_deep_c" K) (fd 23)
  g__law_deep_c : mg "_law_deep_c" = some (.ref (gloAt "_law_deep_c" K))
  f__law_deep_ifs : FunD K "_law_deep_ifs" "_law_deep_ifs" (defArgs (top 46)) (defBody (top 46)) (defScope (top 46)) [] [] (gloAt "_law_deep_ifs" K) (fd 24)
  g__law_deep_ifs : mg "_law_deep_ifs" = some (.ref (gloAt "_law_deep_ifs" K))
  f__law_at_limits : FunD K "_law_at_limits" "_law_at_limits" (defArgs (top 47)) (defBody (top 47)) (defScope (top 47)) [] [] (gloAt "_law_at_limits" K) (fd 25)
  g__law_at_limits : mg "_law_at_limits" = some (.ref (gloAt "_law_at_limits" K))
  f__law_bent : FunD K "_law_bent" "_law_bent" (defArgs (top 43)) (defBody (top 43)) (defScope (top 43)) [] [] (gloAt "_law_bent" K) (fd 26)
  g__law_bent : mg "_law_bent" = some (.ref (gloAt "_law_bent" K))
  f__law_has_head : FunD K "_law_has_head" "_law_has_head" (defArgs (top 36)) (defBody (top 36)) (defScope (top 36)) [] [] (gloAt "_law_has_head" K) (fd 27)
  g__law_has_head : mg "_law_has_head" = some (.ref (gloAt "_law_has_head" K))
  f__law_is_number : FunD K "_law_is_number" "_law_is_number" (defArgs (top 35)) (defBody (top 35)) (defScope (top 35)) [] [] (gloAt "_law_is_number" K) (fd 28)
  g__law_is_number : mg "_law_is_number" = some (.ref (gloAt "_law_is_number" K))
  f__law_is_word : FunD K "_law_is_word" "_law_is_word" (defArgs (top 34)) (defBody (top 34)) (defScope (top 34)) [] [] (gloAt "_law_is_word" K) (fd 29)
  g__law_is_word : mg "_law_is_word" = some (.ref (gloAt "_law_is_word" K))
  f__law_is_e : FunD K "_law_is_e" "_law_is_e" (defArgs (top 37)) (defBody (top 37)) (defScope (top 37)) [] [] (gloAt "_law_is_e" K) (fd 30)
  g__law_is_e : mg "_law_is_e" = some (.ref (gloAt "_law_is_e" K))
  f__law_is_c : FunD K "_law_is_c" "_law_is_c" (defArgs (top 38)) (defBody (top 38)) (defScope (top 38)) [] [] (gloAt "_law_is_c" K) (fd 31)
  g__law_is_c : mg "_law_is_c" = some (.ref (gloAt "_law_is_c" K))
  f__law_are_deeds : FunD K "_law_are_deeds" "_law_are_deeds" (defArgs (top 40)) (defBody (top 40)) (defScope (top 40)) [] [] (gloAt "_law_are_deeds" K) (fd 32)
  g__law_are_deeds : mg "_law_are_deeds" = some (.ref (gloAt "_law_are_deeds" K))
  f__law_is_deed : FunD K "_law_is_deed" "_law_is_deed" (defArgs (top 39)) (defBody (top 39)) (defScope (top 39)) [] [] (gloAt "_law_is_deed" K) (fd 33)
  g__law_is_deed : mg "_law_is_deed" = some (.ref (gloAt "_law_is_deed" K))
  f__law_many_deeds : FunD K "_law_many_deeds" "_law_many_deeds" (defArgs (top 41)) (defBody (top 41)) (defScope (top 41)) [] [] (gloAt "_law_many_deeds" K) (fd 34)
  g__law_many_deeds : mg "_law_many_deeds" = some (.ref (gloAt "_law_many_deeds" K))
  f__law_is_handler : FunD K "_law_is_handler" "_law_is_handler" (defArgs (top 42)) (defBody (top 42)) (defScope (top 42)) [] [] (gloAt "_law_is_handler" K) (fd 35)
  g__law_is_handler : mg "_law_is_handler" = some (.ref (gloAt "_law_is_handler" K))
  f_law : FunD K "law" "law" (defArgs (top 48)) (defBody (top 48)) (defScope (top 48)) [] [] (gloAt "law" K) (fd 36)
  g_law : mg "law" = some (.ref (gloAt "law" K))
  n_list : mg "list" = none
  n_int : mg "int" = none
  n_len : mg "len" = none
  n_abs : mg "abs" = none
  n_range : mg "range" = none
  n_tuple : mg "tuple" = none
  n_isinstance : mg "isinstance" = none
  n_str : mg "str" = none
  n_all : mg "all" = none
  n_bool : mg "bool" = none
  n_any : mg "any" = none
  n_sum : mg "sum" = none
  n_repr : mg "repr" = none
  d_MAX_LETTERS : ∃ u v, mg "MAX_LETTERS" = some u ∧ RelV v u ∧ ∀ M, RV K T M (.int 6) v
  d_LETTERS : ∃ u v, mg "LETTERS" = some u ∧ RelV v u ∧ ∀ M, RV K T M (.str [97, 98, 99, 100, 101, 102, 103, 104, 105, 106, 107, 108, 109, 110, 111, 112, 113, 114, 115, 116, 117, 118, 119, 120, 121, 122]) v
  d_MAX_VALUE : ∃ u v, mg "MAX_VALUE" = some u ∧ RelV v u ∧ ∀ M, RV K T M (.int 99) v
  d_SUMS : ∃ u v, mg "SUMS" = some u ∧ RelV v u ∧ ∀ M, RV K T M (.tup [(.str [43]), (.str [45]), (.str [42])]) v
  d_COMPARISONS : ∃ u v, mg "COMPARISONS" = some u ∧ RelV v u ∧ ∀ M, RV K T M (.tup [(.str [60]), (.str [61])]) v
  d_MAX_DEPTH : ∃ u v, mg "MAX_DEPTH" = some u ∧ RelV v u ∧ ∀ M, RV K T M (.int 6) v
  d_JOINS : ∃ u v, mg "JOINS" = some u ∧ RelV v u ∧ ∀ M, RV K T M (.tup [(.str [97, 110, 100]), (.str [111, 114])]) v
  d_MAX_IFS : ∃ u v, mg "MAX_IFS" = some u ∧ RelV v u ∧ ∀ M, RV K T M (.int 3) v
  d_MAX_DEEDS : ∃ u v, mg "MAX_DEEDS" = some u ∧ RelV v u ∧ ∀ M, RV K T M (.int 12) v
section
variable {P : Program} {w : World} {K : PySem.W.Frag} {mg : Str → Option Value} {base : Heap} {T : Tb} {fd : Nat → FuncData}
theorem sc__law_pen : FnScope ["_law_script"] ["_law_script"] (defScope (top 22)) := ⟨rfl, rfl, rfl, by decide +kernel, rfl, by decide +kernel, by decide +kernel⟩
theorem ok__law_pen (W : Facts P w T K mg fd) : FnG P w K mg base CX0 1 (gloAt "_law_pen" K) (fd 0) ["_law_script"] (spOf K T 1 F__law_pen) :=
  fn_ok W.f__law_pen sc__law_pen (k := 0) fun cdv A outer s H E hgu hr =>
    js_one (js_ret (je_dctM (.cons (je_str) (je_BT cd_list W.n_list (ja_cons (je_sl (je_var (i := 0)) (jo_none) (jo_some (je_int))) (ja_nil))) (.cons (je_str) (je_int) (.cons (je_str) (je_int) (.nil))))))
theorem b__law_pen (W : Facts P w T K mg fd) : Binds K (fd 0) ["_law_script"] [] := W.f__law_pen.bindsN fun _ _ _ _ _ _ us hl => match us, hl with | [_], _ => rfl
theorem sc__law_draw : FnScope ["_law_pen_here", "_law_many", "_law_at", "_law_cell", "_law_blend", "_law_digit"] ["_law_pen_here", "_law_many"] (defScope (top 23)) := ⟨rfl, rfl, rfl, by decide +kernel, rfl, by decide +kernel, by decide +kernel⟩
theorem ok__law_draw (W : Facts P w T K mg fd) : FnG P w K mg base CX0 1 (gloAt "_law_draw" K) (fd 1) ["_law_pen_here", "_law_many"] (spOf K T 2 F__law_draw) :=
  fn_ok W.f__law_draw sc__law_draw (k := 0) fun cdv A outer s H E hgu hr =>
    js_cons (js_if (jt_cmpD opD_gt opGt_bool (je_ix (u1 hr) (je_var (i := 0)) (je_str)) (je_int)) (js_cons (js_set (i := 5) sc__law_draw.nd (je_bin opD_mod (je_BT cd_int W.n_int (ja_cons (je_ix (u1 hr) (je_var (i := 0)) (je_str)) (ja_nil))) (je_var (i := 1))))
    (js_cons (js_asg (je_bin opD_fdiv (je_ix (u1 hr) (je_var (i := 0)) (je_str)) (je_var (i := 1))) (jg_item W.tw W.tp (u10 hr) (je_var (i := 0)) (je_str)))
    (js_one (js_ret (je_var (i := 5)))))) (js_nil))
    (js_cons (js_set (i := 2) sc__law_draw.nd (je_ix (u1 hr) (je_var (i := 0)) (je_str)))
    (js_cons (js_asg (je_bin opD_add (je_var (i := 2)) (je_int)) (jg_item W.tw W.tp (u10 hr) (je_var (i := 0)) (je_str)))
    (js_cons (js_set (i := 3) sc__law_draw.nd (je_bin opD_add (je_bin opD_mul (je_int) (je_var (i := 2))) (je_int)))
    (js_cons (js_if (jt_cmpD (opD_ne (u64 hr)) opNe_bool (je_ix (u1 hr) (je_var (i := 0)) (je_str)) (je_lst (ja_nil))) (js_one (js_set (i := 3) sc__law_draw.nd (je_ix (u1 hr) (je_ix (u1 hr) (je_var (i := 0)) (je_str)) (je_bin opD_mod (je_BT cd_int W.n_int (ja_cons (je_var (i := 2)) (ja_nil))) (je_B cd_len W.n_len (ja_cons (je_ix (u1 hr) (je_var (i := 0)) (je_str)) (ja_nil))))))) (js_nil))
    (js_cons (js_if (JW.t (jw_and (jt_cmpD opD_lt opLt_bool (je_var (i := 2)) (je_B cd_len W.n_len (ja_cons (je_ix (u1 hr) (je_var (i := 0)) (je_str)) (ja_nil)))) (jw_and1 (jt_cmpD opD_ge opGe_bool (je_B cd_abs W.n_abs (ja_cons (je_var (i := 3)) (ja_nil))) (je_bin opD_pow (je_int) (je_int)))))) (js_cons (js_asg (je_bin opD_fdiv (je_bin opD_sub (je_B cd_abs W.n_abs (ja_cons (je_var (i := 3)) (ja_nil))) (je_bin opD_pow (je_int) (je_int))) (je_var (i := 1))) (jg_item W.tw W.tp (u10 hr) (je_var (i := 0)) (je_str)))
    (js_one (js_ret (je_bin opD_mod (je_bin opD_sub (je_B cd_abs W.n_abs (ja_cons (je_var (i := 3)) (ja_nil))) (je_bin opD_pow (je_int) (je_int))) (je_var (i := 1)))))) (js_nil))
    (js_cons (js_set (i := 4) sc__law_draw.nd (je_bin opD_mod (je_BT cd_int W.n_int (ja_cons (je_bin opD_add (je_bin opD_add (je_bin opD_mul (je_bin opD_mod (je_BT cd_int W.n_int (ja_cons (je_var (i := 3)) (ja_nil))) (je_int)) (je_int)) (je_bin opD_mul (je_bin opD_mul (je_int) (je_var (i := 2))) (je_var (i := 2)))) (je_int)) (ja_nil))) (je_int)))
    (js_cons (js_set (i := 4) sc__law_draw.nd (je_bin opD_mod (je_BT cd_int W.n_int (ja_cons (je_bin opD_add (je_bin opD_add (je_bin opD_add (je_bin opD_mul (je_var (i := 4)) (je_var (i := 4))) (je_bin opD_mul (je_int) (je_var (i := 4)))) (je_bin opD_mul (je_int) (je_var (i := 2)))) (je_int)) (ja_nil))) (je_int)))
    (js_one (js_ret (je_bin opD_mod (je_BT cd_int W.n_int (ja_cons (je_bin opD_fdiv (je_bin opD_mod (je_BT cd_int W.n_int (ja_cons (je_bin opD_mul (je_var (i := 4)) (je_bin opD_add (je_var (i := 4)) (je_int))) (ja_nil))) (je_int)) (je_int)) (ja_nil))) (je_var (i := 1))))))))))))
theorem b__law_draw (W : Facts P w T K mg fd) : Binds K (fd 1) ["_law_pen_here", "_law_many"] [] := W.f__law_draw.bindsN fun _ _ _ _ _ _ us hl => match us, hl with | [_, _], _ => rfl
theorem sc__law_pick : FnScope ["_law_pen_here", "_law_items"] ["_law_pen_here", "_law_items"] (defScope (top 24)) := ⟨rfl, rfl, rfl, by decide +kernel, rfl, by decide +kernel, by decide +kernel⟩
theorem ok__law_pick (W : Facts P w T K mg fd) : FnG P w K mg base CX0 2 (gloAt "_law_pick" K) (fd 2) ["_law_pen_here", "_law_items"] (spOf K T 2 F__law_pick) :=
  fn_ok W.f__law_pick sc__law_pick (k := 1) fun cdv A outer s H E hgu hr =>
    js_one (js_ret (je_ix (u1 hr) (je_var (i := 1)) (je_call (ok__law_draw W) hgu (hr.mono (by decide)) W.g__law_draw W.f__law_draw.kp (b__law_draw W) (ja_cons (je_var (i := 0)) (ja_cons (je_B cd_len W.n_len (ja_cons (je_var (i := 1)) (ja_nil))) (ja_nil))))))
theorem b__law_pick (W : Facts P w T K mg fd) : Binds K (fd 2) ["_law_pen_here", "_law_items"] [] := W.f__law_pick.bindsN fun _ _ _ _ _ _ us hl => match us, hl with | [_, _], _ => rfl
theorem sc__law_number : FnScope ["_law_pen_here", "_law_small"] ["_law_pen_here"] (defScope (top 26)) := ⟨rfl, rfl, rfl, by decide +kernel, rfl, by decide +kernel, by decide +kernel⟩
theorem ok__law_number (W : Facts P w T K mg fd) : FnG P w K mg base CX0 3 (gloAt "_law_number" K) (fd 3) ["_law_pen_here"] (spOf K T 1 F__law_number) :=
  fn_ok W.f__law_number sc__law_number (k := 2) fun cdv A outer s H E hgu hr =>
    js_cons (js_set (i := 1) sc__law_number.nd (je_bin opD_sub (je_call (ok__law_draw W) hgu (hr.mono (by decide)) W.g__law_draw W.f__law_draw.kp (b__law_draw W) (ja_cons (je_var (i := 0)) (ja_cons (je_int) (ja_nil)))) (je_int)))
    (js_one (js_ret (je_call (ok__law_pick W) hgu (hr.mono (by decide)) W.g__law_pick W.f__law_pick.kp (b__law_pick W) (ja_cons (je_var (i := 0)) (ja_cons (je_lst (ja_cons (je_var (i := 1)) (ja_cons (je_var (i := 1)) (ja_cons (je_var (i := 1)) (ja_cons (je_int) (ja_cons (je_neg (je_int)) (ja_cons (je_int) (ja_cons (je_bin opD_sub (je_call (ok__law_draw W) hgu (hr.mono (by decide)) W.g__law_draw W.f__law_draw.kp (b__law_draw W) (ja_cons (je_var (i := 0)) (ja_cons (je_int) (ja_nil)))) (je_int)) (ja_nil))))))))) (ja_nil))))))
theorem b__law_number (W : Facts P w T K mg fd) : Binds K (fd 3) ["_law_pen_here"] [] := W.f__law_number.bindsN fun _ _ _ _ _ _ us hl => match us, hl with | [_], _ => rfl
theorem sc__law_leaf : FnScope ["_law_pen_here", "_law_names"] ["_law_pen_here", "_law_names"] (defScope (top 28)) := ⟨rfl, rfl, rfl, by decide +kernel, rfl, by decide +kernel, by decide +kernel⟩
theorem ok__law_leaf (W : Facts P w T K mg fd) : FnG P w K mg base CX0 4 (gloAt "_law_leaf" K) (fd 4) ["_law_pen_here", "_law_names"] (spOf K T 2 F__law_leaf) :=
  fn_ok W.f__law_leaf sc__law_leaf (k := 3) fun cdv A outer s H E hgu hr =>
    js_one (js_ret (je_call (ok__law_pick W) hgu (hr.mono (by decide)) W.g__law_pick W.f__law_pick.kp (b__law_pick W) (ja_cons (je_var (i := 0)) (ja_cons (je_lst (ja_cons (je_tup (ja_cons (je_str) (ja_cons (je_call (ok__law_number W) hgu (hr.mono (by decide)) W.g__law_number W.f__law_number.kp (b__law_number W) (ja_cons (je_var (i := 0)) (ja_nil))) (ja_nil)))) (ja_cons (je_tup (ja_cons (je_str) (ja_nil))) (ja_cons (je_tup (ja_cons (je_str) (ja_cons (je_call (ok__law_pick W) hgu (hr.mono (by decide)) W.g__law_pick W.f__law_pick.kp (b__law_pick W) (ja_cons (je_var (i := 0)) (ja_cons (je_var (i := 1)) (ja_nil)))) (ja_nil)))) (ja_nil))))) (ja_nil)))))
theorem b__law_leaf (W : Facts P w T K mg fd) : Binds K (fd 4) ["_law_pen_here", "_law_names"] [] := W.f__law_leaf.bindsN fun _ _ _ _ _ _ us hl => match us, hl with | [_, _], _ => rfl
theorem sc__law_e : FnScope ["_law_pen_here", "_law_names", "_law_deep"] ["_law_pen_here", "_law_names", "_law_deep"] (defScope (top 29)) := ⟨rfl, rfl, rfl, by decide +kernel, rfl, by decide +kernel, by decide +kernel⟩
theorem b__law_e (W : Facts P w T K mg fd) : Binds K (fd 5) ["_law_pen_here", "_law_names", "_law_deep"] [] := W.f__law_e.bindsN fun _ _ _ _ _ _ us hl => match us, hl with | [_, _, _], _ => rfl
theorem okR__law_e (W : Facts P w T K mg fd) : ∀ n : Nat, FnG P w K mg base CX0 (5 + n) (gloAt "_law_e" K) (fd 5) ["_law_pen_here", "_law_names", "_law_deep"] (spOf K T 3 (R__law_e n))
  | 0 => fn_bad
  | n + 1 => have ih := okR__law_e W n
  fn_ok W.f__law_e sc__law_e (k := 5 + n) fun cdv A outer s H E hgu hr =>
    js_cons (js_if (JW.t (jw_or (jt_cmpD opD_lt opLt_bool (je_var (i := 2)) (je_int)) (jw_or1 (jt_cmpD (opD_eq (u64 hr)) opEq_bool (je_call (ok__law_draw W) hgu (hr.mono (by omega)) W.g__law_draw W.f__law_draw.kp (b__law_draw W) (ja_cons (je_var (i := 0)) (ja_cons (je_int) (ja_nil)))) (je_int))))) (js_one (js_ret (je_call (ok__law_leaf W) hgu (hr.mono (by omega)) W.g__law_leaf W.f__law_leaf.kp (b__law_leaf W) (ja_cons (je_var (i := 0)) (ja_cons (je_var (i := 1)) (ja_nil)))))) (js_nil))
    (js_one (js_ret (je_tup (ja_cons (je_call (ok__law_pick W) hgu (hr.mono (by omega)) W.g__law_pick W.f__law_pick.kp (b__law_pick W) (ja_cons (je_var (i := 0)) (ja_cons (je_lst (ja_cons (je_str) (ja_cons (je_str) (ja_cons (je_str) (ja_nil))))) (ja_nil)))) (ja_cons (je_call (ih) hgu (hr.mono (by omega)) W.g__law_e W.f__law_e.kp (b__law_e W) (ja_cons (je_var (i := 0)) (ja_cons (je_var (i := 1)) (ja_cons (je_bin opD_sub (je_var (i := 2)) (je_int)) (ja_nil))))) (ja_cons (je_call (ih) hgu (hr.mono (by omega)) W.g__law_e W.f__law_e.kp (b__law_e W) (ja_cons (je_var (i := 0)) (ja_cons (je_var (i := 1)) (ja_cons (je_bin opD_sub (je_var (i := 2)) (je_int)) (ja_nil))))) (ja_nil)))))))
theorem ok__law_e (W : Facts P w T K mg fd) : FnG P w K mg base CX0 17 (gloAt "_law_e" K) (fd 5) ["_law_pen_here", "_law_names", "_law_deep"] (spOf K T 3 F__law_e) := okR__law_e W 12
theorem sc__law_c : FnScope ["_law_pen_here", "_law_names", "_law_deep", "_law_way"] ["_law_pen_here", "_law_names", "_law_deep"] (defScope (top 30)) := ⟨rfl, rfl, rfl, by decide +kernel, rfl, by decide +kernel, by decide +kernel⟩
theorem b__law_c (W : Facts P w T K mg fd) : Binds K (fd 6) ["_law_pen_here", "_law_names", "_law_deep"] [] := W.f__law_c.bindsN fun _ _ _ _ _ _ us hl => match us, hl with | [_, _, _], _ => rfl
theorem okR__law_c (W : Facts P w T K mg fd) : ∀ n : Nat, FnG P w K mg base CX0 (18 + n) (gloAt "_law_c" K) (fd 6) ["_law_pen_here", "_law_names", "_law_deep"] (spOf K T 3 (R__law_c n))
  | 0 => fn_bad
  | n + 1 => have ih := okR__law_c W n
  fn_ok W.f__law_c sc__law_c (k := 18 + n) fun cdv A outer s H E hgu hr =>
    js_cons (js_set (i := 3) sc__law_c.nd (je_if (jt_cmpD opD_gt opGt_bool (je_var (i := 2)) (je_int)) (je_call (ok__law_draw W) hgu (hr.mono (by omega)) W.g__law_draw W.f__law_draw.kp (b__law_draw W) (ja_cons (je_var (i := 0)) (ja_cons (je_int) (ja_nil)))) (je_call (ok__law_draw W) hgu (hr.mono (by omega)) W.g__law_draw W.f__law_draw.kp (b__law_draw W) (ja_cons (je_var (i := 0)) (ja_cons (je_int) (ja_nil))))))
    (js_cons (js_if (jt_cmpD opD_lt opLt_bool (je_var (i := 3)) (je_int)) (js_one (js_ret (je_tup (ja_cons (je_ix (u1 hr) (je_lst (ja_cons (je_str) (ja_cons (je_str) (ja_cons (je_str) (ja_nil))))) (je_var (i := 3))) (ja_cons (je_call (ok__law_e W) hgu (hr.mono (by omega)) W.g__law_e W.f__law_e.kp (b__law_e W) (ja_cons (je_var (i := 0)) (ja_cons (je_var (i := 1)) (ja_cons (je_int) (ja_nil))))) (ja_cons (je_call (ok__law_e W) hgu (hr.mono (by omega)) W.g__law_e W.f__law_e.kp (b__law_e W) (ja_cons (je_var (i := 0)) (ja_cons (je_var (i := 1)) (ja_cons (je_int) (ja_nil))))) (ja_nil))))))) (js_nil))
    (js_cons (js_if (jt_cmpD (opD_eq (u64 hr)) opEq_bool (je_var (i := 3)) (je_int)) (js_one (js_ret (je_tup (ja_cons (je_str) (ja_cons (je_call (ih) hgu (hr.mono (by omega)) W.g__law_c W.f__law_c.kp (b__law_c W) (ja_cons (je_var (i := 0)) (ja_cons (je_var (i := 1)) (ja_cons (je_bin opD_sub (je_var (i := 2)) (je_int)) (ja_nil))))) (ja_nil)))))) (js_nil))
    (js_one (js_ret (je_tup (ja_cons (je_ix (u1 hr) (je_lst (ja_cons (je_str) (ja_cons (je_str) (ja_nil)))) (je_bin opD_sub (je_var (i := 3)) (je_int))) (ja_cons (je_call (ih) hgu (hr.mono (by omega)) W.g__law_c W.f__law_c.kp (b__law_c W) (ja_cons (je_var (i := 0)) (ja_cons (je_var (i := 1)) (ja_cons (je_bin opD_sub (je_var (i := 2)) (je_int)) (ja_nil))))) (ja_cons (je_call (ih) hgu (hr.mono (by omega)) W.g__law_c W.f__law_c.kp (b__law_c W) (ja_cons (je_var (i := 0)) (ja_cons (je_var (i := 1)) (ja_cons (je_bin opD_sub (je_var (i := 2)) (je_int)) (ja_nil))))) (ja_nil)))))))))
theorem ok__law_c (W : Facts P w T K mg fd) : FnG P w K mg base CX0 30 (gloAt "_law_c" K) (fd 6) ["_law_pen_here", "_law_names", "_law_deep"] (spOf K T 3 F__law_c) := okR__law_c W 12
theorem sc__law_deeds : FnScope ["_law_pen_here", "_law_place", "_law_ifs", "_law_found", "_law_k"] ["_law_pen_here", "_law_place", "_law_ifs"] (defScope (top 32)) := ⟨rfl, rfl, rfl, by decide +kernel, rfl, by decide +kernel, by decide +kernel⟩
theorem b__law_deeds (W : Facts P w T K mg fd) : Binds K (fd 7) ["_law_pen_here", "_law_place", "_law_ifs"] [] := W.f__law_deeds.bindsN fun _ _ _ _ _ _ us hl => match us, hl with | [_, _, _], _ => rfl
theorem sc__law_deed : FnScope ["_law_pen_here", "_law_place", "_law_ifs", "_law_way", "_law_key", "_law_c_here"] ["_law_pen_here", "_law_place", "_law_ifs"] (defScope (top 31)) := ⟨rfl, rfl, rfl, by decide +kernel, rfl, by decide +kernel, by decide +kernel⟩
theorem b__law_deed (W : Facts P w T K mg fd) : Binds K (fd 8) ["_law_pen_here", "_law_place", "_law_ifs"] [] := W.f__law_deed.bindsN fun _ _ _ _ _ _ us hl => match us, hl with | [_, _, _], _ => rfl
theorem okR__law_deed (W : Facts P w T K mg fd) : ∀ n : Nat, FnG P w K mg base CX0 (31 + n) (gloAt "_law_deeds" K) (fd 7) ["_law_pen_here", "_law_place", "_law_ifs"] (spOf K T 3 (R__law_deeds n)) ∧ FnG P w K mg base CX0 (31 + n) (gloAt "_law_deed" K) (fd 8) ["_law_pen_here", "_law_place", "_law_ifs"] (spOf K T 3 (R__law_deed n))
  | 0 => ⟨fn_bad, fn_bad⟩
  | n + 1 => have ih := okR__law_deed W n
  ⟨fn_ok W.f__law_deeds sc__law_deeds (k := 31 + n) fun cdv A outer s H E hgu hr =>
    js_cons (js_set (i := 3) sc__law_deeds.nd (je_lstM (ja_nil)))
    (js_cons (js_for PassesOwn.never rfl (ji_range W.n_range (je_call (ok__law_draw W) hgu (hr.mono (by omega)) W.g__law_draw W.f__law_draw.kp (b__law_draw W) (ja_cons (je_var (i := 0)) (ja_cons (je_int) (ja_nil))))) (jg_name (i := 4) sc__law_deeds.nd) (js_one (js_if (jt_cmpD opD_gt opGt_bool (je_ix (u1 hr) (je_var (i := 1)) (je_str)) (je_int)) (js_cons (js_asg (je_bin opD_sub (je_ix (u1 hr) (je_var (i := 1)) (je_str)) (je_int)) (jg_item W.tw W.tp (u10 hr) (je_var (i := 1)) (je_str)))
    (js_one (js_expr (je_app (je_var (i := 3)) (je_call (ih.2) hgu (hr.mono (by omega)) W.g__law_deed W.f__law_deed.kp (b__law_deed W) (ja_cons (je_var (i := 0)) (ja_cons (je_var (i := 1)) (ja_cons (je_var (i := 2)) (ja_nil))))))))) (js_nil))))
    (js_one (js_ret (je_BT cd_tuple W.n_tuple (ja_cons (je_var (i := 3)) (ja_nil)))))),
  fn_ok W.f__law_deed sc__law_deed (k := 31 + n) fun cdv A outer s H E hgu hr =>
    js_cons (js_set (i := 3) sc__law_deed.nd (je_call (ok__law_draw W) hgu (hr.mono (by omega)) W.g__law_draw W.f__law_draw.kp (b__law_draw W) (ja_cons (je_var (i := 0)) (ja_cons (je_int) (ja_nil)))))
    (js_cons (js_if (JW.t (jw_and (jt_cmpD opD_lt opLt_bool (je_var (i := 3)) (je_int)) (jw_and (jt_cmpD (opD_ne (u64 hr)) opNe_bool (je_ix (u1 hr) (je_var (i := 1)) (je_str)) (je_lst (ja_nil))) (jw_and1 (jt_cmpD opD_gt opGt_bool (je_ix (u1 hr) (je_var (i := 1)) (je_str)) (je_int)))))) (js_cons (js_asg (je_bin opD_sub (je_ix (u1 hr) (je_var (i := 1)) (je_str)) (je_int)) (jg_item W.tw W.tp (u10 hr) (je_var (i := 1)) (je_str)))
    (js_cons (js_set (i := 4) sc__law_deed.nd (je_call (ok__law_pick W) hgu (hr.mono (by omega)) W.g__law_pick W.f__law_pick.kp (b__law_pick W) (ja_cons (je_var (i := 0)) (ja_cons (je_bin opD_add (je_lst (ja_cons (je_non) (ja_cons (je_non) (ja_nil)))) (je_ix (u1 hr) (je_var (i := 1)) (je_str))) (ja_nil)))))
    (js_one (js_ret (je_tup (ja_cons (je_str) (ja_cons (je_call (ok__law_pick W) hgu (hr.mono (by omega)) W.g__law_pick W.f__law_pick.kp (b__law_pick W) (ja_cons (je_var (i := 0)) (ja_cons (je_ix (u1 hr) (je_var (i := 1)) (je_str)) (ja_nil)))) (ja_cons (je_var (i := 4)) (ja_cons (je_call (ok__law_e W) hgu (hr.mono (by omega)) W.g__law_e W.f__law_e.kp (b__law_e W) (ja_cons (je_var (i := 0)) (ja_cons (je_ix (u1 hr) (je_var (i := 1)) (je_str)) (ja_cons (je_int) (ja_nil))))) (ja_nil)))))))))) (js_nil))
    (js_cons (js_if (JW.t (jw_and (jt_cmpD (opD_eq (u64 hr)) opEq_bool (je_var (i := 3)) (je_int)) (jw_and1 (jt_cmpD opD_gt opGt_bool (je_var (i := 2)) (je_int))))) (js_cons (js_set (i := 5) sc__law_deed.nd (je_call (ok__law_c W) hgu (hr.mono (by omega)) W.g__law_c W.f__law_c.kp (b__law_c W) (ja_cons (je_var (i := 0)) (ja_cons (je_ix (u1 hr) (je_var (i := 1)) (je_str)) (ja_cons (je_int) (ja_nil))))))
    (js_one (js_ret (je_tup (ja_cons (je_str) (ja_cons (je_var (i := 5)) (ja_cons (je_call (ih.1) hgu (hr.mono (by omega)) W.g__law_deeds W.f__law_deeds.kp (b__law_deeds W) (ja_cons (je_var (i := 0)) (ja_cons (je_var (i := 1)) (ja_cons (je_bin opD_sub (je_var (i := 2)) (je_int)) (ja_nil))))) (ja_cons (je_call (ih.1) hgu (hr.mono (by omega)) W.g__law_deeds W.f__law_deeds.kp (b__law_deeds W) (ja_cons (je_var (i := 0)) (ja_cons (je_var (i := 1)) (ja_cons (je_bin opD_sub (je_var (i := 2)) (je_int)) (ja_nil))))) (ja_nil))))))))) (js_nil))
    (js_cons (js_if (JW.t (jw_and (jt_cmpD (opD_eq (u64 hr)) opEq_bool (je_var (i := 3)) (je_int)) (jw_and1 (jt_cmpD (opD_eq (u64 hr)) opEq_bool (je_call (ok__law_draw W) hgu (hr.mono (by omega)) W.g__law_draw W.f__law_draw.kp (b__law_draw W) (ja_cons (je_var (i := 0)) (ja_cons (je_int) (ja_nil)))) (je_int))))) (js_one (js_ret (je_tup (ja_cons (je_str) (ja_nil))))) (js_nil))
    (js_one (js_ret (je_tup (ja_cons (je_str) (ja_cons (je_call (ok__law_pick W) hgu (hr.mono (by omega)) W.g__law_pick W.f__law_pick.kp (b__law_pick W) (ja_cons (je_var (i := 0)) (ja_cons (je_ix (u1 hr) (je_var (i := 1)) (je_str)) (ja_nil)))) (ja_cons (je_call (ok__law_e W) hgu (hr.mono (by omega)) W.g__law_e W.f__law_e.kp (b__law_e W) (ja_cons (je_var (i := 0)) (ja_cons (je_ix (u1 hr) (je_var (i := 1)) (je_str)) (ja_cons (je_int) (ja_nil))))) (ja_nil))))))))))⟩
theorem ok__law_deeds (W : Facts P w T K mg fd) : FnG P w K mg base CX0 43 (gloAt "_law_deeds" K) (fd 7) ["_law_pen_here", "_law_place", "_law_ifs"] (spOf K T 3 F__law_deeds) := (okR__law_deed W 12).1
theorem ok__law_deed (W : Facts P w T K mg fd) : FnG P w K mg base CX0 43 (gloAt "_law_deed" K) (fd 8) ["_law_pen_here", "_law_place", "_law_ifs"] (spOf K T 3 F__law_deed) := (okR__law_deed W 12).2
theorem sc__law_handler : FnScope ["_law_pen_here", "_law_names", "_law_keys", "_law_kinds", "_law_sends", "_law_place", "_law_found"] ["_law_pen_here", "_law_names", "_law_keys", "_law_kinds", "_law_sends"] (defScope (top 33)) := ⟨rfl, rfl, rfl, by decide +kernel, rfl, by decide +kernel, by decide +kernel⟩
theorem ok__law_handler (W : Facts P w T K mg fd) : FnG P w K mg base CX0 44 (gloAt "_law_handler" K) (fd 9) ["_law_pen_here", "_law_names", "_law_keys", "_law_kinds", "_law_sends"] (spOf K T 5 F__law_handler) :=
  fn_ok W.f__law_handler sc__law_handler (k := 43) fun cdv A outer s H E hgu hr =>
    js_cons (js_set (i := 5) sc__law_handler.nd (je_dctM (.cons (je_str) (je_var (i := 1)) (.cons (je_str) (je_var (i := 2)) (.cons (je_str) (je_var (i := 3)) (.cons (je_str) (je_var (i := 4)) (.cons (je_str) (je_int) (.nil))))))))
    (js_cons (js_set (i := 6) sc__law_handler.nd (je_call (ok__law_deeds W) hgu (hr.mono (by decide)) W.g__law_deeds W.f__law_deeds.kp (b__law_deeds W) (ja_cons (je_var (i := 0)) (ja_cons (je_var (i := 5)) (ja_cons (je_int) (ja_nil))))))
    (js_cons (js_if (JW.t (jw_and (jt_cmpD (opD_ne (u64 hr)) opNe_bool (je_var (i := 3)) (je_lst (ja_nil))) (jw_and (jt_cmpD opD_gt opGt_bool (je_ix (u1 hr) (je_var (i := 5)) (je_str)) (je_int)) (jw_and1 (jt_cmpD opD_gt opGt_bool (je_call (ok__law_draw W) hgu (hr.mono (by decide)) W.g__law_draw W.f__law_draw.kp (b__law_draw W) (ja_cons (je_var (i := 0)) (ja_cons (je_int) (ja_nil)))) (je_int)))))) (js_one (js_set (i := 6) sc__law_handler.nd (je_bin opD_add (je_var (i := 6)) (je_tup (ja_cons (je_tup (ja_cons (je_str) (ja_cons (je_call (ok__law_pick W) hgu (hr.mono (by decide)) W.g__law_pick W.f__law_pick.kp (b__law_pick W) (ja_cons (je_var (i := 0)) (ja_cons (je_var (i := 3)) (ja_nil)))) (ja_cons (je_non) (ja_cons (je_call (ok__law_e W) hgu (hr.mono (by decide)) W.g__law_e W.f__law_e.kp (b__law_e W) (ja_cons (je_var (i := 0)) (ja_cons (je_var (i := 1)) (ja_cons (je_int) (ja_nil))))) (ja_nil)))))) (ja_nil)))))) (js_nil))
    (js_one (js_ret (je_var (i := 6))))))
theorem b__law_handler (W : Facts P w T K mg fd) : Binds K (fd 9) ["_law_pen_here", "_law_names", "_law_keys", "_law_kinds", "_law_sends"] [] := W.f__law_handler.bindsN fun _ _ _ _ _ _ us hl => match us, hl with | [_, _, _, _, _], _ => rfl
theorem sc_is_tree : FnScope ["value", "head", "size"] ["value", "head", "size"] (defScope (top 14)) := ⟨rfl, rfl, rfl, by decide +kernel, rfl, by decide +kernel, by decide +kernel⟩
theorem ok_is_tree (W : Facts P w T K mg fd) : FnG P w K mg base CX0 1 (gloAt "is_tree" K) (fd 10) ["value", "head", "size"] (spOf K T 3 F_is_tree) :=
  fn_pure (fn_ok W.f_is_tree sc_is_tree (k := 0) fun cdv A outer s H E hgu hr =>
    js_one (js_ret (je_and (je_isi (t := .tuple) (je_var (i := 0)) W.n_isinstance W.n_tuple) (je_and (je_cmpD (opD_eq (u64 hr)) (je_B cd_len W.n_len (ja_cons (je_var (i := 0)) (ja_nil))) (je_var (i := 2))) (je_and (je_isi (t := .str) (je_ix (u1 hr) (je_var (i := 0)) (je_int)) W.n_isinstance W.n_str) (je_one (je_cmpD (opD_eq (u64 hr)) (je_ix (u1 hr) (je_var (i := 0)) (je_int)) (je_var (i := 1)))))))))
theorem b_is_tree (W : Facts P w T K mg fd) : Binds K (fd 10) ["value", "head", "size"] [] := W.f_is_tree.bindsN fun _ _ _ _ _ _ us hl => match us, hl with | [_, _, _], _ => rfl
theorem sc_is_word : FnScope ["value", "letter"] ["value"] (defScope (top 8)) := ⟨rfl, rfl, rfl, by decide +kernel, rfl, by decide +kernel, by decide +kernel⟩
theorem ok_is_word (W : Facts P w T K mg fd) : FnG P w K mg base CX0 1 (gloAt "is_word" K) (fd 11) ["value"] (spOf K T 1 F_is_word) :=
  fn_pure (fn_ok W.f_is_word sc_is_word (k := 0) fun cdv A outer s H E hgu hr =>
    js_cons (js_if (JW.t (jw_or (jt_not (jt_plain (je_isi (t := .str) (je_var (i := 0)) W.n_isinstance W.n_str))) (jw_or1 (jt_not (jt_chain opD_le opD_le opLe_bool (je_int) (je_B cd_len W.n_len (ja_cons (je_var (i := 0)) (ja_nil))) ((je_datum W.d_MAX_LETTERS))))))) (js_one (js_ret (je_bl))) (js_nil))
    (js_one (js_ret (je_B (cd_all rfl) W.n_all (ja_cons (je_comp (own := [("letter", 1)]) rfl sc_is_word.nd (ji_seq (je_var (i := 0))) (BlkOk.mk (N := ["value", "letter"]) (sc := defScope (top 8)) rfl (by decide +kernel) (by decide +kernel) (by decide +kernel) (by decide +kernel)) (fun _ _ _ _ _ => jg_name (i := 1) sc_is_word.nd) (fun _ _ _ _ _ => jts_nil) (fun _ _ _ _ _ => je_cmpD (opD_in (u65 hr)) (je_var (i := 1)) ((je_datum W.d_LETTERS)))) (ja_nil))))))
theorem b_is_word (W : Facts P w T K mg fd) : Binds K (fd 11) ["value"] [] := W.f_is_word.bindsN fun _ _ _ _ _ _ us hl => match us, hl with | [_], _ => rfl
theorem sc_is_integer : FnScope ["value"] ["value"] (defScope (top 7)) := ⟨rfl, rfl, rfl, by decide +kernel, rfl, by decide +kernel, by decide +kernel⟩
theorem ok_is_integer (W : Facts P w T K mg fd) : FnG P w K mg base CX0 1 (gloAt "is_integer" K) (fd 12) ["value"] (spOf K T 1 F_is_integer) :=
  fn_pure (fn_ok W.f_is_integer sc_is_integer (k := 0) fun cdv A outer s H E hgu hr =>
    js_one (js_ret (je_and (je_isi (t := .int) (je_var (i := 0)) W.n_isinstance W.n_int) (je_one (je_not (je_isi (t := .bool) (je_var (i := 0)) W.n_isinstance W.n_bool))))))
theorem b_is_integer (W : Facts P w T K mg fd) : Binds K (fd 12) ["value"] [] := W.f_is_integer.bindsN fun _ _ _ _ _ _ us hl => match us, hl with | [_], _ => rfl
theorem sc_is_value : FnScope ["value"] ["value"] (defScope (top 9)) := ⟨rfl, rfl, rfl, by decide +kernel, rfl, by decide +kernel, by decide +kernel⟩
theorem ok_is_value (W : Facts P w T K mg fd) : FnG P w K mg base CX0 2 (gloAt "is_value" K) (fd 13) ["value"] (spOf K T 1 F_is_value) :=
  fn_pure (fn_ok W.f_is_value sc_is_value (k := 1) fun cdv A outer s H E hgu hr =>
    js_one (js_ret (je_and (je_call (ok_is_integer W) hgu (hr.mono (by decide)) W.g_is_integer W.f_is_integer.kp (b_is_integer W) (ja_cons (je_var (i := 0)) (ja_nil))) (je_one (je_chain opD_le opD_le (je_neg ((je_datum W.d_MAX_VALUE))) (je_var (i := 0)) ((je_datum W.d_MAX_VALUE)))))))
theorem b_is_value (W : Facts P w T K mg fd) : Binds K (fd 13) ["value"] [] := W.f_is_value.bindsN fun _ _ _ _ _ _ us hl => match us, hl with | [_], _ => rfl
theorem sc_is_expression : FnScope ["value", "depth", "sign"] ["value", "depth"] (defScope (top 15)) := ⟨rfl, rfl, rfl, by decide +kernel, rfl, by decide +kernel, by decide +kernel⟩
theorem b_is_expression (W : Facts P w T K mg fd) : Binds K (fd 14) ["value", "depth"] [] := W.f_is_expression.bindsN fun _ _ _ _ _ _ us hl => match us, hl with | [_, _], _ => rfl
theorem okR_is_expression (W : Facts P w T K mg fd) : ∀ n : Nat, FnG P w K mg base CX0 (3 + n) (gloAt "is_expression" K) (fd 14) ["value", "depth"] (spOf K T 2 (R_is_expression n))
  | 0 => fn_bad
  | n + 1 => have ih := okR_is_expression W n
  fn_pure (fn_ok W.f_is_expression sc_is_expression (k := 3 + n) fun cdv A outer s H E hgu hr =>
    js_cons (js_if (jt_cmpD (opD_eq (u64 hr)) opEq_bool (je_var (i := 1)) (je_int)) (js_one (js_ret (je_bl))) (js_nil))
    (js_cons (js_if (jt_plain (je_call (ok_is_tree W) hgu (hr.mono (by omega)) W.g_is_tree W.f_is_tree.kp (b_is_tree W) (ja_cons (je_var (i := 0)) (ja_cons (je_str) (ja_cons (je_int) (ja_nil)))))) (js_one (js_ret (je_call (ok_is_value W) hgu (hr.mono (by omega)) W.g_is_value W.f_is_value.kp (b_is_value W) (ja_cons (je_ix (u1 hr) (je_var (i := 0)) (je_int)) (ja_nil))))) (js_nil))
    (js_cons (js_if (jt_plain (je_call (ok_is_tree W) hgu (hr.mono (by omega)) W.g_is_tree W.f_is_tree.kp (b_is_tree W) (ja_cons (je_var (i := 0)) (ja_cons (je_str) (ja_cons (je_int) (ja_nil)))))) (js_one (js_ret (je_call (ok_is_word W) hgu (hr.mono (by omega)) W.g_is_word W.f_is_word.kp (b_is_word W) (ja_cons (je_ix (u1 hr) (je_var (i := 0)) (je_int)) (ja_nil))))) (js_nil))
    (js_cons (js_if (jt_plain (je_B (cd_any rfl) W.n_any (ja_cons (je_comp (own := [("sign", 2)]) rfl sc_is_expression.nd (ji_seq ((je_datum W.d_SUMS))) (BlkOk.mk (N := ["value", "depth", "sign"]) (sc := defScope (top 15)) rfl (by decide +kernel) (by decide +kernel) (by decide +kernel) (by decide +kernel)) (fun _ _ _ _ _ => jg_name (i := 2) sc_is_expression.nd) (fun _ _ _ _ _ => jts_nil) (fun _ _ _ _ _ => je_call (ok_is_tree W) hgu (hr.mono (by omega)) W.g_is_tree W.f_is_tree.kp (b_is_tree W) (ja_cons (je_var (i := 0)) (ja_cons (je_var (i := 2)) (ja_cons (je_int) (ja_nil)))))) (ja_nil)))) (js_one (js_ret (je_and (je_call (ih) hgu (hr.mono (by omega)) W.g_is_expression W.f_is_expression.kp (b_is_expression W) (ja_cons (je_ix (u1 hr) (je_var (i := 0)) (je_int)) (ja_cons (je_bin opD_sub (je_var (i := 1)) (je_int)) (ja_nil)))) (je_one (je_call (ih) hgu (hr.mono (by omega)) W.g_is_expression W.f_is_expression.kp (b_is_expression W) (ja_cons (je_ix (u1 hr) (je_var (i := 0)) (je_int)) (ja_cons (je_bin opD_sub (je_var (i := 1)) (je_int)) (ja_nil)))))))) (js_nil))
    (js_one (js_ret (je_call (ok_is_tree W) hgu (hr.mono (by omega)) W.g_is_tree W.f_is_tree.kp (b_is_tree W) (ja_cons (je_var (i := 0)) (ja_cons (je_str) (ja_cons (je_int) (ja_nil)))))))))))
theorem ok_is_expression (W : Facts P w T K mg fd) : FnG P w K mg base CX0 15 (gloAt "is_expression" K) (fd 14) ["value", "depth"] (spOf K T 2 F_is_expression) := okR_is_expression W 12
theorem sc_is_condition : FnScope ["value", "depth", "sign", "word"] ["value", "depth"] (defScope (top 16)) := ⟨rfl, rfl, rfl, by decide +kernel, rfl, by decide +kernel, by decide +kernel⟩
theorem b_is_condition (W : Facts P w T K mg fd) : Binds K (fd 15) ["value", "depth"] [] := W.f_is_condition.bindsN fun _ _ _ _ _ _ us hl => match us, hl with | [_, _], _ => rfl
theorem okR_is_condition (W : Facts P w T K mg fd) : ∀ n : Nat, FnG P w K mg base CX0 (16 + n) (gloAt "is_condition" K) (fd 15) ["value", "depth"] (spOf K T 2 (R_is_condition n))
  | 0 => fn_bad
  | n + 1 => have ih := okR_is_condition W n
  fn_pure (fn_ok W.f_is_condition sc_is_condition (k := 16 + n) fun cdv A outer s H E hgu hr =>
    js_cons (js_if (jt_cmpD (opD_eq (u64 hr)) opEq_bool (je_var (i := 1)) (je_int)) (js_one (js_ret (je_bl))) (js_nil))
    (js_cons (js_if (jt_plain (je_B (cd_any rfl) W.n_any (ja_cons (je_comp (own := [("sign", 2)]) rfl sc_is_condition.nd (ji_seq ((je_datum W.d_COMPARISONS))) (BlkOk.mk (N := ["value", "depth", "sign", "word"]) (sc := defScope (top 16)) rfl (by decide +kernel) (by decide +kernel) (by decide +kernel) (by decide +kernel)) (fun _ _ _ _ _ => jg_name (i := 2) sc_is_condition.nd) (fun _ _ _ _ _ => jts_nil) (fun _ _ _ _ _ => je_call (ok_is_tree W) hgu (hr.mono (by omega)) W.g_is_tree W.f_is_tree.kp (b_is_tree W) (ja_cons (je_var (i := 0)) (ja_cons (je_var (i := 2)) (ja_cons (je_int) (ja_nil)))))) (ja_nil)))) (js_one (js_ret (je_and (je_call (ok_is_expression W) hgu (hr.mono (by omega)) W.g_is_expression W.f_is_expression.kp (b_is_expression W) (ja_cons (je_ix (u1 hr) (je_var (i := 0)) (je_int)) (ja_cons ((je_datum W.d_MAX_DEPTH)) (ja_nil)))) (je_one (je_call (ok_is_expression W) hgu (hr.mono (by omega)) W.g_is_expression W.f_is_expression.kp (b_is_expression W) (ja_cons (je_ix (u1 hr) (je_var (i := 0)) (je_int)) (ja_cons ((je_datum W.d_MAX_DEPTH)) (ja_nil)))))))) (js_nil))
    (js_cons (js_if (jt_plain (je_B (cd_any rfl) W.n_any (ja_cons (je_comp (own := [("word", 3)]) rfl sc_is_condition.nd (ji_seq ((je_datum W.d_JOINS))) (BlkOk.mk (N := ["value", "depth", "sign", "word"]) (sc := defScope (top 16)) rfl (by decide +kernel) (by decide +kernel) (by decide +kernel) (by decide +kernel)) (fun _ _ _ _ _ => jg_name (i := 3) sc_is_condition.nd) (fun _ _ _ _ _ => jts_nil) (fun _ _ _ _ _ => je_call (ok_is_tree W) hgu (hr.mono (by omega)) W.g_is_tree W.f_is_tree.kp (b_is_tree W) (ja_cons (je_var (i := 0)) (ja_cons (je_var (i := 3)) (ja_cons (je_int) (ja_nil)))))) (ja_nil)))) (js_one (js_ret (je_and (je_call (ih) hgu (hr.mono (by omega)) W.g_is_condition W.f_is_condition.kp (b_is_condition W) (ja_cons (je_ix (u1 hr) (je_var (i := 0)) (je_int)) (ja_cons (je_bin opD_sub (je_var (i := 1)) (je_int)) (ja_nil)))) (je_one (je_call (ih) hgu (hr.mono (by omega)) W.g_is_condition W.f_is_condition.kp (b_is_condition W) (ja_cons (je_ix (u1 hr) (je_var (i := 0)) (je_int)) (ja_cons (je_bin opD_sub (je_var (i := 1)) (je_int)) (ja_nil)))))))) (js_nil))
    (js_one (js_ret (je_and (je_call (ok_is_tree W) hgu (hr.mono (by omega)) W.g_is_tree W.f_is_tree.kp (b_is_tree W) (ja_cons (je_var (i := 0)) (ja_cons (je_str) (ja_cons (je_int) (ja_nil))))) (je_one (je_call (ih) hgu (hr.mono (by omega)) W.g_is_condition W.f_is_condition.kp (b_is_condition W) (ja_cons (je_ix (u1 hr) (je_var (i := 0)) (je_int)) (ja_cons (je_bin opD_sub (je_var (i := 1)) (je_int)) (ja_nil)))))))))))
theorem ok_is_condition (W : Facts P w T K mg fd) : FnG P w K mg base CX0 28 (gloAt "is_condition" K) (fd 15) ["value", "depth"] (spOf K T 2 F_is_condition) := okR_is_condition W 12
theorem sc_are_deeds : FnScope ["value", "ifs", "deed"] ["value", "ifs"] (defScope (top 17)) := ⟨rfl, rfl, rfl, by decide +kernel, rfl, by decide +kernel, by decide +kernel⟩
theorem b_are_deeds (W : Facts P w T K mg fd) : Binds K (fd 16) ["value", "ifs"] [] := W.f_are_deeds.bindsN fun _ _ _ _ _ _ us hl => match us, hl with | [_, _], _ => rfl
theorem sc_is_deed : FnScope ["value", "ifs", "is_key", "is_right"] ["value", "ifs"] (defScope (top 18)) := ⟨rfl, rfl, rfl, by decide +kernel, rfl, by decide +kernel, by decide +kernel⟩
theorem b_is_deed (W : Facts P w T K mg fd) : Binds K (fd 17) ["value", "ifs"] [] := W.f_is_deed.bindsN fun _ _ _ _ _ _ us hl => match us, hl with | [_, _], _ => rfl
theorem okR_is_deed (W : Facts P w T K mg fd) : ∀ n : Nat, FnG P w K mg base CX0 (29 + n) (gloAt "are_deeds" K) (fd 16) ["value", "ifs"] (spOf K T 2 (R_are_deeds n)) ∧ FnG P w K mg base CX0 (29 + n) (gloAt "is_deed" K) (fd 17) ["value", "ifs"] (spOf K T 2 (R_is_deed n))
  | 0 => ⟨fn_bad, fn_bad⟩
  | n + 1 => have ih := okR_is_deed W n
  ⟨fn_pure (fn_ok W.f_are_deeds sc_are_deeds (k := 29 + n) fun cdv A outer s H E hgu hr =>
    js_one (js_ret (je_and (je_isi (t := .tuple) (je_var (i := 0)) W.n_isinstance W.n_tuple) (je_one (je_B (cd_all rfl) W.n_all (ja_cons (je_comp (own := [("deed", 2)]) rfl sc_are_deeds.nd (ji_seq (je_var (i := 0))) (BlkOk.mk (N := ["value", "ifs", "deed"]) (sc := defScope (top 17)) rfl (by decide +kernel) (by decide +kernel) (by decide +kernel) (by decide +kernel)) (fun _ _ _ _ _ => jg_name (i := 2) sc_are_deeds.nd) (fun _ _ _ _ _ => jts_nil) (fun _ _ _ _ _ => je_call (ih.2) hgu (hr.mono (by omega)) W.g_is_deed W.f_is_deed.kp (b_is_deed W) (ja_cons (je_var (i := 2)) (ja_cons (je_var (i := 1)) (ja_nil))))) (ja_nil))))))),
  fn_pure (fn_ok W.f_is_deed sc_is_deed (k := 29 + n) fun cdv A outer s H E hgu hr =>
    js_cons (js_if (jt_plain (je_call (ok_is_tree W) hgu (hr.mono (by omega)) W.g_is_tree W.f_is_tree.kp (b_is_tree W) (ja_cons (je_var (i := 0)) (ja_cons (je_str) (ja_cons (je_int) (ja_nil)))))) (js_one (js_ret (je_and (je_call (ok_is_word W) hgu (hr.mono (by omega)) W.g_is_word W.f_is_word.kp (b_is_word W) (ja_cons (je_ix (u1 hr) (je_var (i := 0)) (je_int)) (ja_nil))) (je_one (je_call (ok_is_expression W) hgu (hr.mono (by omega)) W.g_is_expression W.f_is_expression.kp (b_is_expression W) (ja_cons (je_ix (u1 hr) (je_var (i := 0)) (je_int)) (ja_cons ((je_datum W.d_MAX_DEPTH)) (ja_nil)))))))) (js_nil))
    (js_cons (js_if (jt_plain (je_call (ok_is_tree W) hgu (hr.mono (by omega)) W.g_is_tree W.f_is_tree.kp (b_is_tree W) (ja_cons (je_var (i := 0)) (ja_cons (je_str) (ja_cons (je_int) (ja_nil)))))) (js_cons (js_set (i := 2) sc_is_deed.nd (je_or (je_isN (je_ix (u1 hr) (je_var (i := 0)) (je_int))) (je_one (je_call (ok_is_word W) hgu (hr.mono (by omega)) W.g_is_word W.f_is_word.kp (b_is_word W) (ja_cons (je_ix (u1 hr) (je_var (i := 0)) (je_int)) (ja_nil))))))
    (js_one (js_ret (je_and (je_call (ok_is_word W) hgu (hr.mono (by omega)) W.g_is_word W.f_is_word.kp (b_is_word W) (ja_cons (je_ix (u1 hr) (je_var (i := 0)) (je_int)) (ja_nil))) (je_and (je_var (i := 2)) (je_one (je_call (ok_is_expression W) hgu (hr.mono (by omega)) W.g_is_expression W.f_is_expression.kp (b_is_expression W) (ja_cons (je_ix (u1 hr) (je_var (i := 0)) (je_int)) (ja_cons ((je_datum W.d_MAX_DEPTH)) (ja_nil)))))))))) (js_nil))
    (js_cons (js_if (jt_plain (je_call (ok_is_tree W) hgu (hr.mono (by omega)) W.g_is_tree W.f_is_tree.kp (b_is_tree W) (ja_cons (je_var (i := 0)) (ja_cons (je_str) (ja_cons (je_int) (ja_nil)))))) (js_cons (js_set (i := 3) sc_is_deed.nd (je_and (je_cmpD opD_gt (je_var (i := 1)) (je_int)) (je_one (je_call (ok_is_condition W) hgu (hr.mono (by omega)) W.g_is_condition W.f_is_condition.kp (b_is_condition W) (ja_cons (je_ix (u1 hr) (je_var (i := 0)) (je_int)) (ja_cons ((je_datum W.d_MAX_DEPTH)) (ja_nil)))))))
    (js_one (js_ret (je_and (je_var (i := 3)) (je_and (je_call (ih.1) hgu (hr.mono (by omega)) W.g_are_deeds W.f_are_deeds.kp (b_are_deeds W) (ja_cons (je_ix (u1 hr) (je_var (i := 0)) (je_int)) (ja_cons (je_bin opD_sub (je_var (i := 1)) (je_int)) (ja_nil)))) (je_one (je_call (ih.1) hgu (hr.mono (by omega)) W.g_are_deeds W.f_are_deeds.kp (b_are_deeds W) (ja_cons (je_ix (u1 hr) (je_var (i := 0)) (je_int)) (ja_cons (je_bin opD_sub (je_var (i := 1)) (je_int)) (ja_nil)))))))))) (js_nil))
    (js_one (js_ret (je_call (ok_is_tree W) hgu (hr.mono (by omega)) W.g_is_tree W.f_is_tree.kp (b_is_tree W) (ja_cons (je_var (i := 0)) (ja_cons (je_str) (ja_cons (je_int) (ja_nil))))))))))⟩
theorem ok_are_deeds (W : Facts P w T K mg fd) : FnG P w K mg base CX0 41 (gloAt "are_deeds" K) (fd 16) ["value", "ifs"] (spOf K T 2 F_are_deeds) := (okR_is_deed W 12).1
theorem ok_is_deed (W : Facts P w T K mg fd) : FnG P w K mg base CX0 41 (gloAt "is_deed" K) (fd 17) ["value", "ifs"] (spOf K T 2 F_is_deed) := (okR_is_deed W 12).2
theorem sc_count_deeds : FnScope ["deeds", "inner", "deed"] ["deeds"] (defScope (top 19)) := ⟨rfl, rfl, rfl, by decide +kernel, rfl, by decide +kernel, by decide +kernel⟩
theorem b_count_deeds (W : Facts P w T K mg fd) : Binds K (fd 18) ["deeds"] [] := W.f_count_deeds.bindsN fun _ _ _ _ _ _ us hl => match us, hl with | [_], _ => rfl
theorem okR_count_deeds (W : Facts P w T K mg fd) : ∀ n : Nat, FnG P w K mg base CX0 (1 + n) (gloAt "count_deeds" K) (fd 18) ["deeds"] (spOf K T 1 (R_count_deeds n))
  | 0 => fn_bad
  | n + 1 => have ih := okR_count_deeds W n
  fn_pure (fn_ok W.f_count_deeds sc_count_deeds (k := 1 + n) fun cdv A outer s H E hgu hr =>
    js_cons (js_setComp (i := 1) (own := [("deed", 2)]) rfl sc_count_deeds.nd rfl (ji_seq (je_var (i := 0))) (BlkOk.mk (N := ["deeds", "inner", "deed"]) (sc := defScope (top 19)) rfl (by decide +kernel) (by decide +kernel) (by decide +kernel) (by decide +kernel)) (fun _ _ _ _ _ => jg_name (i := 2) sc_count_deeds.nd) (fun _ _ _ _ _ => jts_one (jt_cmpD (opD_eq (u64 hr)) opEq_bool (je_ix (u1 hr) (je_var (i := 2)) (je_int)) (je_str))) (fun _ _ _ _ _ => je_bin opD_add (je_call (ih) hgu (hr.mono (by omega)) W.g_count_deeds W.f_count_deeds.kp (b_count_deeds W) (ja_cons (je_ix (u1 hr) (je_var (i := 2)) (je_int)) (ja_nil))) (je_call (ih) hgu (hr.mono (by omega)) W.g_count_deeds W.f_count_deeds.kp (b_count_deeds W) (ja_cons (je_ix (u1 hr) (je_var (i := 2)) (je_int)) (ja_nil)))))
    (js_one (js_ret (je_bin opD_add (je_B cd_len W.n_len (ja_cons (je_var (i := 0)) (ja_nil))) (je_B (cd_sum rfl) W.n_sum (ja_cons (je_var (i := 1)) (ja_nil)))))))
theorem ok_count_deeds (W : Facts P w T K mg fd) : FnG P w K mg base CX0 13 (gloAt "count_deeds" K) (fd 18) ["deeds"] (spOf K T 1 F_count_deeds) := okR_count_deeds W 12
theorem sc_is_handler : FnScope ["value"] ["value"] (defScope (top 20)) := ⟨rfl, rfl, rfl, by decide +kernel, rfl, by decide +kernel, by decide +kernel⟩
theorem ok_is_handler (W : Facts P w T K mg fd) : FnG P w K mg base CX0 42 (gloAt "is_handler" K) (fd 19) ["value"] (spOf K T 1 F_is_handler) :=
  fn_pure (fn_ok W.f_is_handler sc_is_handler (k := 41) fun cdv A outer s H E hgu hr =>
    js_one (js_ret (je_and (je_call (ok_are_deeds W) hgu (hr.mono (by decide)) W.g_are_deeds W.f_are_deeds.kp (b_are_deeds W) (ja_cons (je_var (i := 0)) (ja_cons ((je_datum W.d_MAX_IFS)) (ja_nil)))) (je_one (je_cmpD opD_le (je_call (ok_count_deeds W) hgu (hr.mono (by decide)) W.g_count_deeds W.f_count_deeds.kp (b_count_deeds W) (ja_cons (je_var (i := 0)) (ja_nil))) ((je_datum W.d_MAX_DEEDS)))))))
theorem b_is_handler (W : Facts P w T K mg fd) : Binds K (fd 19) ["value"] [] := W.f_is_handler.bindsN fun _ _ _ _ _ _ us hl => match us, hl with | [_], _ => rfl
theorem sc__law_words : FnScope ["_law_pen_here", "_law_many", "_law_letters", "_law_stem", "_law_step", "_law_at", "_law_first", "_law_k"] ["_law_pen_here", "_law_many"] (defScope (top 25)) := ⟨rfl, rfl, rfl, by decide +kernel, rfl, by decide +kernel, by decide +kernel⟩
theorem ok__law_words (W : Facts P w T K mg fd) : FnG P w K mg base CX0 3 (gloAt "_law_words" K) (fd 20) ["_law_pen_here", "_law_many"] (spOf K T 2 F__law_words) :=
  fn_ok W.f__law_words sc__law_words (k := 2) fun cdv A outer s H E hgu hr =>
    js_cons (js_set (i := 2) sc__law_words.nd (je_str))
    (js_cons (js_set (i := 3) sc__law_words.nd (je_join (sep := []) (je_comp (own := [("_law_k", 7)]) rfl sc__law_words.nd (ji_range W.n_range (je_call (ok__law_draw W) hgu (hr.mono (by decide)) W.g__law_draw W.f__law_draw.kp (b__law_draw W) (ja_cons (je_var (i := 0)) (ja_cons (je_int) (ja_nil))))) (BlkOk.mk (N := ["_law_pen_here", "_law_many", "_law_letters", "_law_stem", "_law_step", "_law_at", "_law_first", "_law_k"]) (sc := defScope (top 25)) rfl (by decide +kernel) (by decide +kernel) (by decide +kernel) (by decide +kernel)) (fun _ _ _ _ _ => jg_name (i := 7) sc__law_words.nd) (fun _ _ _ _ _ => jts_nil) (fun _ _ _ _ _ => je_call (ok__law_pick W) hgu (hr.mono (by decide)) W.g__law_pick W.f__law_pick.kp (b__law_pick W) (ja_cons (je_var (i := 0)) (ja_cons (je_var (i := 2)) (ja_nil)))))))
    (js_cons (js_parN (is := [5, 6]) rfl sc__law_words.nd (ja_cons (je_call (ok__law_draw W) hgu (hr.mono (by decide)) W.g__law_draw W.f__law_draw.kp (b__law_draw W) (ja_cons (je_var (i := 0)) (ja_cons (je_bin opD_add (je_B cd_len W.n_len (ja_cons (je_var (i := 3)) (ja_nil))) (je_int)) (ja_nil)))) (ja_cons (je_call (ok__law_draw W) hgu (hr.mono (by decide)) W.g__law_draw W.f__law_draw.kp (b__law_draw W) (ja_cons (je_var (i := 0)) (ja_cons (je_int) (ja_nil)))) (ja_nil))) (.cons (i := 5) rfl (by first | exact .inl rfl | exact .inr rfl) (by first | exact .inl rfl | exact .inr rfl) (.cons (i := 6) rfl (by first | exact .inl rfl | exact .inr rfl) (by first | exact .inl rfl | exact .inr rfl) (.nil))))
    (js_cons (js_set (i := 4) sc__law_words.nd (je_call (ok__law_pick W) hgu (hr.mono (by decide)) W.g__law_pick W.f__law_pick.kp (b__law_pick W) (ja_cons (je_var (i := 0)) (ja_cons (je_lst (ja_cons (je_int) (ja_cons (je_int) (ja_cons (je_int) (ja_cons (je_int) (ja_cons (je_int) (ja_cons (je_int) (ja_cons (je_int) (ja_cons (je_int) (ja_cons (je_int) (ja_cons (je_int) (ja_cons (je_int) (ja_cons (je_int) (ja_nil)))))))))))))) (ja_nil)))))
    (js_one (js_ret (je_comp (own := [("_law_k", 7)]) rfl sc__law_words.nd (ji_range W.n_range (je_var (i := 1))) (BlkOk.mk (N := ["_law_pen_here", "_law_many", "_law_letters", "_law_stem", "_law_step", "_law_at", "_law_first", "_law_k"]) (sc := defScope (top 25)) rfl (by decide +kernel) (by decide +kernel) (by decide +kernel) (by decide +kernel)) (fun _ _ _ _ _ => jg_name (i := 7) sc__law_words.nd) (fun _ _ _ _ _ => jts_nil) (fun _ _ _ _ _ => je_bin opD_add (je_bin opD_add (je_sl (je_var (i := 3)) (jo_none) (jo_some (je_var (i := 5)))) (je_ix (u1 hr) (je_var (i := 2)) (je_bin opD_mod (je_BT cd_int W.n_int (ja_cons (je_bin opD_add (je_var (i := 6)) (je_bin opD_mul (je_var (i := 4)) (je_var (i := 7)))) (ja_nil))) (je_int)))) (je_sl (je_var (i := 3)) (jo_some (je_var (i := 5))) (jo_none)))))))))
theorem b__law_words (W : Facts P w T K mg fd) : Binds K (fd 20) ["_law_pen_here", "_law_many"] [] := W.f__law_words.bindsN fun _ _ _ _ _ _ us hl => match us, hl with | [_, _], _ => rfl
theorem sc__law_odd : FnScope ["_law_pen_here", "_law_some"] ["_law_pen_here"] (defScope (top 27)) := ⟨rfl, rfl, rfl, by decide +kernel, rfl, by decide +kernel, by decide +kernel⟩
theorem ok__law_odd (W : Facts P w T K mg fd) : FnG P w K mg base CX0 3 (gloAt "_law_odd" K) (fd 21) ["_law_pen_here"] (spOf K T 1 F__law_odd) :=
  fn_ok W.f__law_odd sc__law_odd (k := 2) fun cdv A outer s H E hgu hr =>
    js_cons (js_set (i := 1) sc__law_odd.nd (je_lstM (ja_cons (je_non) (ja_cons (je_bl) (ja_cons (je_bl) (ja_cons (je_int) (ja_cons (je_int) (ja_cons (je_neg (je_int)) (ja_cons (je_int) (ja_cons (je_int) (ja_cons (je_neg (je_int)) (ja_cons (je_bin opD_mul (je_bin opD_pow (je_int) (je_int)) (je_bin opD_pow (je_int) (je_int))) (ja_cons (je_str) (ja_cons (je_str) (ja_cons (je_str) (ja_cons (je_str) (ja_cons (je_str) (ja_cons (je_str) (ja_nil)))))))))))))))))))
    (js_cons (js_set (i := 1) sc__law_odd.nd (je_addM (je_var (i := 1)) (je_lst (ja_cons (je_tup (ja_nil)) (ja_cons (je_tup (ja_cons (je_str) (ja_nil))) (ja_cons (je_tup (ja_cons (je_str) (ja_nil))) (ja_cons (je_lst (ja_nil)) (ja_cons (je_lst (ja_cons (je_str) (ja_nil))) (ja_cons (je_dct0) (ja_cons (je_dct (.cons (je_str) (je_int) (.nil))) (ja_cons (je_tup (ja_cons (je_non) (ja_nil))) (ja_cons (je_tup (ja_cons (je_tup (ja_nil)) (ja_nil))) (ja_cons (je_tup (ja_cons (je_str) (ja_cons (je_int) (ja_nil)))) (ja_cons (je_tup (ja_cons (je_str) (ja_nil))) (ja_cons (je_lst (ja_cons (je_tup (ja_cons (je_str) (ja_nil))) (ja_nil))) (ja_nil))))))))))))))))
    (js_cons (js_expr (je_app (je_var (i := 1)) (je_str)))
    (js_one (js_ret (je_call (ok__law_pick W) hgu (hr.mono (by decide)) W.g__law_pick W.f__law_pick.kp (b__law_pick W) (ja_cons (je_var (i := 0)) (ja_cons (je_bin opD_add (je_var (i := 1)) (je_lst (ja_cons (je_tup (ja_cons (je_str) (ja_cons (je_str) (ja_nil)))) (ja_cons (je_tup (ja_cons (je_str) (ja_cons (je_str) (ja_cons (je_non) (ja_cons (je_tup (ja_cons (je_str) (ja_nil))) (ja_nil)))))) (ja_cons (je_tup (ja_cons (je_str) (ja_cons (je_str) (ja_cons (je_int) (ja_nil))))) (ja_cons (je_tup (ja_cons (je_tup (ja_cons (je_str) (ja_nil))) (ja_nil))) (ja_nil))))))) (ja_nil))))))))
theorem b__law_odd (W : Facts P w T K mg fd) : Binds K (fd 21) ["_law_pen_here"] [] := W.f__law_odd.bindsN fun _ _ _ _ _ _ us hl => match us, hl with | [_], _ => rfl
theorem sc__law_deep_e : FnScope ["_law_deep", "_law_word", "_law_found", "_law_k"] ["_law_deep", "_law_word"] (defScope (top 44)) := ⟨rfl, rfl, rfl, by decide +kernel, rfl, by decide +kernel, by decide +kernel⟩
theorem ok__law_deep_e (W : Facts P w T K mg fd) : FnG P w K mg base CX0 1 (gloAt "_law_deep_e" K) (fd 22) ["_law_deep", "_law_word"] (spOf K T 2 F__law_deep_e) :=
  fn_pure (fn_ok W.f__law_deep_e sc__law_deep_e (k := 0) fun cdv A outer s H E hgu hr =>
    js_cons (js_set (i := 2) sc__law_deep_e.nd (je_tup (ja_cons (je_str) (ja_nil))))
    (js_cons (js_for PassesOwn.never rfl (ji_range W.n_range (je_bin opD_sub (je_var (i := 0)) (je_int))) (jg_name (i := 3) sc__law_deep_e.nd) (js_one (js_set (i := 2) sc__law_deep_e.nd (je_if (jt_cmpD (opD_eq (u64 hr)) opEq_bool (je_bin opD_mod (je_BT cd_int W.n_int (ja_cons (je_var (i := 3)) (ja_nil))) (je_int)) (je_int)) (je_tup (ja_cons (je_var (i := 1)) (ja_cons (je_var (i := 2)) (ja_cons (je_tup (ja_cons (je_str) (ja_cons (je_int) (ja_nil)))) (ja_nil))))) (je_tup (ja_cons (je_var (i := 1)) (ja_cons (je_tup (ja_cons (je_str) (ja_cons (je_str) (ja_nil)))) (ja_cons (je_var (i := 2)) (ja_nil)))))))))
    (js_one (js_ret (je_var (i := 2))))))
theorem b__law_deep_e (W : Facts P w T K mg fd) : Binds K (fd 22) ["_law_deep", "_law_word"] [] := W.f__law_deep_e.bindsN fun _ _ _ _ _ _ us hl => match us, hl with | [_, _], _ => rfl
theorem sc__law_deep_c : FnScope ["_law_deep", "_law_word", "_law_found", "_law_k"] ["_law_deep", "_law_word"] (defScope (top 45)) := ⟨rfl, rfl, rfl, by decide +kernel, rfl, by decide +kernel, by decide +kernel⟩
theorem ok__law_deep_c (W : Facts P w T K mg fd) : FnG P w K mg base CX0 1 (gloAt "_law_deep_c" K) (fd 23) ["_law_deep", "_law_word"] (spOf K T 2 F__law_deep_c) :=
  fn_pure (fn_ok W.f__law_deep_c sc__law_deep_c (k := 0) fun cdv A outer s H E hgu hr =>
    js_cons (js_set (i := 2) sc__law_deep_c.nd (je_tup (ja_cons (je_str) (ja_cons (je_tup (ja_cons (je_str) (ja_nil))) (ja_cons (je_tup (ja_cons (je_str) (ja_cons (je_int) (ja_nil)))) (ja_nil))))))
    (js_cons (js_for PassesOwn.never rfl (ji_range W.n_range (je_bin opD_sub (je_var (i := 0)) (je_int))) (jg_name (i := 3) sc__law_deep_c.nd) (js_one (js_set (i := 2) sc__law_deep_c.nd (je_if (jt_cmpD (opD_eq (u64 hr)) opEq_bool (je_var (i := 1)) (je_str)) (je_tup (ja_cons (je_str) (ja_cons (je_var (i := 2)) (ja_nil)))) (je_tup (ja_cons (je_var (i := 1)) (ja_cons (je_tup (ja_cons (je_str) (ja_cons (je_tup (ja_cons (je_str) (ja_nil))) (ja_cons (je_tup (ja_cons (je_str) (ja_nil))) (ja_nil))))) (ja_cons (je_var (i := 2)) (ja_nil)))))))))
    (js_one (js_ret (je_var (i := 2))))))
theorem b__law_deep_c (W : Facts P w T K mg fd) : Binds K (fd 23) ["_law_deep", "_law_word"] [] := W.f__law_deep_c.bindsN fun _ _ _ _ _ _ us hl => match us, hl with | [_, _], _ => rfl
theorem sc__law_deep_ifs : FnScope ["_law_deep", "_law_found", "_law_k"] ["_law_deep"] (defScope (top 46)) := ⟨rfl, rfl, rfl, by decide +kernel, rfl, by decide +kernel, by decide +kernel⟩
theorem ok__law_deep_ifs (W : Facts P w T K mg fd) : FnG P w K mg base CX0 1 (gloAt "_law_deep_ifs" K) (fd 24) ["_law_deep"] (spOf K T 1 F__law_deep_ifs) :=
  fn_pure (fn_ok W.f__law_deep_ifs sc__law_deep_ifs (k := 0) fun cdv A outer s H E hgu hr =>
    js_cons (js_set (i := 1) sc__law_deep_ifs.nd (je_tup (ja_cons (je_tup (ja_cons (je_str) (ja_nil))) (ja_nil))))
    (js_cons (js_for PassesOwn.never rfl (ji_range W.n_range (je_var (i := 0))) (jg_name (i := 2) sc__law_deep_ifs.nd) (js_one (js_set (i := 1) sc__law_deep_ifs.nd (je_tup (ja_cons (je_tup (ja_cons (je_str) (ja_cons (je_tup (ja_cons (je_str) (ja_cons (je_tup (ja_cons (je_str) (ja_nil))) (ja_cons (je_tup (ja_cons (je_str) (ja_cons (je_int) (ja_nil)))) (ja_nil))))) (ja_cons (je_var (i := 1)) (ja_cons (je_tup (ja_nil)) (ja_nil)))))) (ja_nil))))))
    (js_one (js_ret (je_var (i := 1))))))
theorem b__law_deep_ifs (W : Facts P w T K mg fd) : Binds K (fd 24) ["_law_deep"] [] := W.f__law_deep_ifs.bindsN fun _ _ _ _ _ _ us hl => match us, hl with | [_], _ => rfl
theorem sc__law_at_limits : FnScope ["_law_pen_here", "_law_name", "_law_some", "_law_half", "_law_deep", "_law_word", "_law_e_here", "_law_c_here"] ["_law_pen_here"] (defScope (top 47)) := ⟨rfl, rfl, rfl, by decide +kernel, rfl, by decide +kernel, by decide +kernel⟩
theorem ok__law_at_limits (W : Facts P w T K mg fd) : FnG P w K mg base CX0 3 (gloAt "_law_at_limits" K) (fd 25) ["_law_pen_here"] (spOf K T 1 F__law_at_limits) :=
  fn_ok W.f__law_at_limits sc__law_at_limits (k := 2) fun cdv A outer s H E hgu hr =>
    js_cons (js_par (i := 4) (j := 5) rfl sc__law_at_limits.nd (ja_cons (je_call (ok__law_pick W) hgu (hr.mono (by decide)) W.g__law_pick W.f__law_pick.kp (b__law_pick W) (ja_cons (je_var (i := 0)) (ja_cons (je_lst (ja_cons (je_int) (ja_cons (je_int) (ja_cons (je_int) (ja_nil))))) (ja_nil)))) (ja_cons (je_call (ok__law_pick W) hgu (hr.mono (by decide)) W.g__law_pick W.f__law_pick.kp (b__law_pick W) (ja_cons (je_var (i := 0)) (ja_cons (je_lst (ja_cons (je_str) (ja_cons (je_str) (ja_cons (je_str) (ja_nil))))) (ja_nil)))) (ja_nil))))
    (js_cons (js_par (i := 6) (j := 7) rfl sc__law_at_limits.nd (ja_cons (je_call (ok__law_deep_e W) hgu (hr.mono (by decide)) W.g__law_deep_e W.f__law_deep_e.kp (b__law_deep_e W) (ja_cons (je_var (i := 4)) (ja_cons (je_var (i := 5)) (ja_nil)))) (ja_cons (je_call (ok__law_deep_c W) hgu (hr.mono (by decide)) W.g__law_deep_c W.f__law_deep_c.kp (b__law_deep_c W) (ja_cons (je_call (ok__law_pick W) hgu (hr.mono (by decide)) W.g__law_pick W.f__law_pick.kp (b__law_pick W) (ja_cons (je_var (i := 0)) (ja_cons (je_lst (ja_cons (je_int) (ja_cons (je_int) (ja_cons (je_int) (ja_nil))))) (ja_nil)))) (ja_cons (je_call (ok__law_pick W) hgu (hr.mono (by decide)) W.g__law_pick W.f__law_pick.kp (b__law_pick W) (ja_cons (je_var (i := 0)) (ja_cons (je_lst (ja_cons (je_str) (ja_cons (je_str) (ja_cons (je_str) (ja_nil))))) (ja_nil)))) (ja_nil)))) (ja_nil))))
    (js_cons (js_set (i := 1) sc__law_at_limits.nd (je_bin opD_mul (je_str) (je_call (ok__law_pick W) hgu (hr.mono (by decide)) W.g__law_pick W.f__law_pick.kp (b__law_pick W) (ja_cons (je_var (i := 0)) (ja_cons (je_lst (ja_cons (je_int) (ja_cons (je_int) (ja_cons (je_int) (ja_cons (je_int) (ja_nil)))))) (ja_nil))))))
    (js_cons (js_set (i := 2) sc__law_at_limits.nd (je_lstM (ja_cons (je_tup (ja_cons (je_tup (ja_cons (je_str) (ja_cons (je_var (i := 1)) (ja_cons (je_var (i := 6)) (ja_nil))))) (ja_nil))) (ja_cons (je_tup (ja_cons (je_tup (ja_cons (je_str) (ja_cons (je_var (i := 1)) (ja_cons (je_non) (ja_cons (je_var (i := 6)) (ja_nil)))))) (ja_nil))) (ja_cons (je_tup (ja_cons (je_tup (ja_cons (je_str) (ja_cons (je_str) (ja_cons (je_var (i := 1)) (ja_cons (je_tup (ja_cons (je_str) (ja_cons (je_int) (ja_nil)))) (ja_nil)))))) (ja_nil))) (ja_nil))))))
    (js_cons (js_set (i := 2) sc__law_at_limits.nd (je_addM (je_var (i := 2)) (je_lst (ja_cons (je_tup (ja_cons (je_tup (ja_cons (je_str) (ja_cons (je_var (i := 7)) (ja_cons (je_tup (ja_nil)) (ja_cons (je_tup (ja_nil)) (ja_nil)))))) (ja_nil))) (ja_cons (je_tup (ja_cons (je_tup (ja_cons (je_str) (ja_cons (je_tup (ja_cons (je_str) (ja_cons (je_var (i := 6)) (ja_cons (je_tup (ja_cons (je_str) (ja_nil))) (ja_nil))))) (ja_cons (je_tup (ja_cons (je_tup (ja_cons (je_str) (ja_nil))) (ja_nil))) (ja_cons (je_tup (ja_nil)) (ja_nil)))))) (ja_nil))) (ja_nil))))))
    (js_cons (js_set (i := 2) sc__law_at_limits.nd (je_addM (je_var (i := 2)) (je_lst (ja_cons (je_call (ok__law_deep_ifs W) hgu (hr.mono (by decide)) W.g__law_deep_ifs W.f__law_deep_ifs.kp (b__law_deep_ifs W) (ja_cons (je_call (ok__law_pick W) hgu (hr.mono (by decide)) W.g__law_pick W.f__law_pick.kp (b__law_pick W) (ja_cons (je_var (i := 0)) (ja_cons (je_lst (ja_cons (je_int) (ja_cons (je_int) (ja_cons (je_int) (ja_nil))))) (ja_nil)))) (ja_nil))) (ja_cons (je_bin opD_mul (je_tup (ja_cons (je_tup (ja_cons (je_str) (ja_nil))) (ja_nil))) (je_call (ok__law_pick W) hgu (hr.mono (by decide)) W.g__law_pick W.f__law_pick.kp (b__law_pick W) (ja_cons (je_var (i := 0)) (ja_cons (je_lst (ja_cons (je_int) (ja_cons (je_int) (ja_cons (je_int) (ja_nil))))) (ja_nil))))) (ja_nil))))))
    (js_cons (js_set (i := 3) sc__law_at_limits.nd (je_bin opD_mul (je_tup (ja_cons (je_tup (ja_cons (je_str) (ja_cons (je_str) (ja_cons (je_tup (ja_cons (je_str) (ja_nil))) (ja_nil))))) (ja_nil))) (je_call (ok__law_pick W) hgu (hr.mono (by decide)) W.g__law_pick W.f__law_pick.kp (b__law_pick W) (ja_cons (je_var (i := 0)) (ja_cons (je_lst (ja_cons (je_int) (ja_cons (je_int) (ja_nil)))) (ja_nil))))))
    (js_cons (js_expr (je_app (je_var (i := 2)) (je_bin opD_add (je_tup (ja_cons (je_tup (ja_cons (je_str) (ja_cons (je_var (i := 7)) (ja_cons (je_var (i := 3)) (ja_cons (je_var (i := 3)) (ja_nil)))))) (ja_nil))) (je_bin opD_mul (je_tup (ja_cons (je_tup (ja_cons (je_str) (ja_nil))) (ja_nil))) (je_call (ok__law_draw W) hgu (hr.mono (by decide)) W.g__law_draw W.f__law_draw.kp (b__law_draw W) (ja_cons (je_var (i := 0)) (ja_cons (je_int) (ja_nil))))))))
    (js_cons (js_expr (je_app (je_var (i := 2)) (je_tup (ja_cons (je_tup (ja_cons (je_str) (ja_cons (je_str) (ja_cons (je_tup (ja_cons (je_str) (ja_cons (je_call (ok__law_pick W) hgu (hr.mono (by decide)) W.g__law_pick W.f__law_pick.kp (b__law_pick W) (ja_cons (je_var (i := 0)) (ja_cons (je_lst (ja_cons (je_int) (ja_cons (je_int) (ja_cons (je_neg (je_int)) (ja_cons (je_neg (je_int)) (ja_cons (je_bl) (ja_cons (je_non) (ja_nil)))))))) (ja_nil)))) (ja_nil)))) (ja_nil))))) (ja_nil)))))
    (js_one (js_ret (je_call (ok__law_pick W) hgu (hr.mono (by decide)) W.g__law_pick W.f__law_pick.kp (b__law_pick W) (ja_cons (je_var (i := 0)) (ja_cons (je_var (i := 2)) (ja_nil))))))))))))))
theorem b__law_at_limits (W : Facts P w T K mg fd) : Binds K (fd 25) ["_law_pen_here"] [] := W.f__law_at_limits.bindsN fun _ _ _ _ _ _ us hl => match us, hl with | [_], _ => rfl
theorem sc__law_bent : FnScope ["_law_pen_here", "_law_thing", "_law_at", "_law_way"] ["_law_pen_here", "_law_thing"] (defScope (top 43)) := ⟨rfl, rfl, rfl, by decide +kernel, rfl, by decide +kernel, by decide +kernel⟩
theorem b__law_bent (W : Facts P w T K mg fd) : Binds K (fd 26) ["_law_pen_here", "_law_thing"] [] := W.f__law_bent.bindsN fun _ _ _ _ _ _ us hl => match us, hl with | [_, _], _ => rfl
theorem okR__law_bent (W : Facts P w T K mg fd) : ∀ n : Nat, FnG P w K mg base CX0 (4 + n) (gloAt "_law_bent" K) (fd 26) ["_law_pen_here", "_law_thing"] (spOf K T 2 (R__law_bent n))
  | 0 => fn_bad
  | n + 1 => have ih := okR__law_bent W n
  fn_ok W.f__law_bent sc__law_bent (k := 4 + n) fun cdv A outer s H E hgu hr =>
    js_cons (js_if (JW.t (jw_or (jt_not (jt_plain (je_isi (t := .tuple) (je_var (i := 1)) W.n_isinstance W.n_tuple))) (jw_or (jt_cmpD (opD_eq (u64 hr)) opEq_bool (je_B cd_len W.n_len (ja_cons (je_var (i := 1)) (ja_nil))) (je_int)) (jw_or1 (jt_cmpD (opD_eq (u64 hr)) opEq_bool (je_call (ok__law_draw W) hgu (hr.mono (by omega)) W.g__law_draw W.f__law_draw.kp (b__law_draw W) (ja_cons (je_var (i := 0)) (ja_cons (je_int) (ja_nil)))) (je_int)))))) (js_one (js_ret (je_call (ok__law_pick W) hgu (hr.mono (by omega)) W.g__law_pick W.f__law_pick.kp (b__law_pick W) (ja_cons (je_var (i := 0)) (ja_cons (je_lst (ja_cons (je_call (ok__law_odd W) hgu (hr.mono (by omega)) W.g__law_odd W.f__law_odd.kp (b__law_odd W) (ja_cons (je_var (i := 0)) (ja_nil))) (ja_cons (je_tup (ja_cons (je_var (i := 1)) (ja_nil))) (ja_cons (je_call (ok__law_odd W) hgu (hr.mono (by omega)) W.g__law_odd W.f__law_odd.kp (b__law_odd W) (ja_cons (je_var (i := 0)) (ja_nil))) (ja_nil))))) (ja_nil)))))) (js_nil))
    (js_cons (js_par (i := 2) (j := 3) rfl sc__law_bent.nd (ja_cons (je_call (ok__law_draw W) hgu (hr.mono (by omega)) W.g__law_draw W.f__law_draw.kp (b__law_draw W) (ja_cons (je_var (i := 0)) (ja_cons (je_B cd_len W.n_len (ja_cons (je_var (i := 1)) (ja_nil))) (ja_nil)))) (ja_cons (je_call (ok__law_draw W) hgu (hr.mono (by omega)) W.g__law_draw W.f__law_draw.kp (b__law_draw W) (ja_cons (je_var (i := 0)) (ja_cons (je_int) (ja_nil)))) (ja_nil))))
    (js_cons (js_if (jt_cmpD opD_lt opLt_bool (je_var (i := 3)) (je_int)) (js_one (js_ret (je_bin opD_add (je_bin opD_add (je_sl (je_var (i := 1)) (jo_none) (jo_some (je_var (i := 2)))) (je_tup (ja_cons (je_call (ih) hgu (hr.mono (by omega)) W.g__law_bent W.f__law_bent.kp (b__law_bent W) (ja_cons (je_var (i := 0)) (ja_cons (je_ix (u1 hr) (je_var (i := 1)) (je_var (i := 2))) (ja_nil)))) (ja_nil)))) (je_sl (je_var (i := 1)) (jo_some (je_bin opD_add (je_var (i := 2)) (je_int))) (jo_none))))) (js_nil))
    (js_cons (js_if (jt_cmpD (opD_eq (u64 hr)) opEq_bool (je_var (i := 3)) (je_int)) (js_one (js_ret (je_bin opD_add (je_sl (je_var (i := 1)) (jo_none) (jo_some (je_var (i := 2)))) (je_sl (je_var (i := 1)) (jo_some (je_bin opD_add (je_var (i := 2)) (je_int))) (jo_none))))) (js_nil))
    (js_cons (js_if (jt_cmpD (opD_eq (u64 hr)) opEq_bool (je_var (i := 3)) (je_int)) (js_one (js_ret (je_bin opD_add (je_sl (je_var (i := 1)) (jo_none) (jo_some (je_bin opD_add (je_var (i := 2)) (je_int)))) (je_sl (je_var (i := 1)) (jo_some (je_var (i := 2))) (jo_none))))) (js_nil))
    (js_one (js_ret (je_bin opD_add (je_bin opD_add (je_sl (je_var (i := 1)) (jo_none) (jo_some (je_var (i := 2)))) (je_rev (je_sl (je_var (i := 1)) (jo_some (je_var (i := 2))) (jo_some (je_bin opD_add (je_var (i := 2)) (je_int)))))) (je_sl (je_var (i := 1)) (jo_some (je_bin opD_add (je_var (i := 2)) (je_int))) (jo_none)))))))))
theorem ok__law_bent (W : Facts P w T K mg fd) : FnG P w K mg base CX0 44 (gloAt "_law_bent" K) (fd 26) ["_law_pen_here", "_law_thing"] (spOf K T 2 F__law_bent) := okR__law_bent W 40
theorem sc__law_has_head : FnScope ["_law_thing", "_law_heads", "_law_size"] ["_law_thing", "_law_heads", "_law_size"] (defScope (top 36)) := ⟨rfl, rfl, rfl, by decide +kernel, rfl, by decide +kernel, by decide +kernel⟩
theorem ok__law_has_head (W : Facts P w T K mg fd) : FnG P w K mg base CX0 1 (gloAt "_law_has_head" K) (fd 27) ["_law_thing", "_law_heads", "_law_size"] (spOf K T 3 F__law_has_head) :=
  fn_pure (fn_ok W.f__law_has_head sc__law_has_head (k := 0) fun cdv A outer s H E hgu hr =>
    js_one (js_ret (je_and (je_isi (t := .tuple) (je_var (i := 0)) W.n_isinstance W.n_tuple) (je_and (je_cmpD (opD_eq (u64 hr)) (je_B cd_len W.n_len (ja_cons (je_var (i := 0)) (ja_nil))) (je_var (i := 2))) (je_and (je_isi (t := .str) (je_ix (u1 hr) (je_var (i := 0)) (je_int)) W.n_isinstance W.n_str) (je_one (je_cmpD (opD_in (u65 hr)) (je_ix (u1 hr) (je_var (i := 0)) (je_int)) (je_var (i := 1)))))))))
theorem b__law_has_head (W : Facts P w T K mg fd) : Binds K (fd 27) ["_law_thing", "_law_heads", "_law_size"] [] := W.f__law_has_head.bindsN fun _ _ _ _ _ _ us hl => match us, hl with | [_, _, _], _ => rfl
theorem sc__law_is_number : FnScope ["_law_thing"] ["_law_thing"] (defScope (top 35)) := ⟨rfl, rfl, rfl, by decide +kernel, rfl, by decide +kernel, by decide +kernel⟩
theorem ok__law_is_number (W : Facts P w T K mg fd) : FnG P w K mg base CX0 1 (gloAt "_law_is_number" K) (fd 28) ["_law_thing"] (spOf K T 1 F__law_is_number) :=
  fn_pure (fn_ok W.f__law_is_number sc__law_is_number (k := 0) fun cdv A outer s H E hgu hr =>
    js_one (js_ret (je_and (je_isi (t := .int) (je_var (i := 0)) W.n_isinstance W.n_int) (je_and (je_not (je_isi (t := .bool) (je_var (i := 0)) W.n_isinstance W.n_bool)) (je_one (je_chain opD_le opD_le (je_neg (je_int)) (je_var (i := 0)) (je_int)))))))
theorem b__law_is_number (W : Facts P w T K mg fd) : Binds K (fd 28) ["_law_thing"] [] := W.f__law_is_number.bindsN fun _ _ _ _ _ _ us hl => match us, hl with | [_], _ => rfl
theorem sc__law_is_word : FnScope ["_law_thing", "_law_sign"] ["_law_thing"] (defScope (top 34)) := ⟨rfl, rfl, rfl, by decide +kernel, rfl, by decide +kernel, by decide +kernel⟩
theorem ok__law_is_word (W : Facts P w T K mg fd) : FnG P w K mg base CX0 1 (gloAt "_law_is_word" K) (fd 29) ["_law_thing"] (spOf K T 1 F__law_is_word) :=
  fn_pure (fn_ok W.f__law_is_word sc__law_is_word (k := 0) fun cdv A outer s H E hgu hr =>
    js_cons (js_if (JW.t (jw_or (jt_not (jt_plain (je_isi (t := .str) (je_var (i := 0)) W.n_isinstance W.n_str))) (jw_or1 (jt_not (jt_chain opD_lt opD_lt opLt_bool (je_int) (je_B cd_len W.n_len (ja_cons (je_var (i := 0)) (ja_nil))) (je_int)))))) (js_one (js_ret (je_bl))) (js_nil))
    (js_one (js_ret (je_cmpD (opD_eq (u64 hr)) (je_comp (own := [("_law_sign", 1)]) rfl sc__law_is_word.nd (ji_seq (je_var (i := 0))) (BlkOk.mk (N := ["_law_thing", "_law_sign"]) (sc := defScope (top 34)) rfl (by decide +kernel) (by decide +kernel) (by decide +kernel) (by decide +kernel)) (fun _ _ _ _ _ => jg_name (i := 1) sc__law_is_word.nd) (fun _ _ _ _ _ => jts_one (jt_cmpD (opD_notIn (u65 hr)) opNotIn_bool (je_var (i := 1)) (je_str))) (fun _ _ _ _ _ => je_var (i := 1))) (je_lst (ja_nil))))))
theorem b__law_is_word (W : Facts P w T K mg fd) : Binds K (fd 29) ["_law_thing"] [] := W.f__law_is_word.bindsN fun _ _ _ _ _ _ us hl => match us, hl with | [_], _ => rfl
theorem sc__law_is_e : FnScope ["_law_thing", "_law_deep"] ["_law_thing", "_law_deep"] (defScope (top 37)) := ⟨rfl, rfl, rfl, by decide +kernel, rfl, by decide +kernel, by decide +kernel⟩
theorem b__law_is_e (W : Facts P w T K mg fd) : Binds K (fd 30) ["_law_thing", "_law_deep"] [] := W.f__law_is_e.bindsN fun _ _ _ _ _ _ us hl => match us, hl with | [_, _], _ => rfl
theorem okR__law_is_e (W : Facts P w T K mg fd) : ∀ n : Nat, FnG P w K mg base CX0 (2 + n) (gloAt "_law_is_e" K) (fd 30) ["_law_thing", "_law_deep"] (spOf K T 2 (R__law_is_e n))
  | 0 => fn_bad
  | n + 1 => have ih := okR__law_is_e W n
  fn_pure (fn_ok W.f__law_is_e sc__law_is_e (k := 2 + n) fun cdv A outer s H E hgu hr =>
    js_cons (js_if (JW.t (jw_or (jt_cmpD (opD_eq (u64 hr)) opEq_bool (je_var (i := 1)) (je_int)) (jw_or (jt_not (jt_plain (je_isi (t := .tuple) (je_var (i := 0)) W.n_isinstance W.n_tuple))) (jw_or1 (jt_cmpD (opD_eq (u64 hr)) opEq_bool (je_B cd_len W.n_len (ja_cons (je_var (i := 0)) (ja_nil))) (je_int)))))) (js_one (js_ret (je_bl))) (js_nil))
    (js_cons (js_if (jt_plain (je_call (ok__law_has_head W) hgu (hr.mono (by omega)) W.g__law_has_head W.f__law_has_head.kp (b__law_has_head W) (ja_cons (je_var (i := 0)) (ja_cons (je_lst (ja_cons (je_str) (ja_nil))) (ja_cons (je_int) (ja_nil)))))) (js_one (js_ret (je_call (ok__law_is_number W) hgu (hr.mono (by omega)) W.g__law_is_number W.f__law_is_number.kp (b__law_is_number W) (ja_cons (je_ix (u1 hr) (je_var (i := 0)) (je_int)) (ja_nil))))) (js_nil))
    (js_cons (js_if (jt_plain (je_call (ok__law_has_head W) hgu (hr.mono (by omega)) W.g__law_has_head W.f__law_has_head.kp (b__law_has_head W) (ja_cons (je_var (i := 0)) (ja_cons (je_lst (ja_cons (je_str) (ja_nil))) (ja_cons (je_int) (ja_nil)))))) (js_one (js_ret (je_call (ok__law_is_word W) hgu (hr.mono (by omega)) W.g__law_is_word W.f__law_is_word.kp (b__law_is_word W) (ja_cons (je_ix (u1 hr) (je_var (i := 0)) (je_int)) (ja_nil))))) (js_nil))
    (js_cons (js_if (jt_plain (je_call (ok__law_has_head W) hgu (hr.mono (by omega)) W.g__law_has_head W.f__law_has_head.kp (b__law_has_head W) (ja_cons (je_var (i := 0)) (ja_cons (je_lst (ja_cons (je_str) (ja_cons (je_str) (ja_cons (je_str) (ja_nil))))) (ja_cons (je_int) (ja_nil)))))) (js_one (js_ret (je_and (je_call (ih) hgu (hr.mono (by omega)) W.g__law_is_e W.f__law_is_e.kp (b__law_is_e W) (ja_cons (je_ix (u1 hr) (je_var (i := 0)) (je_int)) (ja_cons (je_bin opD_sub (je_var (i := 1)) (je_int)) (ja_nil)))) (je_one (je_call (ih) hgu (hr.mono (by omega)) W.g__law_is_e W.f__law_is_e.kp (b__law_is_e W) (ja_cons (je_ix (u1 hr) (je_var (i := 0)) (je_int)) (ja_cons (je_bin opD_sub (je_var (i := 1)) (je_int)) (ja_nil)))))))) (js_nil))
    (js_one (js_ret (je_call (ok__law_has_head W) hgu (hr.mono (by omega)) W.g__law_has_head W.f__law_has_head.kp (b__law_has_head W) (ja_cons (je_var (i := 0)) (ja_cons (je_lst (ja_cons (je_str) (ja_nil))) (ja_cons (je_int) (ja_nil)))))))))))
theorem ok__law_is_e (W : Facts P w T K mg fd) : FnG P w K mg base CX0 14 (gloAt "_law_is_e" K) (fd 30) ["_law_thing", "_law_deep"] (spOf K T 2 F__law_is_e) := okR__law_is_e W 12
theorem sc__law_is_c : FnScope ["_law_thing", "_law_deep"] ["_law_thing", "_law_deep"] (defScope (top 38)) := ⟨rfl, rfl, rfl, by decide +kernel, rfl, by decide +kernel, by decide +kernel⟩
theorem b__law_is_c (W : Facts P w T K mg fd) : Binds K (fd 31) ["_law_thing", "_law_deep"] [] := W.f__law_is_c.bindsN fun _ _ _ _ _ _ us hl => match us, hl with | [_, _], _ => rfl
theorem okR__law_is_c (W : Facts P w T K mg fd) : ∀ n : Nat, FnG P w K mg base CX0 (15 + n) (gloAt "_law_is_c" K) (fd 31) ["_law_thing", "_law_deep"] (spOf K T 2 (R__law_is_c n))
  | 0 => fn_bad
  | n + 1 => have ih := okR__law_is_c W n
  fn_pure (fn_ok W.f__law_is_c sc__law_is_c (k := 15 + n) fun cdv A outer s H E hgu hr =>
    js_cons (js_if (jt_cmpD (opD_eq (u64 hr)) opEq_bool (je_var (i := 1)) (je_int)) (js_one (js_ret (je_bl))) (js_nil))
    (js_cons (js_if (jt_plain (je_call (ok__law_has_head W) hgu (hr.mono (by omega)) W.g__law_has_head W.f__law_has_head.kp (b__law_has_head W) (ja_cons (je_var (i := 0)) (ja_cons (je_lst (ja_cons (je_str) (ja_cons (je_str) (ja_nil)))) (ja_cons (je_int) (ja_nil)))))) (js_one (js_ret (je_and (je_call (ok__law_is_e W) hgu (hr.mono (by omega)) W.g__law_is_e W.f__law_is_e.kp (b__law_is_e W) (ja_cons (je_ix (u1 hr) (je_var (i := 0)) (je_int)) (ja_cons (je_int) (ja_nil)))) (je_one (je_call (ok__law_is_e W) hgu (hr.mono (by omega)) W.g__law_is_e W.f__law_is_e.kp (b__law_is_e W) (ja_cons (je_ix (u1 hr) (je_var (i := 0)) (je_int)) (ja_cons (je_int) (ja_nil)))))))) (js_nil))
    (js_cons (js_if (jt_plain (je_call (ok__law_has_head W) hgu (hr.mono (by omega)) W.g__law_has_head W.f__law_has_head.kp (b__law_has_head W) (ja_cons (je_var (i := 0)) (ja_cons (je_lst (ja_cons (je_str) (ja_cons (je_str) (ja_nil)))) (ja_cons (je_int) (ja_nil)))))) (js_one (js_ret (je_and (je_call (ih) hgu (hr.mono (by omega)) W.g__law_is_c W.f__law_is_c.kp (b__law_is_c W) (ja_cons (je_ix (u1 hr) (je_var (i := 0)) (je_int)) (ja_cons (je_bin opD_sub (je_var (i := 1)) (je_int)) (ja_nil)))) (je_one (je_call (ih) hgu (hr.mono (by omega)) W.g__law_is_c W.f__law_is_c.kp (b__law_is_c W) (ja_cons (je_ix (u1 hr) (je_var (i := 0)) (je_int)) (ja_cons (je_bin opD_sub (je_var (i := 1)) (je_int)) (ja_nil)))))))) (js_nil))
    (js_one (js_ret (je_and (je_call (ok__law_has_head W) hgu (hr.mono (by omega)) W.g__law_has_head W.f__law_has_head.kp (b__law_has_head W) (ja_cons (je_var (i := 0)) (ja_cons (je_lst (ja_cons (je_str) (ja_nil))) (ja_cons (je_int) (ja_nil))))) (je_one (je_call (ih) hgu (hr.mono (by omega)) W.g__law_is_c W.f__law_is_c.kp (b__law_is_c W) (ja_cons (je_ix (u1 hr) (je_var (i := 0)) (je_int)) (ja_cons (je_bin opD_sub (je_var (i := 1)) (je_int)) (ja_nil)))))))))))
theorem ok__law_is_c (W : Facts P w T K mg fd) : FnG P w K mg base CX0 27 (gloAt "_law_is_c" K) (fd 31) ["_law_thing", "_law_deep"] (spOf K T 2 F__law_is_c) := okR__law_is_c W 12
theorem sc__law_are_deeds : FnScope ["_law_thing", "_law_ifs", "_law_one"] ["_law_thing", "_law_ifs"] (defScope (top 40)) := ⟨rfl, rfl, rfl, by decide +kernel, rfl, by decide +kernel, by decide +kernel⟩
theorem b__law_are_deeds (W : Facts P w T K mg fd) : Binds K (fd 32) ["_law_thing", "_law_ifs"] [] := W.f__law_are_deeds.bindsN fun _ _ _ _ _ _ us hl => match us, hl with | [_, _], _ => rfl
theorem sc__law_is_deed : FnScope ["_law_thing", "_law_ifs"] ["_law_thing", "_law_ifs"] (defScope (top 39)) := ⟨rfl, rfl, rfl, by decide +kernel, rfl, by decide +kernel, by decide +kernel⟩
theorem b__law_is_deed (W : Facts P w T K mg fd) : Binds K (fd 33) ["_law_thing", "_law_ifs"] [] := W.f__law_is_deed.bindsN fun _ _ _ _ _ _ us hl => match us, hl with | [_, _], _ => rfl
theorem okR__law_is_deed (W : Facts P w T K mg fd) : ∀ n : Nat, FnG P w K mg base CX0 (28 + n) (gloAt "_law_are_deeds" K) (fd 32) ["_law_thing", "_law_ifs"] (spOf K T 2 (R__law_are_deeds n)) ∧ FnG P w K mg base CX0 (28 + n) (gloAt "_law_is_deed" K) (fd 33) ["_law_thing", "_law_ifs"] (spOf K T 2 (R__law_is_deed n))
  | 0 => ⟨fn_bad, fn_bad⟩
  | n + 1 => have ih := okR__law_is_deed W n
  ⟨fn_pure (fn_ok W.f__law_are_deeds sc__law_are_deeds (k := 28 + n) fun cdv A outer s H E hgu hr =>
    js_one (js_ret (je_and (je_isi (t := .tuple) (je_var (i := 0)) W.n_isinstance W.n_tuple) (je_one (je_cmpD (opD_eq (u64 hr)) (je_comp (own := [("_law_one", 2)]) rfl sc__law_are_deeds.nd (ji_seq (je_var (i := 0))) (BlkOk.mk (N := ["_law_thing", "_law_ifs", "_law_one"]) (sc := defScope (top 40)) rfl (by decide +kernel) (by decide +kernel) (by decide +kernel) (by decide +kernel)) (fun _ _ _ _ _ => jg_name (i := 2) sc__law_are_deeds.nd) (fun _ _ _ _ _ => jts_one (jt_not (jt_plain (je_call (ih.2) hgu (hr.mono (by omega)) W.g__law_is_deed W.f__law_is_deed.kp (b__law_is_deed W) (ja_cons (je_var (i := 2)) (ja_cons (je_var (i := 1)) (ja_nil))))))) (fun _ _ _ _ _ => je_var (i := 2))) (je_lst (ja_nil))))))),
  fn_pure (fn_ok W.f__law_is_deed sc__law_is_deed (k := 28 + n) fun cdv A outer s H E hgu hr =>
    js_cons (js_if (jt_plain (je_call (ok__law_has_head W) hgu (hr.mono (by omega)) W.g__law_has_head W.f__law_has_head.kp (b__law_has_head W) (ja_cons (je_var (i := 0)) (ja_cons (je_lst (ja_cons (je_str) (ja_nil))) (ja_cons (je_int) (ja_nil)))))) (js_one (js_ret (je_and (je_call (ok__law_is_word W) hgu (hr.mono (by omega)) W.g__law_is_word W.f__law_is_word.kp (b__law_is_word W) (ja_cons (je_ix (u1 hr) (je_var (i := 0)) (je_int)) (ja_nil))) (je_one (je_call (ok__law_is_e W) hgu (hr.mono (by omega)) W.g__law_is_e W.f__law_is_e.kp (b__law_is_e W) (ja_cons (je_ix (u1 hr) (je_var (i := 0)) (je_int)) (ja_cons (je_int) (ja_nil)))))))) (js_nil))
    (js_cons (js_if (jt_plain (je_call (ok__law_has_head W) hgu (hr.mono (by omega)) W.g__law_has_head W.f__law_has_head.kp (b__law_has_head W) (ja_cons (je_var (i := 0)) (ja_cons (je_lst (ja_cons (je_str) (ja_nil))) (ja_cons (je_int) (ja_nil)))))) (js_one (js_ret (je_and (je_call (ok__law_is_word W) hgu (hr.mono (by omega)) W.g__law_is_word W.f__law_is_word.kp (b__law_is_word W) (ja_cons (je_ix (u1 hr) (je_var (i := 0)) (je_int)) (ja_nil))) (je_and (je_or (je_isN (je_ix (u1 hr) (je_var (i := 0)) (je_int))) (je_one (je_call (ok__law_is_word W) hgu (hr.mono (by omega)) W.g__law_is_word W.f__law_is_word.kp (b__law_is_word W) (ja_cons (je_ix (u1 hr) (je_var (i := 0)) (je_int)) (ja_nil))))) (je_one (je_call (ok__law_is_e W) hgu (hr.mono (by omega)) W.g__law_is_e W.f__law_is_e.kp (b__law_is_e W) (ja_cons (je_ix (u1 hr) (je_var (i := 0)) (je_int)) (ja_cons (je_int) (ja_nil))))))))) (js_nil))
    (js_cons (js_if (JW.t (jw_and (jt_plain (je_call (ok__law_has_head W) hgu (hr.mono (by omega)) W.g__law_has_head W.f__law_has_head.kp (b__law_has_head W) (ja_cons (je_var (i := 0)) (ja_cons (je_lst (ja_cons (je_str) (ja_nil))) (ja_cons (je_int) (ja_nil)))))) (jw_and (jt_cmpD opD_gt opGt_bool (je_var (i := 1)) (je_int)) (jw_and1 (jt_plain (je_call (ok__law_is_c W) hgu (hr.mono (by omega)) W.g__law_is_c W.f__law_is_c.kp (b__law_is_c W) (ja_cons (je_ix (u1 hr) (je_var (i := 0)) (je_int)) (ja_cons (je_int) (ja_nil))))))))) (js_one (js_ret (je_and (je_call (ih.1) hgu (hr.mono (by omega)) W.g__law_are_deeds W.f__law_are_deeds.kp (b__law_are_deeds W) (ja_cons (je_ix (u1 hr) (je_var (i := 0)) (je_int)) (ja_cons (je_bin opD_sub (je_var (i := 1)) (je_int)) (ja_nil)))) (je_one (je_call (ih.1) hgu (hr.mono (by omega)) W.g__law_are_deeds W.f__law_are_deeds.kp (b__law_are_deeds W) (ja_cons (je_ix (u1 hr) (je_var (i := 0)) (je_int)) (ja_cons (je_bin opD_sub (je_var (i := 1)) (je_int)) (ja_nil)))))))) (js_nil))
    (js_one (js_ret (je_call (ok__law_has_head W) hgu (hr.mono (by omega)) W.g__law_has_head W.f__law_has_head.kp (b__law_has_head W) (ja_cons (je_var (i := 0)) (ja_cons (je_lst (ja_cons (je_str) (ja_nil))) (ja_cons (je_int) (ja_nil))))))))))⟩
theorem ok__law_are_deeds (W : Facts P w T K mg fd) : FnG P w K mg base CX0 40 (gloAt "_law_are_deeds" K) (fd 32) ["_law_thing", "_law_ifs"] (spOf K T 2 F__law_are_deeds) := (okR__law_is_deed W 12).1
theorem ok__law_is_deed (W : Facts P w T K mg fd) : FnG P w K mg base CX0 40 (gloAt "_law_is_deed" K) (fd 33) ["_law_thing", "_law_ifs"] (spOf K T 2 F__law_is_deed) := (okR__law_is_deed W 12).2
theorem sc__law_many_deeds : FnScope ["_law_deeds_here", "_law_one"] ["_law_deeds_here"] (defScope (top 41)) := ⟨rfl, rfl, rfl, by decide +kernel, rfl, by decide +kernel, by decide +kernel⟩
theorem b__law_many_deeds (W : Facts P w T K mg fd) : Binds K (fd 34) ["_law_deeds_here"] [] := W.f__law_many_deeds.bindsN fun _ _ _ _ _ _ us hl => match us, hl with | [_], _ => rfl
theorem okR__law_many_deeds (W : Facts P w T K mg fd) : ∀ n : Nat, FnG P w K mg base CX0 (1 + n) (gloAt "_law_many_deeds" K) (fd 34) ["_law_deeds_here"] (spOf K T 1 (R__law_many_deeds n))
  | 0 => fn_bad
  | n + 1 => have ih := okR__law_many_deeds W n
  fn_pure (fn_ok W.f__law_many_deeds sc__law_many_deeds (k := 1 + n) fun cdv A outer s H E hgu hr =>
    js_one (js_ret (je_B (cd_sum rfl) W.n_sum (ja_cons (je_comp (own := [("_law_one", 1)]) rfl sc__law_many_deeds.nd (ji_seq (je_var (i := 0))) (BlkOk.mk (N := ["_law_deeds_here", "_law_one"]) (sc := defScope (top 41)) rfl (by decide +kernel) (by decide +kernel) (by decide +kernel) (by decide +kernel)) (fun _ _ _ _ _ => jg_name (i := 1) sc__law_many_deeds.nd) (fun _ _ _ _ _ => jts_nil) (fun _ _ _ _ _ => je_if (jt_cmpD (opD_ne (u64 hr)) opNe_bool (je_ix (u1 hr) (je_var (i := 1)) (je_int)) (je_str)) (je_int) (je_bin opD_add (je_bin opD_add (je_int) (je_call (ih) hgu (hr.mono (by omega)) W.g__law_many_deeds W.f__law_many_deeds.kp (b__law_many_deeds W) (ja_cons (je_ix (u1 hr) (je_var (i := 1)) (je_int)) (ja_nil)))) (je_call (ih) hgu (hr.mono (by omega)) W.g__law_many_deeds W.f__law_many_deeds.kp (b__law_many_deeds W) (ja_cons (je_ix (u1 hr) (je_var (i := 1)) (je_int)) (ja_nil)))))) (ja_nil)))))
theorem ok__law_many_deeds (W : Facts P w T K mg fd) : FnG P w K mg base CX0 13 (gloAt "_law_many_deeds" K) (fd 34) ["_law_deeds_here"] (spOf K T 1 F__law_many_deeds) := okR__law_many_deeds W 12
theorem sc__law_is_handler : FnScope ["_law_thing"] ["_law_thing"] (defScope (top 42)) := ⟨rfl, rfl, rfl, by decide +kernel, rfl, by decide +kernel, by decide +kernel⟩
theorem ok__law_is_handler (W : Facts P w T K mg fd) : FnG P w K mg base CX0 41 (gloAt "_law_is_handler" K) (fd 35) ["_law_thing"] (spOf K T 1 F__law_is_handler) :=
  fn_pure (fn_ok W.f__law_is_handler sc__law_is_handler (k := 40) fun cdv A outer s H E hgu hr =>
    js_one (js_ret (je_and (je_call (ok__law_are_deeds W) hgu (hr.mono (by decide)) W.g__law_are_deeds W.f__law_are_deeds.kp (b__law_are_deeds W) (ja_cons (je_var (i := 0)) (ja_cons (je_int) (ja_nil)))) (je_one (je_cmpD opD_lt (je_call (ok__law_many_deeds W) hgu (hr.mono (by decide)) W.g__law_many_deeds W.f__law_many_deeds.kp (b__law_many_deeds W) (ja_cons (je_var (i := 0)) (ja_nil))) (je_int))))))
theorem b__law_is_handler (W : Facts P w T K mg fd) : Binds K (fd 35) ["_law_thing"] [] := W.f__law_is_handler.bindsN fun _ _ _ _ _ _ us hl => match us, hl with | [_], _ => rfl
theorem sc_law : FnScope ["_law_script", "_law_pen_here", "_law_turn", "_law_handler_here", "_law_tried", "_law_again", "_law_thing", "_law_bent_here"] ["_law_script"] (defScope (top 48)) := ⟨rfl, rfl, rfl, by decide +kernel, rfl, by decide +kernel, by decide +kernel⟩
theorem ok_law (W : Facts P w T K mg fd) : FnG P w K mg base CX0 45 (gloAt "law" K) (fd 36) ["_law_script"] (spOf K T 1 F_law) :=
  fn_ok W.f_law sc_law (k := 44) fun cdv A outer s H E hgu hr =>
    js_cons (js_set (i := 1) sc_law.nd (je_call (ok__law_pen W) hgu (hr.mono (by decide)) W.g__law_pen W.f__law_pen.kp (b__law_pen W) (ja_cons (je_var (i := 0)) (ja_nil))))
    (js_cons (js_for PassesOwn.never rfl (ji_range W.n_range (je_int)) (jg_name (i := 2) sc_law.nd) (js_cons (js_set (i := 3) sc_law.nd (je_call (ok__law_handler W) hgu (hr.mono (by decide)) W.g__law_handler W.f__law_handler.kp (b__law_handler W) (ja_cons (je_var (i := 1)) (ja_cons (je_call (ok__law_words W) hgu (hr.mono (by decide)) W.g__law_words W.f__law_words.kp (b__law_words W) (ja_cons (je_var (i := 1)) (ja_cons (je_int) (ja_nil)))) (ja_cons (je_call (ok__law_words W) hgu (hr.mono (by decide)) W.g__law_words W.f__law_words.kp (b__law_words W) (ja_cons (je_var (i := 1)) (ja_cons (je_int) (ja_nil)))) (ja_cons (je_call (ok__law_words W) hgu (hr.mono (by decide)) W.g__law_words W.f__law_words.kp (b__law_words W) (ja_cons (je_var (i := 1)) (ja_cons (je_int) (ja_nil)))) (ja_cons (je_int) (ja_nil))))))))
    (js_cons (js_set (i := 4) sc_law.nd (je_lst (ja_cons (je_var (i := 3)) (ja_cons (je_call (ok__law_odd W) hgu (hr.mono (by decide)) W.g__law_odd W.f__law_odd.kp (b__law_odd W) (ja_cons (je_var (i := 1)) (ja_nil))) (ja_cons (je_call (ok__law_at_limits W) hgu (hr.mono (by decide)) W.g__law_at_limits W.f__law_at_limits.kp (b__law_at_limits W) (ja_cons (je_var (i := 1)) (ja_nil))) (ja_cons (je_BT cd_list W.n_list (ja_cons (je_var (i := 3)) (ja_nil))) (ja_nil)))))))
    (js_cons (js_for PassesOwn.never rfl (ji_range W.n_range (je_int)) (jg_name (i := 5) sc_law.nd) (js_cons (js_set (i := 7) sc_law.nd (je_call (ok__law_bent W) hgu (hr.mono (by decide)) W.g__law_bent W.f__law_bent.kp (b__law_bent W) (ja_cons (je_var (i := 1)) (ja_cons (je_call (ok__law_pick W) hgu (hr.mono (by decide)) W.g__law_pick W.f__law_pick.kp (b__law_pick W) (ja_cons (je_var (i := 1)) (ja_cons (je_lst (ja_cons (je_var (i := 3)) (ja_cons (je_var (i := 3)) (ja_cons (je_call (ok__law_at_limits W) hgu (hr.mono (by decide)) W.g__law_at_limits W.f__law_at_limits.kp (b__law_at_limits W) (ja_cons (je_var (i := 1)) (ja_nil))) (ja_nil))))) (ja_nil)))) (ja_nil)))))
    (js_one (js_set (i := 4) sc_law.nd (je_bin opD_add (je_var (i := 4)) (je_lst (ja_cons (je_var (i := 7)) (ja_cons (je_call (ok__law_bent W) hgu (hr.mono (by decide)) W.g__law_bent W.f__law_bent.kp (b__law_bent W) (ja_cons (je_var (i := 1)) (ja_cons (je_var (i := 7)) (ja_nil)))) (ja_nil)))))))))
    (js_one (js_for PassesOwn.never rfl (ji_seq (je_var (i := 4))) (jg_name (i := 6) sc_law.nd) (js_one (js_if (jt_cmpD (opD_ne (u64 hr)) opNe_bool (je_B (cd_repr hgu (u66 hr)) W.n_repr (ja_cons (je_call (ok_is_handler W) hgu (hr.mono (by decide)) W.g_is_handler W.f_is_handler.kp (b_is_handler W) (ja_cons (je_var (i := 6)) (ja_nil))) (ja_nil))) (je_B (cd_repr hgu (u66 hr)) W.n_repr (ja_cons (je_call (ok__law_is_handler W) hgu (hr.mono (by decide)) W.g__law_is_handler W.f__law_is_handler.kp (b__law_is_handler W) (ja_cons (je_var (i := 6)) (ja_nil))) (ja_nil)))) (js_one (js_ret (je_bl))) (js_nil)))))))))
    (js_one (js_ret (je_cmpD opD_is (je_call (ok_is_handler W) hgu (hr.mono (by decide)) W.g_is_handler W.f_is_handler.kp (b_is_handler W) (ja_cons (je_tup (ja_nil)) (ja_nil))) (je_bl)))))
theorem b_law (W : Facts P w T K mg fd) : Binds K (fd 36) ["_law_script"] [] := W.f_law.bindsN fun _ _ _ _ _ _ us hl => match us, hl with | [_], _ => rfl
end
/-! ### the head -/
def ds : List DH := [⟨gloAt "_law_pen", "_law_pen", "_law_pen", defArgs (top 22), defBody (top 22), defScope (top 22)⟩,
  ⟨gloAt "_law_draw", "_law_draw", "_law_draw", defArgs (top 23), defBody (top 23), defScope (top 23)⟩,
  ⟨gloAt "_law_pick", "_law_pick", "_law_pick", defArgs (top 24), defBody (top 24), defScope (top 24)⟩,
  ⟨gloAt "_law_number", "_law_number", "_law_number", defArgs (top 26), defBody (top 26), defScope (top 26)⟩,
  ⟨gloAt "_law_leaf", "_law_leaf", "_law_leaf", defArgs (top 28), defBody (top 28), defScope (top 28)⟩,
  ⟨gloAt "_law_e", "_law_e", "_law_e", defArgs (top 29), defBody (top 29), defScope (top 29)⟩,
  ⟨gloAt "_law_c", "_law_c", "_law_c", defArgs (top 30), defBody (top 30), defScope (top 30)⟩,
  ⟨gloAt "_law_deeds", "_law_deeds", "_law_deeds", defArgs (top 32), defBody (top 32), defScope (top 32)⟩,
  ⟨gloAt "_law_deed", "_law_deed", "_law_deed", defArgs (top 31), defBody (top 31), defScope (top 31)⟩,
  ⟨gloAt "_law_handler", "_law_handler", "_law_handler", defArgs (top 33), defBody (top 33), defScope (top 33)⟩,
  ⟨gloAt "is_tree", "is_tree", "is_tree", defArgs (top 14), defBody (top 14), defScope (top 14)⟩,
  ⟨gloAt "is_word", "is_word", "is_word", defArgs (top 8), defBody (top 8), defScope (top 8)⟩,
  ⟨gloAt "is_integer", "is_integer", "is_integer", defArgs (top 7), defBody (top 7), defScope (top 7)⟩,
  ⟨gloAt "is_value", "is_value", "is_value", defArgs (top 9), defBody (top 9), defScope (top 9)⟩,
  ⟨gloAt "is_expression", "is_expression", "is_expression", defArgs (top 15), defBody (top 15), defScope (top 15)⟩,
  ⟨gloAt "is_condition", "is_condition", "is_condition", defArgs (top 16), defBody (top 16), defScope (top 16)⟩,
  ⟨gloAt "are_deeds", "are_deeds", "are_deeds", defArgs (top 17), defBody (top 17), defScope (top 17)⟩,
  ⟨gloAt "is_deed", "is_deed", "is_deed", defArgs (top 18), defBody (top 18), defScope (top 18)⟩,
  ⟨gloAt "count_deeds", "count_deeds", "count_deeds", defArgs (top 19), defBody (top 19), defScope (top 19)⟩,
  ⟨gloAt "is_handler", "is_handler", "is_handler", defArgs (top 20), defBody (top 20), defScope (top 20)⟩,
  ⟨gloAt "_law_words", "_law_words", "_law_words", defArgs (top 25), defBody (top 25), defScope (top 25)⟩,
  ⟨gloAt "_law_odd", "_law_odd", "_law_odd", defArgs (top 27), defBody (top 27), defScope (top 27)⟩,
  ⟨gloAt "_law_deep_e", "_law_deep_e", "_law_deep_e", defArgs (top 44), defBody (top 44), defScope (top 44)⟩,
  ⟨gloAt "_law_deep_c", "_law_deep_c", "_law_deep_c", defArgs (top 45), defBody (top 45), defScope (top 45)⟩,
  ⟨gloAt "_law_deep_ifs", "_law_deep_ifs", "_law_deep_ifs", defArgs (top 46), defBody (top 46), defScope (top 46)⟩,
  ⟨gloAt "_law_at_limits", "_law_at_limits", "_law_at_limits", defArgs (top 47), defBody (top 47), defScope (top 47)⟩,
  ⟨gloAt "_law_bent", "_law_bent", "_law_bent", defArgs (top 43), defBody (top 43), defScope (top 43)⟩,
  ⟨gloAt "_law_has_head", "_law_has_head", "_law_has_head", defArgs (top 36), defBody (top 36), defScope (top 36)⟩,
  ⟨gloAt "_law_is_number", "_law_is_number", "_law_is_number", defArgs (top 35), defBody (top 35), defScope (top 35)⟩,
  ⟨gloAt "_law_is_word", "_law_is_word", "_law_is_word", defArgs (top 34), defBody (top 34), defScope (top 34)⟩,
  ⟨gloAt "_law_is_e", "_law_is_e", "_law_is_e", defArgs (top 37), defBody (top 37), defScope (top 37)⟩,
  ⟨gloAt "_law_is_c", "_law_is_c", "_law_is_c", defArgs (top 38), defBody (top 38), defScope (top 38)⟩,
  ⟨gloAt "_law_are_deeds", "_law_are_deeds", "_law_are_deeds", defArgs (top 40), defBody (top 40), defScope (top 40)⟩,
  ⟨gloAt "_law_is_deed", "_law_is_deed", "_law_is_deed", defArgs (top 39), defBody (top 39), defScope (top 39)⟩,
  ⟨gloAt "_law_many_deeds", "_law_many_deeds", "_law_many_deeds", defArgs (top 41), defBody (top 41), defScope (top 41)⟩,
  ⟨gloAt "_law_is_handler", "_law_is_handler", "_law_is_handler", defArgs (top 42), defBody (top 42), defScope (top 42)⟩,
  ⟨gloAt "law", "law", "law", defArgs (top 48), defBody (top 48), defScope (top 48)⟩]
def fs : List Fc := [isGlo "_law_pen",
  isGlo "_law_draw",
  isGlo "_law_pick",
  isGlo "_law_number",
  isGlo "_law_leaf",
  isGlo "_law_e",
  isGlo "_law_c",
  isGlo "_law_deeds",
  isGlo "_law_deed",
  isGlo "_law_handler",
  isGlo "is_tree",
  isGlo "is_word",
  isGlo "is_integer",
  isGlo "is_value",
  isGlo "is_expression",
  isGlo "is_condition",
  isGlo "are_deeds",
  isGlo "is_deed",
  isGlo "count_deeds",
  isGlo "is_handler",
  isGlo "_law_words",
  isGlo "_law_odd",
  isGlo "_law_deep_e",
  isGlo "_law_deep_c",
  isGlo "_law_deep_ifs",
  isGlo "_law_at_limits",
  isGlo "_law_bent",
  isGlo "_law_has_head",
  isGlo "_law_is_number",
  isGlo "_law_is_word",
  isGlo "_law_is_e",
  isGlo "_law_is_c",
  isGlo "_law_are_deeds",
  isGlo "_law_is_deed",
  isGlo "_law_many_deeds",
  isGlo "_law_is_handler",
  isGlo "law",
  isFree "list",
  isFree "int",
  isFree "len",
  isFree "abs",
  isFree "range",
  isFree "tuple",
  isFree "isinstance",
  isFree "str",
  isFree "all",
  isFree "bool",
  isFree "any",
  isFree "sum",
  isFree "repr",
  isDat "MAX_LETTERS" (.int 6),
  isDat "LETTERS" (.str [97, 98, 99, 100, 101, 102, 103, 104, 105, 106, 107, 108, 109, 110, 111, 112, 113, 114, 115, 116, 117, 118, 119, 120, 121, 122]),
  isDat "MAX_VALUE" (.int 99),
  isDat "SUMS" (.tup [(.str [43]), (.str [45]), (.str [42])]),
  isDat "COMPARISONS" (.tup [(.str [60]), (.str [61])]),
  isDat "MAX_DEPTH" (.int 6),
  isDat "JOINS" (.tup [(.str [97, 110, 100]), (.str [111, 114])]),
  isDat "MAX_IFS" (.int 3),
  isDat "MAX_DEEDS" (.int 12)]
theorem facts {K : PySem.W.Frag} {h : Heap} {mg : Str → Option Value} {T : Tb} {P : Program} {w : World} (tw : T.w = w) (tp : T.P = P) (I : K.In h) (G : h.Ns mainGlobals mg) (c : obsV fs ds K = goodV ds) : ∃ fd : Nat → FuncData, Facts P w T K mg fd := by
  obtain ⟨d0, f0⟩ := said_def c 0
  obtain ⟨d1, f1⟩ := said_def c 1
  obtain ⟨d2, f2⟩ := said_def c 2
  obtain ⟨d3, f3⟩ := said_def c 3
  obtain ⟨d4, f4⟩ := said_def c 4
  obtain ⟨d5, f5⟩ := said_def c 5
  obtain ⟨d6, f6⟩ := said_def c 6
  obtain ⟨d7, f7⟩ := said_def c 7
  obtain ⟨d8, f8⟩ := said_def c 8
  obtain ⟨d9, f9⟩ := said_def c 9
  obtain ⟨d10, f10⟩ := said_def c 10
  obtain ⟨d11, f11⟩ := said_def c 11
  obtain ⟨d12, f12⟩ := said_def c 12
  obtain ⟨d13, f13⟩ := said_def c 13
  obtain ⟨d14, f14⟩ := said_def c 14
  obtain ⟨d15, f15⟩ := said_def c 15
  obtain ⟨d16, f16⟩ := said_def c 16
  obtain ⟨d17, f17⟩ := said_def c 17
  obtain ⟨d18, f18⟩ := said_def c 18
  obtain ⟨d19, f19⟩ := said_def c 19
  obtain ⟨d20, f20⟩ := said_def c 20
  obtain ⟨d21, f21⟩ := said_def c 21
  obtain ⟨d22, f22⟩ := said_def c 22
  obtain ⟨d23, f23⟩ := said_def c 23
  obtain ⟨d24, f24⟩ := said_def c 24
  obtain ⟨d25, f25⟩ := said_def c 25
  obtain ⟨d26, f26⟩ := said_def c 26
  obtain ⟨d27, f27⟩ := said_def c 27
  obtain ⟨d28, f28⟩ := said_def c 28
  obtain ⟨d29, f29⟩ := said_def c 29
  obtain ⟨d30, f30⟩ := said_def c 30
  obtain ⟨d31, f31⟩ := said_def c 31
  obtain ⟨d32, f32⟩ := said_def c 32
  obtain ⟨d33, f33⟩ := said_def c 33
  obtain ⟨d34, f34⟩ := said_def c 34
  obtain ⟨d35, f35⟩ := said_def c 35
  obtain ⟨d36, f36⟩ := said_def c 36
  exact ⟨fun i => [d0, d1, d2, d3, d4, d5, d6, d7, d8, d9, d10, d11, d12, d13, d14, d15, d16, d17, d18, d19, d20, d21, d22, d23, d24, d25, d26, d27, d28, d29, d30, d31, d32, d33, d34, d35, d36].getD i d0, tw, tp, f0,
    glo_of I G (said_fact c 0 (f := isGlo "_law_pen")),
    f1,
    glo_of I G (said_fact c 1 (f := isGlo "_law_draw")),
    f2,
    glo_of I G (said_fact c 2 (f := isGlo "_law_pick")),
    f3,
    glo_of I G (said_fact c 3 (f := isGlo "_law_number")),
    f4,
    glo_of I G (said_fact c 4 (f := isGlo "_law_leaf")),
    f5,
    glo_of I G (said_fact c 5 (f := isGlo "_law_e")),
    f6,
    glo_of I G (said_fact c 6 (f := isGlo "_law_c")),
    f7,
    glo_of I G (said_fact c 7 (f := isGlo "_law_deeds")),
    f8,
    glo_of I G (said_fact c 8 (f := isGlo "_law_deed")),
    f9,
    glo_of I G (said_fact c 9 (f := isGlo "_law_handler")),
    f10,
    glo_of I G (said_fact c 10 (f := isGlo "is_tree")),
    f11,
    glo_of I G (said_fact c 11 (f := isGlo "is_word")),
    f12,
    glo_of I G (said_fact c 12 (f := isGlo "is_integer")),
    f13,
    glo_of I G (said_fact c 13 (f := isGlo "is_value")),
    f14,
    glo_of I G (said_fact c 14 (f := isGlo "is_expression")),
    f15,
    glo_of I G (said_fact c 15 (f := isGlo "is_condition")),
    f16,
    glo_of I G (said_fact c 16 (f := isGlo "are_deeds")),
    f17,
    glo_of I G (said_fact c 17 (f := isGlo "is_deed")),
    f18,
    glo_of I G (said_fact c 18 (f := isGlo "count_deeds")),
    f19,
    glo_of I G (said_fact c 19 (f := isGlo "is_handler")),
    f20,
    glo_of I G (said_fact c 20 (f := isGlo "_law_words")),
    f21,
    glo_of I G (said_fact c 21 (f := isGlo "_law_odd")),
    f22,
    glo_of I G (said_fact c 22 (f := isGlo "_law_deep_e")),
    f23,
    glo_of I G (said_fact c 23 (f := isGlo "_law_deep_c")),
    f24,
    glo_of I G (said_fact c 24 (f := isGlo "_law_deep_ifs")),
    f25,
    glo_of I G (said_fact c 25 (f := isGlo "_law_at_limits")),
    f26,
    glo_of I G (said_fact c 26 (f := isGlo "_law_bent")),
    f27,
    glo_of I G (said_fact c 27 (f := isGlo "_law_has_head")),
    f28,
    glo_of I G (said_fact c 28 (f := isGlo "_law_is_number")),
    f29,
    glo_of I G (said_fact c 29 (f := isGlo "_law_is_word")),
    f30,
    glo_of I G (said_fact c 30 (f := isGlo "_law_is_e")),
    f31,
    glo_of I G (said_fact c 31 (f := isGlo "_law_is_c")),
    f32,
    glo_of I G (said_fact c 32 (f := isGlo "_law_are_deeds")),
    f33,
    glo_of I G (said_fact c 33 (f := isGlo "_law_is_deed")),
    f34,
    glo_of I G (said_fact c 34 (f := isGlo "_law_many_deeds")),
    f35,
    glo_of I G (said_fact c 35 (f := isGlo "_law_is_handler")),
    f36,
    glo_of I G (said_fact c 36 (f := isGlo "law")),
    free_of I G (said_fact c 37 (f := isFree "list")),
    free_of I G (said_fact c 38 (f := isFree "int")),
    free_of I G (said_fact c 39 (f := isFree "len")),
    free_of I G (said_fact c 40 (f := isFree "abs")),
    free_of I G (said_fact c 41 (f := isFree "range")),
    free_of I G (said_fact c 42 (f := isFree "tuple")),
    free_of I G (said_fact c 43 (f := isFree "isinstance")),
    free_of I G (said_fact c 44 (f := isFree "str")),
    free_of I G (said_fact c 45 (f := isFree "all")),
    free_of I G (said_fact c 46 (f := isFree "bool")),
    free_of I G (said_fact c 47 (f := isFree "any")),
    free_of I G (said_fact c 48 (f := isFree "sum")),
    free_of I G (said_fact c 49 (f := isFree "repr")),
    dat_of I G (said_fact c 50 (f := isDat "MAX_LETTERS" (.int 6))),
    dat_of I G (said_fact c 51 (f := isDat "LETTERS" (.str [97, 98, 99, 100, 101, 102, 103, 104, 105, 106, 107, 108, 109, 110, 111, 112, 113, 114, 115, 116, 117, 118, 119, 120, 121, 122]))),
    dat_of I G (said_fact c 52 (f := isDat "MAX_VALUE" (.int 99))),
    dat_of I G (said_fact c 53 (f := isDat "SUMS" (.tup [(.str [43]), (.str [45]), (.str [42])]))),
    dat_of I G (said_fact c 54 (f := isDat "COMPARISONS" (.tup [(.str [60]), (.str [61])]))),
    dat_of I G (said_fact c 55 (f := isDat "MAX_DEPTH" (.int 6))),
    dat_of I G (said_fact c 56 (f := isDat "JOINS" (.tup [(.str [97, 110, 100]), (.str [111, 114])]))),
    dat_of I G (said_fact c 57 (f := isDat "MAX_IFS" (.int 3))),
    dat_of I G (said_fact c 58 (f := isDat "MAX_DEEDS" (.int 12)))⟩
abbrev R : PySem.W.OpenRow := PySem.W.OpenLaw.row PySem.Challenge.rw_oncepost_k02_what_is_a_handler
abbrev hk : PySem.W.Hook := hookV 7 fs ds
def ob (s : PySem.W.SharedT) : Bool × List He.FnW := obsVG 7 fs ds (HandSHeadRun.getT s)
theorem ob_eq (s : PySem.W.SharedT) : ob s = hk.obs s.abs := obsVG_eq (HandSHeadRun.getT_eq s)
def names : List PySem.Str := [PySem.Str.ofString "MAX_LETTERS", PySem.Str.ofString "MAX_VALUE", PySem.Str.ofString "MAX_DEPTH", PySem.Str.ofString "MAX_DEEDS", PySem.Str.ofString "MAX_IFS", PySem.Str.ofString "__name__", PySem.Str.ofString "LETTERS", PySem.Str.ofString "is_integer", PySem.Str.ofString "is_word", PySem.Str.ofString "is_value", PySem.Str.ofString "SUMS", PySem.Str.ofString "COMPARISONS", PySem.Str.ofString "JOINS", PySem.Str.ofString "is_tree", PySem.Str.ofString "is_expression", PySem.Str.ofString "is_condition", PySem.Str.ofString "are_deeds", PySem.Str.ofString "is_deed", PySem.Str.ofString "count_deeds", PySem.Str.ofString "is_handler", PySem.Str.ofString "_law_pen", PySem.Str.ofString "_law_draw", PySem.Str.ofString "_law_pick", PySem.Str.ofString "_law_words", PySem.Str.ofString "_law_number", PySem.Str.ofString "_law_odd", PySem.Str.ofString "_law_leaf", PySem.Str.ofString "_law_e", PySem.Str.ofString "_law_c", PySem.Str.ofString "_law_deed", PySem.Str.ofString "_law_deeds", PySem.Str.ofString "_law_handler", PySem.Str.ofString "_law_is_word", PySem.Str.ofString "_law_is_number", PySem.Str.ofString "_law_has_head", PySem.Str.ofString "_law_is_e", PySem.Str.ofString "_law_is_c", PySem.Str.ofString "_law_is_deed", PySem.Str.ofString "_law_are_deeds", PySem.Str.ofString "_law_many_deeds", PySem.Str.ofString "_law_is_handler", PySem.Str.ofString "_law_bent", PySem.Str.ofString "_law_deep_e", PySem.Str.ofString "_law_deep_c", PySem.Str.ofString "_law_deep_ifs", PySem.Str.ofString "_law_at_limits"]
end K02
end Ev

set_option Elab.async false
set_option linter.all false
set_option maxRecDepth 100000
set_option maxHeartbeats 0
namespace Ev
namespace K02
open PySem PySem.Spec PyProof.Rows L2
theorem run (w : World) : HandSHeadRun.RunEq R (PySem.W.view R.prog [48]) hk ob 4000 names w := by
  intro os
  kernel_rfl
end K02
end Ev

set_option linter.all false
set_option maxRecDepth 100000
set_option maxHeartbeats 1000000
namespace Ev
section
variable {B L : Hs} {ρ : Sl} {a b : SE} {t u : ST} {S S1 S2 : SS} {k k' : Bool} {x y : D} {w w' : W}
theorem z_and (h : a B ρ L = .ok (.d (.bl k)) L) (h2 : k = true → b B ρ L = .ok (.d (.bl k')) L) : eAnd a b B ρ L = .ok (.d (.bl (k && k'))) L := by
  unfold eAnd Res.bind
  rw [h]
  cases k with
  | true => exact h2 rfl
  | false => rfl
theorem z_or (h : a B ρ L = .ok (.d (.bl k)) L) (h2 : k = false → b B ρ L = .ok (.d (.bl k')) L) : eOr a b B ρ L = .ok (.d (.bl (k || k'))) L := by
  unfold eOr Res.bind
  rw [h]
  cases k with
  | true => rfl
  | false => exact h2 rfl
theorem z_tAnd (h : t B ρ L = .ok k L) (h2 : k = true → u B ρ L = .ok k' L) : tAnd t u B ρ L = .ok (k && k') L := by
  unfold tAnd Res.bind
  rw [h]
  cases k with
  | true => exact h2 rfl
  | false => rfl
theorem z_tOr (h : t B ρ L = .ok k L) (h2 : k = false → u B ρ L = .ok k' L) : tOr t u B ρ L = .ok (k || k') L := by
  unfold tOr Res.bind
  rw [h]
  cases k with
  | true => rfl
  | false => exact h2 rfl
theorem z_if (h : t B ρ L = .ok k L) (h1 : k = true → a B ρ L = .ok (.d x) L) (h2 : k = false → b B ρ L = .ok (.d y) L) : eIf t a b B ρ L = .ok (.d (if k = true then x else y)) L := by
  unfold eIf Res.bind
  rw [h]
  cases k with
  | true => exact h1 rfl
  | false => exact h2 rfl
/-- if c: return a .. -/
theorem z_ret (ht : t B ρ L = .ok k L) (ha : k = true → a B ρ L = .ok (.d x) L) (hs : k = false → S B ρ L = .ret (.d y) L) : sSeq (sIf t (sRet a) sNil) S B ρ L = .ret (.d (if k = true then x else y)) L := by
  unfold sSeq sIf
  rw [ht]
  cases k with
  | true =>
    show (sRet a B ρ L).then _ = _
    unfold sRet
    rw [ha rfl]
    rfl
  | false => exact hs rfl
/-- if c: s; return a .. -/
theorem z_ret2 (ht : t B ρ L = .ok k L) (ha : k = true → S1 B ρ L = .ret (.d x) L) (hs : k = false → S B ρ L = .ret (.d y) L) : sSeq (sIf t S1 sNil) S B ρ L = .ret (.d (if k = true then x else y)) L := by
  unfold sSeq sIf
  rw [ht]
  cases k with
  | true =>
    show (S1 B ρ L).then _ = _
    rw [ha rfl]
    rfl
  | false => exact hs rfl
theorem x_pfn {np ns : Nat} {b : SS} {ws : List W} (hl : ws.length = np) (h : ∀ B', b B' (ws.map some ++ List.replicate (ns - np) none) [] = .ret (.d x) []) : pureFn (fnBody np ns b) ws B L = .ok (.d x) L :=
  x_pure (x_fn hl (h (B ++ L)) rfl) rfl
/-! comprehensions -/
theorem comp_map {i : Nat} {e : SE} {f : D → D} : ∀ (xs acc : List D), (∀ x ∈ xs, e B (ρ.set i (some (.d x))) L = .ok (.d (f x)) L) → acc.length + xs.length ≤ 16777216 → compGo (gVar i) tYes e B ρ xs acc L = .ok (acc ++ xs.map f) L
  | [], acc, _, _ => by rw [List.map_nil, List.append_nil]; rfl
  | x :: xs, acc, h, hl => by
    rw [List.length_cons] at hl
    show (gVar i (.d x) B ρ L).bind (fun ρ1 L1 => (tYes B ρ1 L1).bind fun k L2 => if k = true then (e B ρ1 L2).bind fun w L3 => (ownR B L3 w).bind fun y L4 => (guardR (decide (acc.length < sizeL)) L4).bind fun _ L4 => compGo (gVar i) tYes e B ρ xs (acc ++ [y]) L4 else compGo (gVar i) tYes e B ρ xs acc L2) = _
    show (e B (ρ.set i (some (.d x))) L).bind (fun w L3 => (ownR B L3 w).bind fun y L4 => (guardR (decide (acc.length < sizeL)) L4).bind fun _ L4 => compGo (gVar i) tYes e B ρ xs (acc ++ [y]) L4) = _
    rw [h x List.mem_cons_self]
    show (guardR (decide (acc.length < sizeL)) L).bind (fun _ L4 => compGo (gVar i) tYes e B ρ xs (acc ++ [f x]) L4) = _
    rw [decide_eq_true (show acc.length < sizeL by show _ < 16777216; omega)]
    show compGo (gVar i) tYes e B ρ xs (acc ++ [f x]) L = _
    rw [comp_map xs (acc ++ [f x]) (fun y hy => h y (List.mem_cons_of_mem _ hy)) (by rw [List.length_append]; show acc.length + 1 + _ ≤ _; omega), List.append_assoc]
    rfl
theorem comp_fil {i : Nat} {c : ST} {e : SE} {f : D → D} {p : D → Bool} : ∀ (xs acc : List D), (∀ x ∈ xs, c B (ρ.set i (some (.d x))) L = .ok (p x) L) → (∀ x ∈ xs, p x = true → e B (ρ.set i (some (.d x))) L = .ok (.d (f x)) L) → acc.length + xs.length ≤ 16777216 → compGo (gVar i) c e B ρ xs acc L = .ok (acc ++ (xs.filter p).map f) L
  | [], acc, _, _, _ => by rw [List.filter_nil, List.map_nil, List.append_nil]; rfl
  | x :: xs, acc, hc, h, hl => by
    rw [List.length_cons] at hl
    show (c B (ρ.set i (some (.d x))) L).bind (fun k L2 => if k = true then (e B (ρ.set i (some (.d x))) L2).bind fun w L3 => (ownR B L3 w).bind fun y L4 => (guardR (decide (acc.length < sizeL)) L4).bind fun _ L4 => compGo (gVar i) c e B ρ xs (acc ++ [y]) L4 else compGo (gVar i) c e B ρ xs acc L2) = _
    rw [hc x List.mem_cons_self]
    show (if p x = true then (e B (ρ.set i (some (.d x))) L).bind fun w L3 => (ownR B L3 w).bind fun y L4 => (guardR (decide (acc.length < sizeL)) L4).bind fun _ L4 => compGo (gVar i) c e B ρ xs (acc ++ [y]) L4 else compGo (gVar i) c e B ρ xs acc L) = _
    cases hp : p x with
    | true =>
      rw [if_pos rfl, h x List.mem_cons_self hp, List.filter_cons_of_pos hp]
      show (guardR (decide (acc.length < sizeL)) L).bind (fun _ L4 => compGo (gVar i) c e B ρ xs (acc ++ [f x]) L4) = _
      rw [decide_eq_true (show acc.length < sizeL by show _ < 16777216; omega)]
      show compGo (gVar i) c e B ρ xs (acc ++ [f x]) L = _
      rw [comp_fil xs (acc ++ [f x]) (fun y hy => hc y (List.mem_cons_of_mem _ hy)) (fun y hy => h y (List.mem_cons_of_mem _ hy)) (by rw [List.length_append]; show acc.length + 1 + _ ≤ _; omega), List.append_assoc]
      rfl
    | false =>
      rw [if_neg Bool.false_ne_true, List.filter_cons_of_neg (by rw [hp]; exact Bool.false_ne_true), comp_fil xs acc (fun y hy => hc y (List.mem_cons_of_mem _ hy)) (fun y hy => h y (List.mem_cons_of_mem _ hy)) (by omega)]
theorem x_comp {it : SI} {g : SG} {c : ST} {e : SE} {vs : List Nat} {xs ys : List D} {L1 L2 : Hs} (hi : it B ρ L = .ok xs L1) (hc : compGo g c e B (wipe ρ vs) xs [] L1 = .ok ys L2) : eComp it g c e vs B ρ L = .ok (.d (.lst ys)) L2 := by
  unfold eComp Res.bind
  rw [hi]
  dsimp only
  rw [hc]
end
theorem allB_map {f : D → Bool} : ∀ xs : List D, allB (xs.map fun x => .bl (f x)) = some (xs.map f)
  | [] => rfl
  | x :: xs => by
    show (match allB (xs.map fun x => .bl (f x)) with | some bs => some (f x :: bs) | none => none) = _
    rw [allB_map xs]
    rfl
theorem all_id {f : D → Bool} (xs : List D) : (xs.map f).all id = xs.all f := by rw [List.all_map]; rfl
namespace K02
/-! data that is looked at -/
mutual
def fine : D → Bool
  | .str s => s.all (· < 0x110000) && decide (s.length ≤ 1000)
  | .tup xs => decide (xs.length ≤ 1000) && fines xs
  | .non => true
  | .bl _ => true
  | .int _ => true
  | .lst _ => true
  | .dct _ _ => true
  | _ => false
def fines : List D → Bool
  | [] => true
  | x :: xs => fine x && fines xs
end
def isTup : D → Bool
  | .tup _ => true
  | _ => false
def isStr : D → Bool
  | .str _ => true
  | _ => false
def ln : D → Nat
  | .tup xs => xs.length
  | _ => 0
def it (v : D) (i : Nat) : D := match v with
  | .tup xs => xs.getD i .non
  | _ => .non
def deq (v : D) (s : List Nat) : Bool := match v with
  | .str t => decide (t = s)
  | _ => false
def tree (v : D) (h : List Nat) (n : Nat) : Bool := isTup v && (decide (ln v = n) && (isStr (it v 0) && deq (it v 0) h))
theorem fines_mem : ∀ {xs : List D} {x : D}, fines xs = true → x ∈ xs → fine x = true
  | y :: xs, x, h, hx => by
    have h : (fine y && fines xs) = true := h
    rw [Bool.and_eq_true] at h
    rcases List.mem_cons.mp hx with rfl | hx
    · exact h.1
    · exact fines_mem h.2 hx
theorem fine_tup {xs : List D} (h : fine (.tup xs) = true) : xs.length ≤ 1000 ∧ ∀ x ∈ xs, fine x = true := by
  have h : (decide (xs.length ≤ 1000) && fines xs) = true := h
  rw [Bool.and_eq_true, decide_eq_true_eq] at h
  exact ⟨h.1, fun x hx => fines_mem h.2 hx⟩
theorem fine_it {v : D} (h : fine v = true) (i : Nat) : fine (it v i) = true := by
  cases v with
  | tup xs =>
    show fine (xs.getD i .non) = true
    rw [List.getD_eq_getElem?_getD]
    cases e : xs[i]? with
    | none => rfl
    | some y => exact (fine_tup h).2 y (List.mem_of_getElem? e)
  | _ => rfl
theorem isi_tup {v : D} (h : fine v = true) : bIsi .tuple v = some (.bl (isTup v)) := by
  cases v <;> first | rfl | cases h
theorem isi_str {v : D} (h : fine v = true) : bIsi .str v = some (.bl (isStr v)) := by
  cases v <;> first | rfl | cases h
def isInt : D → Bool
  | .int _ => true
  | .bl _ => true
  | _ => false
def isBl : D → Bool
  | .bl _ => true
  | _ => false
theorem isi_int {v : D} (h : fine v = true) : bIsi .int v = some (.bl (isInt v)) := by
  cases v <;> first | rfl | cases h
theorem isi_bl {v : D} (h : fine v = true) : bIsi .bool v = some (.bl (isBl v)) := by
  cases v <;> first | rfl | cases h
theorem len_tup {v : D} (h : isTup v = true) : bLen [v] = some (.int (ln v)) := by
  cases v <;> first | rfl | cases h
theorem ix_tup {v : D} {i : Nat} (h : isTup v = true) (hi : i < ln v) : opIx v (.int i) = some (it v i) := by
  cases v with
  | tup xs =>
    show atI xs (i : Int) = some (xs.getD i .non)
    have hi : i < xs.length := hi
    unfold atI ixN
    rw [if_pos (by omega), if_pos (by omega)]
    show xs[((i : Int)).toNat]? = _
    rw [Int.toNat_natCast, List.getD_eq_getElem?_getD, List.getElem?_eq_getElem hi]
    rfl
  | _ => cases h
theorem eq_str {v : D} {s : List Nat} (h : isStr v = true) : opEq v (.str s) = some (.bl (deq v s)) := by
  cases v <;> first | rfl | cases h
theorem d_eqN (a b : Nat) : decide ((a : Int) = (b : Int)) = decide (a = b) := by
  rw [Bool.eq_iff_iff, decide_eq_true_eq, decide_eq_true_eq]
  omega
theorem tree_ok (v : D) (h : List Nat) (n : Nat) (hn : 0 < n) (hv : fine v = true) (B L : Hs) : F_is_tree [.d v, .d (.str h), .d (.int n)] B L = .ok (.d (.bl (tree v h n))) L := by
  unfold F_is_tree
  refine x_pfn rfl fun B' => x_ret (z_and (x_1 (x_var rfl) rfl (isi_tup hv)) fun h1 => z_and (x_2 (p := .int (ln v)) (q := .int n) (x_B (x_cons (x_var rfl) x_nil) (x_vcons rfl x_vnil) (len_tup h1)) (x_var rfl) rfl rfl ?_) fun h2 => ?_)
  · rw [← d_eqN]
    rfl
  · have h2 := of_decide_eq_true h2
    have i0 : opIx v (.int 0) = some (it v 0) := ix_tup (i := 0) h1 (by omega)
    refine z_and (x_1 (x_2 (x_var rfl) x_c rfl rfl i0) rfl (isi_str (fine_it hv 0))) fun h3 => ?_
    exact x_2 (x_2 (x_var rfl) x_c rfl rfl i0) (x_var rfl) rfl rfl (eq_str h3)
end K02
end Ev

set_option linter.all false
set_option maxRecDepth 100000
set_option maxHeartbeats 1000000
namespace Ev
section
variable {B L : Hs} {ρ : Sl} {a b c : SE} {t u : ST} {S S1 S2 : SS} {k k' p q : Bool} {x y z : D}
theorem z_retB (ht : t B ρ L = .ok k L) (ha : k = true → a B ρ L = .ok (.d (.bl p)) L) (hs : k = false → S B ρ L = .ret (.d (.bl q)) L) : sSeq (sIf t (sRet a) sNil) S B ρ L = .ret (.d (.bl (if k = true then p else q))) L := by
  rw [z_ret ht ha hs]
  cases k <;> rfl
theorem z_ret2B (ht : t B ρ L = .ok k L) (ha : k = true → S1 B ρ L = .ret (.d (.bl p)) L) (hs : k = false → S B ρ L = .ret (.d (.bl q)) L) : sSeq (sIf t S1 sNil) S B ρ L = .ret (.d (.bl (if k = true then p else q))) L := by
  rw [z_ret2 ht ha hs]
  cases k <;> rfl
theorem z_chain {op op' : D → D → Option D} (h : a B ρ L = .ok (.d x) L) (h2 : b B ρ L = .ok (.d y) L) (ho : op x y = some (.bl k)) (h3 : c B ρ L = .ok (.d z) L) (ho' : op' y z = some (.bl k')) : eChain op op' a b c B ρ L = .ok (.d (.bl (k && k'))) L := by
  refine x_chain h h2 rfl rfl ho ?_
  cases k with
  | true => exact br1 rfl ⟨_, _, h3, x_ch2 rfl rfl ho'⟩
  | false => exact br0 rfl rfl
end
namespace K02
def sVal : List Nat := [118, 97, 108, 117, 101]
def sRow : List Nat := [114, 111, 119]
def sBody : List Nat := [98, 111, 100, 121]
def sSet : List Nat := [115, 101, 116]
def sSend : List Nat := [115, 101, 110, 100]
def sIfS : List Nat := [105, 102]
def sFail : List Nat := [102, 97, 105, 108]
def sNot : List Nat := [110, 111, 116]
def letters : List Nat := [97, 98, 99, 100, 101, 102, 103, 104, 105, 106, 107, 108, 109, 110, 111, 112, 113, 114, 115, 116, 117, 118, 119, 120, 121, 122]
def inL : D → Bool
  | .str [c] => decide (c ∈ letters)
  | _ => false
def isW : D → Bool
  | .str s => (decide (1 ≤ s.length) && decide (s.length ≤ 6)) && s.all fun c => decide (c ∈ letters)
  | _ => false
theorem all_L (s : List Nat) : (s.map fun c => D.str [c]).all inL = s.all fun c => decide (c ∈ letters) := by rw [List.all_map]; rfl
theorem fine_str {s : List Nat} (h : fine (.str s) = true) : s.all (· < 0x110000) = true ∧ s.length ≤ 1000 := by
  have h : (s.all (· < 0x110000) && decide (s.length ≤ 1000)) = true := h
  rw [Bool.and_eq_true, decide_eq_true_eq] at h
  exact h
theorem len_str {s : List Nat} (h : s.length ≤ 1000) : bLen [.str s] = some (.int s.length) := by
  show (if s.length ≤ sizeL then some (D.int s.length) else none) = _
  rw [if_pos (by show _ ≤ 16777216; omega)]
theorem word_ok (v : D) (hv : fine v = true) (B L : Hs) : F_is_word [.d v] B L = .ok (.d (.bl (isW v))) L := by
  unfold F_is_word
  cases v with
  | str s =>
    obtain ⟨f1, f2⟩ := fine_str hv
    refine x_pfn rfl fun B' => ?_
    have e : isW (.str s) = (if (!true || !(decide ((1 : Int) ≤ s.length) && decide ((s.length : Int) ≤ 6))) = true then false else (s.map fun c => D.str [c]).all inL) := by
      rw [all_L]
      show ((decide (1 ≤ s.length) && decide (s.length ≤ 6)) && _) = _
      rw [show decide ((1 : Int) ≤ s.length) = decide (1 ≤ s.length) by rw [Bool.eq_iff_iff, decide_eq_true_eq, decide_eq_true_eq]; omega, show decide ((s.length : Int) ≤ 6) = decide (s.length ≤ 6) by rw [Bool.eq_iff_iff, decide_eq_true_eq, decide_eq_true_eq]; omega]
      cases decide (1 ≤ s.length) <;> cases decide (s.length ≤ 6) <;> rfl
    rw [e]
    refine z_retB (z_tOr (x_tNot (x_tE (x_1 (x_var rfl) rfl (isi_str hv)) rfl rfl)) fun _ => x_tNot (x_tE (z_chain x_c (x_B (x_cons (x_var rfl) x_nil) (x_vcons rfl x_vnil) (len_str f2)) rfl x_c rfl) rfl rfl)) (fun _ => x_c) fun _ => ?_
    refine x_ret (x_B (x_cons (x_comp (x_iE (x_var rfl) rfl rfl) (comp_map (f := fun x => .bl (inL x)) _ [] (fun x hx => ?_) ?_)) x_nil) (x_vcons rfl x_vnil) ?_)
    · obtain ⟨c, _, rfl⟩ := List.mem_map.mp hx
      exact x_2 (x_var rfl) x_c rfl rfl rfl
    · rw [List.length_map]; show 0 + _ ≤ _; omega
    · show (match allB ([] ++ (s.map fun c => D.str [c]).map fun x => D.bl (inL x)) with | some bs => some (D.bl (bs.all id)) | none => none) = _
      rw [List.nil_append, allB_map]
      show some (D.bl (((s.map fun c => D.str [c]).map inL).all id)) = _
      rw [all_id]
  | _ =>
    first
      | (cases hv; done)
      | exact x_pfn rfl fun B' => z_retB (k := true) (p := false) (q := false) (z_tOr (k := true) (k' := false) (x_tNot (k := false) (x_tE (x_1 (x_var rfl) rfl rfl) rfl rfl)) (fun z => by cases z)) (fun _ => x_c) (fun z => by cases z)
theorem okStrs (s : List Nat) (h : s.all (· < 0x110000) = true) (p : D → Bool) : okD (.lst ((s.map fun c => D.str [c]).filter p)) = true := by
  have h1 : ∀ x ∈ (s.map fun c => D.str [c]).filter p, dOk x = true ∧ dep x = 0 := fun x hx => by
    obtain ⟨hx, _⟩ := List.mem_filter.mp hx
    obtain ⟨c, hc, rfl⟩ := List.mem_map.mp hx
    refine ⟨?_, rfl⟩
    show ([c].all (· < 0x110000)) = true
    have := List.all_eq_true.mp h c hc
    simp only [List.all_cons, List.all_nil, Bool.and_true]
    exact this
  generalize (s.map fun c => D.str [c]).filter p = l at h1
  have h2 : dOks l = true ∧ deps l = 0 := by
    induction l with
    | nil => exact ⟨rfl, rfl⟩
    | cons x l ih =>
      obtain ⟨a1, a2⟩ := h1 x List.mem_cons_self
      obtain ⟨b1, b2⟩ := ih fun y hy => h1 y (List.mem_cons_of_mem _ hy)
      refine ⟨?_, ?_⟩
      · show (dOk x && dOks l) = true
        rw [a1, b1]; rfl
      · show max (dep x) (deps l) = 0
        rw [a2, b2]; rfl
  show (dOks l && decide (deps l + 1 ≤ 64)) = true
  rw [h2.1, h2.2]
  rfl
theorem eq_nil {l : List D} (h : okD (.lst l) = true) : opEq (.lst l) (.lst []) = some (.bl l.isEmpty) := by
  rw [o_eq (by rw [h]; rfl)]
  cases l <;> rfl
theorem fil_empty (p : D → Bool) (l : List D) : (l.filter fun x => !p x).isEmpty = l.all p := by
  induction l with
  | nil => rfl
  | cons x l ih =>
    cases h : p x with
    | true => rw [List.filter_cons_of_neg (by rw [h]; decide), ih, List.all_cons, h]; rfl
    | false => rw [List.filter_cons_of_pos (by rw [h]; rfl), List.all_cons, h]; rfl
theorem lword_ok (v : D) (hv : fine v = true) (B L : Hs) : F__law_is_word [.d v] B L = .ok (.d (.bl (isW v))) L := by
  unfold F__law_is_word
  cases v with
  | str s =>
    obtain ⟨f1, f2⟩ := fine_str hv
    refine x_pfn rfl fun B' => ?_
    have e : isW (.str s) = (if (!true || !(decide ((0 : Int) < s.length) && decide ((s.length : Int) < 7))) = true then false else ((s.map fun c => D.str [c]).filter fun x => !inL x).isEmpty) := by
      rw [fil_empty, all_L]
      show ((decide (1 ≤ s.length) && decide (s.length ≤ 6)) && _) = _
      rw [show decide ((0 : Int) < s.length) = decide (1 ≤ s.length) by rw [Bool.eq_iff_iff, decide_eq_true_eq, decide_eq_true_eq]; omega, show decide ((s.length : Int) < 7) = decide (s.length ≤ 6) by rw [Bool.eq_iff_iff, decide_eq_true_eq, decide_eq_true_eq]; omega]
      cases decide (1 ≤ s.length) <;> cases decide (s.length ≤ 6) <;> rfl
    rw [e]
    refine z_retB (z_tOr (x_tNot (x_tE (x_1 (x_var rfl) rfl (isi_str hv)) rfl rfl)) fun _ => x_tNot (x_tE (z_chain x_c (x_B (x_cons (x_var rfl) x_nil) (x_vcons rfl x_vnil) (len_str f2)) rfl x_c rfl) rfl rfl)) (fun _ => x_c) fun _ => ?_
    refine x_ret (x_2 (p := .lst ((s.map fun c => D.str [c]).filter fun x => !inL x)) (x_comp (x_iE (x_var rfl) rfl rfl) (comp_fil (f := fun x => x) (p := fun x => !inL x) _ [] (fun x hx => ?_) (fun x _ _ => x_var rfl) ?_)) (x_lst x_nil rfl (by decide)) ?_ rfl (eq_nil (okStrs s f1 _)))
    · obtain ⟨c, _, rfl⟩ := List.mem_map.mp hx
      exact x_tE (x_2 (x_var rfl) x_c rfl rfl rfl) rfl rfl
    · rw [List.length_map]; show 0 + _ ≤ _; omega
    · rw [List.nil_append, List.map_id']
      rfl
  | _ =>
    first
      | (cases hv; done)
      | exact x_pfn rfl fun B' => z_retB (k := true) (p := false) (q := false) (z_tOr (k := true) (k' := false) (x_tNot (k := false) (x_tE (x_1 (x_var rfl) rfl rfl) rfl rfl)) (fun z => by cases z)) (fun _ => x_c) (fun z => by cases z)
def rng : D → Bool
  | .int i => decide (-99 ≤ i) && decide (i ≤ 99)
  | _ => false
def isV (v : D) : Bool := (isInt v && !isBl v) && rng v
theorem integer_ok (v : D) (hv : fine v = true) (B L : Hs) : F_is_integer [.d v] B L = .ok (.d (.bl (isInt v && !isBl v))) L := by
  unfold F_is_integer
  exact x_pfn rfl fun B' => x_ret (z_and (x_1 (x_var rfl) rfl (isi_int hv)) fun _ => x_not (x_1 (x_var rfl) rfl (isi_bl hv)) rfl rfl)
theorem rng_ok {v : D} {B L : Hs} {ρ : Sl} (h : (isInt v && !isBl v) = true) (h0 : ρ[0]? = some (some (.d v))) : eChain opLe opLe (e1 opNeg (eC (.int 99))) (eVar 0) (eC (.int 99)) B ρ L = .ok (.d (.bl (rng v))) L := by
  cases v with
  | int i => exact z_chain (x_1 x_c rfl rfl) (x_var h0) rfl x_c rfl
  | _ => cases h
theorem value_ok (v : D) (hv : fine v = true) (B L : Hs) : F_is_value [.d v] B L = .ok (.d (.bl (isV v))) L := by
  unfold F_is_value
  exact x_pfn rfl fun B' => x_ret (z_and (x_call (x_cons (x_var rfl) x_nil) rfl (integer_ok v hv _ _)) fun h => rng_ok h rfl)
theorem number_ok' (v : D) (hv : fine v = true) (B L : Hs) : F__law_is_number [.d v] B L = .ok (.d (.bl (isV v))) L := by
  unfold F__law_is_number
  refine x_pfn rfl fun B' => ?_
  have : isV v = (isInt v && (!isBl v && rng v)) := Bool.and_assoc _ _ _
  rw [this]
  exact x_ret (z_and (x_1 (x_var rfl) rfl (isi_int hv)) fun h1 => z_and (x_not (x_1 (x_var rfl) rfl (isi_bl hv)) rfl rfl) fun h2 => rng_ok (by rw [h1, h2]; rfl) rfl)
/-! heads -/
def head (v : D) (hs : List (List Nat)) (n : Nat) : Bool := isTup v && (decide (ln v = n) && (isStr (it v 0) && hs.any fun s => deq (it v 0) s))
theorem in_heads {v : D} {hs : List (List Nat)} (h : isStr v = true) (hv : fine v = true) (ho : okD (.lst (hs.map .str)) = true) : opIn v (.lst (hs.map .str)) = some (.bl (hs.any fun s => deq v s)) := by
  cases v with
  | str t =>
    have f := (fine_str hv).1
    have h1 : okD (.str t) = true := by
      show (t.all (· < 0x110000) && decide (0 ≤ 64)) = true
      rw [f]
      rfl
    show (if (okD (.str t) && okD (.lst (hs.map .str))) = true then some (D.bl ((hs.map .str).any fun y => eqD y (.str t))) else none) = _
    rw [h1, ho, if_pos (show (true && true) = true from rfl), List.any_map]
    congr 3
    funext s
    show decide (s = t) = decide (t = s)
    rw [Bool.eq_iff_iff, decide_eq_true_eq, decide_eq_true_eq]
    exact eq_comm
  | _ => cases h
theorem head_ok (v : D) (hs : List (List Nat)) (n : Nat) (hn : 0 < n) (hv : fine v = true) (ho : okD (.lst (hs.map .str)) = true) (B L : Hs) : F__law_has_head [.d v, .d (.lst (hs.map .str)), .d (.int n)] B L = .ok (.d (.bl (head v hs n))) L := by
  unfold F__law_has_head
  refine x_pfn rfl fun B' => x_ret (z_and (x_1 (x_var rfl) rfl (isi_tup hv)) fun h1 => z_and (x_2 (p := .int (ln v)) (q := .int n) (x_B (x_cons (x_var rfl) x_nil) (x_vcons rfl x_vnil) (len_tup h1)) (x_var rfl) rfl rfl ?_) fun h2 => ?_)
  · rw [← d_eqN]
    rfl
  · have h2 := of_decide_eq_true h2
    have i0 : opIx v (.int 0) = some (it v 0) := ix_tup (i := 0) h1 (by omega)
    refine z_and (x_1 (x_2 (x_var rfl) x_c rfl rfl i0) rfl (isi_str (fine_it hv 0))) fun h3 => ?_
    exact x_2 (x_2 (x_var rfl) x_c rfl rfl i0) (x_var rfl) rfl rfl (in_heads h3 (fine_it hv 0) ho)
theorem head_any (v : D) (hs : List (List Nat)) (n : Nat) : head v hs n = hs.any fun s => tree v s n := by
  unfold head tree
  induction hs with
  | nil => simp
  | cons s hs ih =>
    rw [List.any_cons, List.any_cons, ← ih]
    cases isTup v <;> cases decide (ln v = n) <;> cases isStr (it v 0) <;> simp
theorem head_one (v : D) (s : List Nat) (n : Nat) : head v [s] n = tree v s n := by
  rw [head_any]
  simp
theorem tree_tup {v : D} {s : List Nat} {n : Nat} (h : tree v s n = true) : isTup v = true ∧ ln v = n ∧ it v 0 = .str s := by
  unfold tree at h
  rw [Bool.and_eq_true, Bool.and_eq_true, Bool.and_eq_true, decide_eq_true_eq] at h
  refine ⟨h.1, h.2.1, ?_⟩
  have h4 := h.2.2.2
  generalize it v 0 = x at h4 ⊢
  cases x with
  | str t =>
    have h4 : decide (t = s) = true := h4
    rw [of_decide_eq_true h4]
  | _ => cases h4
theorem any_tree {v : D} {hs : List (List Nat)} {n : Nat} (h : (hs.any fun s => tree v s n) = true) : isTup v = true ∧ ln v = n := by
  obtain ⟨s, _, hs⟩ := List.any_eq_true.mp h
  exact ⟨(tree_tup hs).1, (tree_tup hs).2.1⟩
theorem any_ok {v : D} {sgs : List (List Nat)} {n i : Nat} {B : Hs} {ρ : Sl} (hn : 0 < n) (hv : fine v = true) (hl : sgs.length ≤ 1000) (h0 : ∀ x, ((wipe ρ [i]).set i (some (.d x)))[0]? = some (some (.d v))) (hi : ∀ x, ((wipe ρ [i]).set i (some (.d x)))[i]? = some (some (.d x))) :
    eB bAny (aCons (eComp (iE (eC (.tup (sgs.map .str)))) (gVar i) (tYes) (eCall 3 F_is_tree (aCons (eVar 0) (aCons (eVar i) (aCons (eC (.int n)) (aNil))))) [i]) (aNil)) B ρ [] = .ok (.d (.bl (sgs.any fun s => tree v s n))) [] := by
  refine x_B (x_cons (x_comp (x_iE x_c rfl rfl) (comp_map (f := fun x => .bl (match x with | .str s => tree v s n | _ => false)) _ [] (fun x hx => ?_) ?_)) x_nil) (x_vcons rfl x_vnil) ?_
  · obtain ⟨s, _, rfl⟩ := List.mem_map.mp hx
    exact x_call (x_cons (x_var (h0 _)) (x_cons (x_var (hi _)) (x_cons x_c x_nil))) rfl (tree_ok v s n hn hv _ _)
  · rw [List.length_map]; show 0 + _ ≤ _; omega
  · show (match allB ([] ++ (sgs.map D.str).map fun x => D.bl (match x with | .str s => tree v s n | _ => false)) with | some bs => some (D.bl (bs.any id)) | none => none) = _
    rw [List.nil_append, allB_map]
    show some (D.bl (((sgs.map D.str).map fun x => match x with | .str s => tree v s n | _ => false).any id)) = _
    rw [List.map_map, List.any_map]
    rfl
/-! expressions -/
def isE : Nat → D → Bool
  | 0, _ => false
  | d + 1, v => if tree v sVal 2 = true then isV (it v 1) else if tree v sRow 2 = true then isW (it v 1) else if ([[43], [45], [42]].any fun s => tree v s 3) = true then (isE d (it v 1) && isE d (it v 2)) else tree v sBody 1
theorem sub1 (d : Nat) : opSub (.int ((d + 1 : Nat) : Int)) (.int 1) = some (.int (d : Int)) := by
  show some (D.int (((d + 1 : Nat) : Int) - 1)) = _
  congr 2
  omega
theorem eq00 : opEq (.int ((0 : Nat) : Int)) (.int 0) = some (.bl true) := rfl
theorem eq0s (d : Nat) : opEq (.int ((d + 1 : Nat) : Int)) (.int 0) = some (.bl false) := by
  show some (D.bl (decide (((d + 1 : Nat) : Int) = 0))) = _
  rw [decide_eq_false (by omega)]
theorem isE_ok : ∀ (d n : Nat) (v : D), d < n → fine v = true → ∀ B L, R_is_expression n [.d v, .d (.int d)] B L = .ok (.d (.bl (isE d v))) L
  | _, 0, _, h, _, _, _ => by omega
  | 0, n + 1, v, _, hv, B, L => by
    rw [R_is_expression]
    exact x_pfn rfl fun B' => z_retB (k := true) (p := false) (q := false) (x_tE (x_2 (x_var rfl) x_c rfl rfl eq00) rfl rfl) (fun _ => x_c) (fun z => by cases z)
  | d + 1, n + 1, v, h, hv, B, L => by
    rw [R_is_expression]
    refine x_pfn rfl fun B' => ?_
    refine (z_retB (k := false) (p := false) (q := isE (d + 1) v) (x_tE (x_2 (x_var rfl) x_c rfl rfl (eq0s d)) rfl rfl) (fun z => by cases z) fun _ => ?_)
    unfold isE
    refine z_retB (x_tE (x_call (x_cons (x_var rfl) (x_cons x_c (x_cons x_c x_nil))) rfl (tree_ok v sVal 2 (by decide) hv _ _)) rfl rfl) (fun h1 => ?_) fun _ => ?_
    · obtain ⟨t1, t2, _⟩ := tree_tup h1
      exact x_call (x_cons (x_2 (x_var rfl) x_c rfl rfl (ix_tup (i := 1) t1 (by omega))) x_nil) rfl (value_ok _ (fine_it hv 1) _ _)
    refine z_retB (x_tE (x_call (x_cons (x_var rfl) (x_cons x_c (x_cons x_c x_nil))) rfl (tree_ok v sRow 2 (by decide) hv _ _)) rfl rfl) (fun h1 => ?_) fun _ => ?_
    · obtain ⟨t1, t2, _⟩ := tree_tup h1
      exact x_call (x_cons (x_2 (x_var rfl) x_c rfl rfl (ix_tup (i := 1) t1 (by omega))) x_nil) rfl (word_ok _ (fine_it hv 1) _ _)
    refine z_retB (x_tE (any_ok (sgs := [[43], [45], [42]]) (n := 3) (by decide) hv (by decide) (fun _ => rfl) (fun _ => rfl)) rfl rfl) (fun h1 => ?_) fun _ => ?_
    · obtain ⟨t1, t2⟩ := any_tree h1
      refine z_and (x_call (x_cons (x_2 (x_var rfl) x_c rfl rfl (ix_tup (i := 1) t1 (by omega))) (x_cons (x_2 (x_var rfl) x_c rfl rfl (sub1 d)) x_nil)) rfl (isE_ok d n _ (by omega) (fine_it hv 1) _ _)) fun _ => ?_
      exact x_call (x_cons (x_2 (x_var rfl) x_c rfl rfl (ix_tup (i := 2) t1 (by omega))) (x_cons (x_2 (x_var rfl) x_c rfl rfl (sub1 d)) x_nil)) rfl (isE_ok d n _ (by omega) (fine_it hv 2) _ _)
    exact x_ret (x_call (x_cons (x_var rfl) (x_cons x_c (x_cons x_c x_nil))) rfl (tree_ok v sBody 1 (by decide) hv _ _))
end K02
end Ev

set_option linter.all false
set_option maxRecDepth 100000
set_option maxHeartbeats 1000000
namespace Ev
namespace K02
theorem tree_none {v : D} {s : List Nat} {n : Nat} (hn : 0 < n) (h : (!isTup v || decide (ln v = 0)) = true) : tree v s n = false := by
  cases e : tree v s n with
  | false => rfl
  | true =>
    obtain ⟨t1, t2, _⟩ := tree_tup e
    rw [t1] at h
    have h : decide (ln v = 0) = true := h
    have := of_decide_eq_true h
    omega
theorem isE_none {v : D} (d : Nat) (h : (!isTup v || decide (ln v = 0)) = true) : isE d v = false := by
  cases d with
  | zero => rfl
  | succ d =>
    unfold isE
    rw [tree_none (by decide) h, tree_none (by decide) h, tree_none (by decide) h]
    have : ([[43], [45], [42]].any fun s => tree v s 3) = false := by
      simp only [List.any_cons, List.any_nil, tree_none (show 0 < 3 by decide) h, Bool.or_false]
    rw [this]
    rfl
theorem len0 {v : D} : decide ((ln v : Int) = 0) = decide (ln v = 0) := d_eqN (ln v) 0
theorem leE_ok : ∀ (d n : Nat) (v : D), d < n → fine v = true → ∀ B L, R__law_is_e n [.d v, .d (.int d)] B L = .ok (.d (.bl (isE d v))) L
  | _, 0, _, h, _, _, _ => by omega
  | 0, n + 1, v, _, hv, B, L => by
    rw [R__law_is_e]
    exact x_pfn rfl fun B' => z_retB (k := true) (p := false) (q := false) (z_tOr (k := true) (k' := false) (x_tE (x_2 (x_var rfl) x_c rfl rfl eq00) rfl rfl) (fun z => by cases z)) (fun _ => x_c) (fun z => by cases z)
  | d + 1, n + 1, v, h, hv, B, L => by
    rw [R__law_is_e]
    refine x_pfn rfl fun B' => ?_
    have e0 : isE (d + 1) v = (if (false || (!isTup v || decide ((ln v : Int) = 0))) = true then false else isE (d + 1) v) := by
      rw [len0, Bool.false_or]
      split
      · rename_i h0
        exact isE_none _ h0
      · rfl
    rw [e0]
    refine z_retB (z_tOr (x_tE (x_2 (x_var rfl) x_c rfl rfl (eq0s d)) rfl rfl) fun _ => z_tOr (x_tNot (x_tE (x_1 (x_var rfl) rfl (isi_tup hv)) rfl rfl)) fun h1 => x_tE (x_2 (x_B (x_cons (x_var rfl) x_nil) (x_vcons rfl x_vnil) (len_tup (by simpa using h1))) x_c rfl rfl rfl) rfl rfl) (fun _ => x_c) fun _ => ?_
    unfold isE
    rw [← head_one v sVal 2, ← head_one v sRow 2, ← head_one v sBody 1, ← head_any v [[43], [45], [42]] 3]
    refine z_retB (x_tE (x_call (x_cons (x_var rfl) (x_cons (x_lst (x_cons x_c x_nil) rfl (by decide)) (x_cons x_c x_nil))) rfl (head_ok v [sVal] 2 (by decide) hv rfl _ _)) rfl rfl) (fun h1 => ?_) fun _ => ?_
    · rw [head_one] at h1
      obtain ⟨t1, t2, _⟩ := tree_tup h1
      exact x_call (x_cons (x_2 (x_var rfl) x_c rfl rfl (ix_tup (i := 1) t1 (by omega))) x_nil) rfl (number_ok' _ (fine_it hv 1) _ _)
    refine z_retB (x_tE (x_call (x_cons (x_var rfl) (x_cons (x_lst (x_cons x_c x_nil) rfl (by decide)) (x_cons x_c x_nil))) rfl (head_ok v [sRow] 2 (by decide) hv rfl _ _)) rfl rfl) (fun h1 => ?_) fun _ => ?_
    · rw [head_one] at h1
      obtain ⟨t1, t2, _⟩ := tree_tup h1
      exact x_call (x_cons (x_2 (x_var rfl) x_c rfl rfl (ix_tup (i := 1) t1 (by omega))) x_nil) rfl (lword_ok _ (fine_it hv 1) _ _)
    refine z_retB (x_tE (x_call (x_cons (x_var rfl) (x_cons (x_lst (x_cons x_c (x_cons x_c (x_cons x_c x_nil))) rfl (by decide)) (x_cons x_c x_nil))) rfl (head_ok v [[43], [45], [42]] 3 (by decide) hv rfl _ _)) rfl rfl) (fun h1 => ?_) fun _ => ?_
    · rw [head_any] at h1
      obtain ⟨t1, t2⟩ := any_tree h1
      refine z_and (x_call (x_cons (x_2 (x_var rfl) x_c rfl rfl (ix_tup (i := 1) t1 (by omega))) (x_cons (x_2 (x_var rfl) x_c rfl rfl (sub1 d)) x_nil)) rfl (leE_ok d n _ (by omega) (fine_it hv 1) _ _)) fun _ => ?_
      exact x_call (x_cons (x_2 (x_var rfl) x_c rfl rfl (ix_tup (i := 2) t1 (by omega))) (x_cons (x_2 (x_var rfl) x_c rfl rfl (sub1 d)) x_nil)) rfl (leE_ok d n _ (by omega) (fine_it hv 2) _ _)
    exact x_ret (x_call (x_cons (x_var rfl) (x_cons (x_lst (x_cons x_c x_nil) rfl (by decide)) (x_cons x_c x_nil))) rfl (head_ok v [sBody] 1 (by decide) hv rfl _ _))
theorem E6 (v : D) (hv : fine v = true) (B L : Hs) : F_is_expression [.d v, .d (.int 6)] B L = .ok (.d (.bl (isE 6 v))) L := isE_ok 6 12 v (by decide) hv B L
theorem lE6 (v : D) (hv : fine v = true) (B L : Hs) : F__law_is_e [.d v, .d (.int 6)] B L = .ok (.d (.bl (isE 6 v))) L := leE_ok 6 12 v (by decide) hv B L
/-! conditions -/
def sAnd : List Nat := [97, 110, 100]
def sOr : List Nat := [111, 114]
def isC : Nat → D → Bool
  | 0, _ => false
  | d + 1, v => if ([[60], [61]].any fun s => tree v s 3) = true then (isE 6 (it v 1) && isE 6 (it v 2)) else if ([sAnd, sOr].any fun s => tree v s 3) = true then (isC d (it v 1) && isC d (it v 2)) else (tree v sNot 2 && isC d (it v 1))
theorem isC_ok : ∀ (d n : Nat) (v : D), d < n → fine v = true → ∀ B L, R_is_condition n [.d v, .d (.int d)] B L = .ok (.d (.bl (isC d v))) L
  | _, 0, _, h, _, _, _ => by omega
  | 0, n + 1, v, _, hv, B, L => by
    rw [R_is_condition]
    exact x_pfn rfl fun B' => z_retB (k := true) (p := false) (q := false) (x_tE (x_2 (x_var rfl) x_c rfl rfl eq00) rfl rfl) (fun _ => x_c) (fun z => by cases z)
  | d + 1, n + 1, v, h, hv, B, L => by
    rw [R_is_condition]
    refine x_pfn rfl fun B' => ?_
    refine (z_retB (k := false) (p := false) (q := isC (d + 1) v) (x_tE (x_2 (x_var rfl) x_c rfl rfl (eq0s d)) rfl rfl) (fun z => by cases z) fun _ => ?_)
    unfold isC
    refine z_retB (x_tE (any_ok (sgs := [[60], [61]]) (n := 3) (by decide) hv (by decide) (fun _ => rfl) (fun _ => rfl)) rfl rfl) (fun h1 => ?_) fun _ => ?_
    · obtain ⟨t1, t2⟩ := any_tree h1
      refine z_and (x_call (x_cons (x_2 (x_var rfl) x_c rfl rfl (ix_tup (i := 1) t1 (by omega))) (x_cons x_c x_nil)) rfl (E6 _ (fine_it hv 1) _ _)) fun _ => ?_
      exact x_call (x_cons (x_2 (x_var rfl) x_c rfl rfl (ix_tup (i := 2) t1 (by omega))) (x_cons x_c x_nil)) rfl (E6 _ (fine_it hv 2) _ _)
    refine z_retB (x_tE (any_ok (sgs := [sAnd, sOr]) (n := 3) (by decide) hv (by decide) (fun _ => rfl) (fun _ => rfl)) rfl rfl) (fun h1 => ?_) fun _ => ?_
    · obtain ⟨t1, t2⟩ := any_tree h1
      refine z_and (x_call (x_cons (x_2 (x_var rfl) x_c rfl rfl (ix_tup (i := 1) t1 (by omega))) (x_cons (x_2 (x_var rfl) x_c rfl rfl (sub1 d)) x_nil)) rfl (isC_ok d n _ (by omega) (fine_it hv 1) _ _)) fun _ => ?_
      exact x_call (x_cons (x_2 (x_var rfl) x_c rfl rfl (ix_tup (i := 2) t1 (by omega))) (x_cons (x_2 (x_var rfl) x_c rfl rfl (sub1 d)) x_nil)) rfl (isC_ok d n _ (by omega) (fine_it hv 2) _ _)
    refine x_ret (z_and (x_call (x_cons (x_var rfl) (x_cons x_c (x_cons x_c x_nil))) rfl (tree_ok v sNot 2 (by decide) hv _ _)) fun h1 => ?_)
    obtain ⟨t1, t2, _⟩ := tree_tup h1
    exact x_call (x_cons (x_2 (x_var rfl) x_c rfl rfl (ix_tup (i := 1) t1 (by omega))) (x_cons (x_2 (x_var rfl) x_c rfl rfl (sub1 d)) x_nil)) rfl (isC_ok d n _ (by omega) (fine_it hv 1) _ _)
theorem leC_ok : ∀ (d n : Nat) (v : D), d < n → fine v = true → ∀ B L, R__law_is_c n [.d v, .d (.int d)] B L = .ok (.d (.bl (isC d v))) L
  | _, 0, _, h, _, _, _ => by omega
  | 0, n + 1, v, _, hv, B, L => by
    rw [R__law_is_c]
    exact x_pfn rfl fun B' => z_retB (k := true) (p := false) (q := false) (x_tE (x_2 (x_var rfl) x_c rfl rfl eq00) rfl rfl) (fun _ => x_c) (fun z => by cases z)
  | d + 1, n + 1, v, h, hv, B, L => by
    rw [R__law_is_c]
    refine x_pfn rfl fun B' => ?_
    refine (z_retB (k := false) (p := false) (q := isC (d + 1) v) (x_tE (x_2 (x_var rfl) x_c rfl rfl (eq0s d)) rfl rfl) (fun z => by cases z) fun _ => ?_)
    unfold isC
    rw [← head_any v [[60], [61]] 3, ← head_any v [sAnd, sOr] 3, ← head_one v sNot 2]
    refine z_retB (x_tE (x_call (x_cons (x_var rfl) (x_cons (x_lst (x_cons x_c (x_cons x_c x_nil)) rfl (by decide)) (x_cons x_c x_nil))) rfl (head_ok v [[60], [61]] 3 (by decide) hv rfl _ _)) rfl rfl) (fun h1 => ?_) fun _ => ?_
    · rw [head_any] at h1
      obtain ⟨t1, t2⟩ := any_tree h1
      refine z_and (x_call (x_cons (x_2 (x_var rfl) x_c rfl rfl (ix_tup (i := 1) t1 (by omega))) (x_cons x_c x_nil)) rfl (lE6 _ (fine_it hv 1) _ _)) fun _ => ?_
      exact x_call (x_cons (x_2 (x_var rfl) x_c rfl rfl (ix_tup (i := 2) t1 (by omega))) (x_cons x_c x_nil)) rfl (lE6 _ (fine_it hv 2) _ _)
    refine z_retB (x_tE (x_call (x_cons (x_var rfl) (x_cons (x_lst (x_cons x_c (x_cons x_c x_nil)) rfl (by decide)) (x_cons x_c x_nil))) rfl (head_ok v [sAnd, sOr] 3 (by decide) hv rfl _ _)) rfl rfl) (fun h1 => ?_) fun _ => ?_
    · rw [head_any] at h1
      obtain ⟨t1, t2⟩ := any_tree h1
      refine z_and (x_call (x_cons (x_2 (x_var rfl) x_c rfl rfl (ix_tup (i := 1) t1 (by omega))) (x_cons (x_2 (x_var rfl) x_c rfl rfl (sub1 d)) x_nil)) rfl (leC_ok d n _ (by omega) (fine_it hv 1) _ _)) fun _ => ?_
      exact x_call (x_cons (x_2 (x_var rfl) x_c rfl rfl (ix_tup (i := 2) t1 (by omega))) (x_cons (x_2 (x_var rfl) x_c rfl rfl (sub1 d)) x_nil)) rfl (leC_ok d n _ (by omega) (fine_it hv 2) _ _)
    refine x_ret (z_and (x_call (x_cons (x_var rfl) (x_cons (x_lst (x_cons x_c x_nil) rfl (by decide)) (x_cons x_c x_nil))) rfl (head_ok v [sNot] 2 (by decide) hv rfl _ _)) fun h1 => ?_)
    rw [head_one] at h1
    obtain ⟨t1, t2, _⟩ := tree_tup h1
    exact x_call (x_cons (x_2 (x_var rfl) x_c rfl rfl (ix_tup (i := 1) t1 (by omega))) (x_cons (x_2 (x_var rfl) x_c rfl rfl (sub1 d)) x_nil)) rfl (leC_ok d n _ (by omega) (fine_it hv 1) _ _)
theorem C6 (v : D) (hv : fine v = true) (B L : Hs) : F_is_condition [.d v, .d (.int 6)] B L = .ok (.d (.bl (isC 6 v))) L := isC_ok 6 12 v (by decide) hv B L
theorem lC6 (v : D) (hv : fine v = true) (B L : Hs) : F__law_is_c [.d v, .d (.int 6)] B L = .ok (.d (.bl (isC 6 v))) L := leC_ok 6 12 v (by decide) hv B L
/-! deeds -/
def its : D → List D
  | .tup xs => xs
  | _ => []
def isNo : D → Bool
  | .non => true
  | _ => false
def isDd (are : D → Bool) (i : Nat) (v : D) : Bool := if tree v sSet 3 = true then (isW (it v 1) && isE 6 (it v 2)) else if tree v sSend 4 = true then (isW (it v 1) && ((isNo (it v 2) || isW (it v 2)) && isE 6 (it v 3))) else
  if tree v sIfS 4 = true then ((decide (0 < i) && isC 6 (it v 1)) && (are (it v 2) && are (it v 3))) else tree v sFail 1
def areD : Nat → D → Bool
  | 0, v => isTup v && (its v).all (isDd (fun _ => false) 0)
  | i + 1, v => isTup v && (its v).all (isDd (areD i) (i + 1))
def isD : Nat → D → Bool
  | 0 => isDd (fun _ => false) 0
  | i + 1 => isDd (areD i) (i + 1)
theorem areD_eq (i : Nat) (v : D) : areD i v = (isTup v && (its v).all (isD i)) := by cases i <;> rfl
theorem isN_it (v : D) : isN (.d v) = isNo v := by cases v <;> rfl
theorem items_tup {v : D} (h : isTup v = true) : items v = some (its v) := by
  cases v <;> first | rfl | cases h
theorem fine_its {v : D} (h : fine v = true) : (its v).length ≤ 1000 ∧ ∀ x ∈ its v, fine x = true := by
  cases v with
  | tup xs => exact fine_tup h
  | _ => exact ⟨Nat.zero_le _, fun x hx => by cases hx⟩
theorem gt0 (i : Nat) : opGt (.int (i : Int)) (.int 0) = some (.bl (decide (0 < i))) := by
  show some (D.bl (decide ((0 : Int) < (i : Int)))) = _
  congr 2
  rw [Bool.eq_iff_iff, decide_eq_true_eq, decide_eq_true_eq]
  omega
theorem isD_step {i n : Nat} (v : D) (hv : fine v = true) (hr : ∀ j w, i = j + 1 → fine w = true → ∀ B L, R_are_deeds n [.d w, .d (.int j)] B L = .ok (.d (.bl (areD j w))) L) (B L : Hs) : R_is_deed (n + 1) [.d v, .d (.int i)] B L = .ok (.d (.bl (isD i v))) L := by
  rw [R_is_deed]
  refine x_pfn rfl fun B' => ?_
  have e : isD i v = (if tree v sSet 3 = true then (isW (it v 1) && isE 6 (it v 2)) else if tree v sSend 4 = true then (isW (it v 1) && ((isNo (it v 2) || isW (it v 2)) && isE 6 (it v 3))) else
    if tree v sIfS 4 = true then ((decide (0 < i) && isC 6 (it v 1)) && (areD (i - 1) (it v 2) && areD (i - 1) (it v 3))) else tree v sFail 1) := by
    cases i with
    | zero => rfl
    | succ i => rfl
  rw [e]
  refine z_retB (x_tE (x_call (x_cons (x_var rfl) (x_cons x_c (x_cons x_c x_nil))) rfl (tree_ok v sSet 3 (by decide) hv _ _)) rfl rfl) (fun h1 => ?_) fun _ => ?_
  · obtain ⟨t1, t2, _⟩ := tree_tup h1
    refine z_and (x_call (x_cons (x_2 (x_var rfl) x_c rfl rfl (ix_tup (i := 1) t1 (by omega))) x_nil) rfl (word_ok _ (fine_it hv 1) _ _)) fun _ => ?_
    exact x_call (x_cons (x_2 (x_var rfl) x_c rfl rfl (ix_tup (i := 2) t1 (by omega))) (x_cons x_c x_nil)) rfl (E6 _ (fine_it hv 2) _ _)
  refine z_ret2B (x_tE (x_call (x_cons (x_var rfl) (x_cons x_c (x_cons x_c x_nil))) rfl (tree_ok v sSend 4 (by decide) hv _ _)) rfl rfl) (fun h1 => ?_) fun _ => ?_
  · obtain ⟨t1, t2, _⟩ := tree_tup h1
    have i2 := ix_tup (i := 2) t1 (by omega)
    refine x_seq (x_asg (w := .d (.bl (isNo (it v 2) || isW (it v 2)))) (z_or (by
      have := x_isN (B := B') (L := []) (ρ := [some (.d v), some (.d (.int i)), none, none]) (a := e2 opIx (eVar 0) (eC (.int 2))) (x := .d (it v 2)) (L1 := []) (x_2 (x := .d v) (x_var rfl) x_c rfl rfl i2)
      rw [isN_it] at this
      exact this) fun _ => x_call (x_cons (x_2 (x_var rfl) x_c rfl rfl i2) x_nil) rfl (word_ok _ (fine_it hv 2) _ _)) x_gvar) (x_thenN ?_)
    refine x_ret (z_and (x_call (x_cons (x_2 (x_var rfl) x_c rfl rfl (ix_tup (i := 1) t1 (by omega))) x_nil) rfl (word_ok _ (fine_it hv 1) _ _)) fun _ => z_and (x_var rfl) fun _ => ?_)
    exact x_call (x_cons (x_2 (x_var rfl) x_c rfl rfl (ix_tup (i := 3) t1 (by omega))) (x_cons x_c x_nil)) rfl (E6 _ (fine_it hv 3) _ _)
  refine z_ret2B (x_tE (x_call (x_cons (x_var rfl) (x_cons x_c (x_cons x_c x_nil))) rfl (tree_ok v sIfS 4 (by decide) hv _ _)) rfl rfl) (fun h1 => ?_) fun _ => ?_
  · obtain ⟨t1, t2, _⟩ := tree_tup h1
    refine x_seq (x_asg (w := .d (.bl (decide (0 < i) && isC 6 (it v 1)))) (z_and (x_2 (x_var rfl) x_c rfl rfl (gt0 i)) fun _ => x_call (x_cons (x_2 (x_var rfl) x_c rfl rfl (ix_tup (i := 1) t1 (by omega))) (x_cons x_c x_nil)) rfl (C6 _ (fine_it hv 1) _ _)) x_gvar) (x_thenN ?_)
    refine x_ret (z_and (x_var rfl) fun h2 => ?_)
    rw [Bool.and_eq_true, decide_eq_true_eq] at h2
    obtain ⟨j, rfl⟩ : ∃ j, i = j + 1 := ⟨i - 1, by omega⟩
    refine z_and (x_call (x_cons (x_2 (x_var rfl) x_c rfl rfl (ix_tup (i := 2) t1 (by omega))) (x_cons (x_2 (x_var rfl) x_c rfl rfl (sub1 j)) x_nil)) rfl (hr j _ rfl (fine_it hv 2) _ _)) fun _ => ?_
    exact x_call (x_cons (x_2 (x_var rfl) x_c rfl rfl (ix_tup (i := 3) t1 (by omega))) (x_cons (x_2 (x_var rfl) x_c rfl rfl (sub1 j)) x_nil)) rfl (hr j _ rfl (fine_it hv 3) _ _)
  exact x_ret (x_call (x_cons (x_var rfl) (x_cons x_c (x_cons x_c x_nil))) rfl (tree_ok v sFail 1 (by decide) hv _ _))
theorem all_step {v : D} {i n : Nat} (hv : fine v = true) (hd : ∀ x, fine x = true → ∀ B L, R_is_deed n [.d x, .d (.int i)] B L = .ok (.d (.bl (isD i x))) L) (B L : Hs) : R_are_deeds (n + 1) [.d v, .d (.int i)] B L = .ok (.d (.bl (areD i v))) L := by
  rw [R_are_deeds, areD_eq]
  refine x_pfn rfl fun B' => x_ret (z_and (x_1 (x_var rfl) rfl (isi_tup hv)) fun h1 => ?_)
  obtain ⟨f1, f2⟩ := fine_its hv
  refine x_B (x_cons (x_comp (x_iE (x_var rfl) rfl (items_tup h1)) (comp_map (f := fun x => .bl (isD i x)) _ [] (fun x hx => ?_) ?_)) x_nil) (x_vcons rfl x_vnil) ?_
  · exact x_call (x_cons (x_var rfl) (x_cons (x_var rfl) x_nil)) rfl (hd x (f2 x hx) _ _)
  · show 0 + _ ≤ _; omega
  · show (match allB ([] ++ (its v).map fun x => D.bl (isD i x)) with | some bs => some (D.bl (bs.all id)) | none => none) = _
    rw [List.nil_append, allB_map]
    show some (D.bl (((its v).map (isD i)).all id)) = _
    rw [all_id]
theorem areD_ok : ∀ (i n : Nat) (v : D), 2 * i + 2 ≤ n → fine v = true → ∀ B L, R_are_deeds n [.d v, .d (.int i)] B L = .ok (.d (.bl (areD i v))) L
  | 0, n, v, h, hv, B, L => by
    obtain ⟨n, rfl⟩ : ∃ m, n = m + 1 + 1 := ⟨n - 2, by omega⟩
    exact all_step hv (fun x hx B L => isD_step x hx (fun j w z => by omega) B L) B L
  | i + 1, n, v, h, hv, B, L => by
    obtain ⟨n, rfl⟩ : ∃ m, n = m + 1 + 1 := ⟨n - 2, by omega⟩
    refine all_step hv (fun x hx B L => isD_step x hx (fun j w z hw B L => ?_) B L) B L
    have : j = i := by omega
    subst this
    exact areD_ok j n w (by omega) hw B L
end K02
end Ev

set_option linter.all false
set_option maxRecDepth 100000
set_option maxHeartbeats 1000000
namespace Ev
namespace K02
theorem tree_excl {v : D} {s s' : List Nat} {n n' : Nat} (h : tree v s n = true) (hs : s ≠ s') : tree v s' n' = false := by
  cases e : tree v s' n' with
  | false => rfl
  | true =>
    have a := (tree_tup h).2.2
    have b := (tree_tup e).2.2
    rw [a] at b
    injection b with b
    exact absurd b hs
theorem isD_eq (i : Nat) (v : D) : isD i v = (if tree v sSet 3 = true then (isW (it v 1) && isE 6 (it v 2)) else if tree v sSend 4 = true then (isW (it v 1) && ((isNo (it v 2) || isW (it v 2)) && isE 6 (it v 3))) else
    if tree v sIfS 4 = true then ((decide (0 < i) && isC 6 (it v 1)) && (areD (i - 1) (it v 2) && areD (i - 1) (it v 3))) else tree v sFail 1) := by
  cases i <;> rfl
theorem leD_step {i n : Nat} (v : D) (hv : fine v = true) (hr : ∀ j w, i = j + 1 → fine w = true → ∀ B L, R__law_are_deeds n [.d w, .d (.int j)] B L = .ok (.d (.bl (areD j w))) L) (B L : Hs) : R__law_is_deed (n + 1) [.d v, .d (.int i)] B L = .ok (.d (.bl (isD i v))) L := by
  rw [R__law_is_deed]
  refine x_pfn rfl fun B' => ?_
  have e : isD i v = (if head v [sSet] 3 = true then (isW (it v 1) && isE 6 (it v 2)) else if head v [sSend] 4 = true then (isW (it v 1) && ((isNo (it v 2) || isW (it v 2)) && isE 6 (it v 3))) else
    if (head v [sIfS] 4 && (decide (0 < i) && isC 6 (it v 1))) = true then (areD (i - 1) (it v 2) && areD (i - 1) (it v 3)) else head v [sFail] 1) := by
    rw [isD_eq, head_one, head_one, head_one, head_one]
    congr 2
    cases h : tree v sIfS 4 with
    | false => rfl
    | true =>
      rw [tree_excl h (s' := sFail) (by decide), Bool.true_and]
      cases (decide (0 < i) && isC 6 (it v 1)) <;> rfl
  rw [e]
  refine z_retB (x_tE (x_call (x_cons (x_var rfl) (x_cons (x_lst (x_cons x_c x_nil) rfl (by decide)) (x_cons x_c x_nil))) rfl (head_ok v [sSet] 3 (by decide) hv rfl _ _)) rfl rfl) (fun h1 => ?_) fun _ => ?_
  · rw [head_one] at h1
    obtain ⟨t1, t2, _⟩ := tree_tup h1
    refine z_and (x_call (x_cons (x_2 (x_var rfl) x_c rfl rfl (ix_tup (i := 1) t1 (by omega))) x_nil) rfl (lword_ok _ (fine_it hv 1) _ _)) fun _ => ?_
    exact x_call (x_cons (x_2 (x_var rfl) x_c rfl rfl (ix_tup (i := 2) t1 (by omega))) (x_cons x_c x_nil)) rfl (lE6 _ (fine_it hv 2) _ _)
  refine z_retB (x_tE (x_call (x_cons (x_var rfl) (x_cons (x_lst (x_cons x_c x_nil) rfl (by decide)) (x_cons x_c x_nil))) rfl (head_ok v [sSend] 4 (by decide) hv rfl _ _)) rfl rfl) (fun h1 => ?_) fun _ => ?_
  · rw [head_one] at h1
    obtain ⟨t1, t2, _⟩ := tree_tup h1
    have i2 := ix_tup (i := 2) t1 (by omega)
    refine z_and (x_call (x_cons (x_2 (x_var rfl) x_c rfl rfl (ix_tup (i := 1) t1 (by omega))) x_nil) rfl (lword_ok _ (fine_it hv 1) _ _)) fun _ => z_and (z_or (by
      have := x_isN (B := B') (L := []) (ρ := [some (.d v), some (.d (.int i))]) (a := e2 opIx (eVar 0) (eC (.int 2))) (x := .d (it v 2)) (L1 := []) (x_2 (x := .d v) (x_var rfl) x_c rfl rfl i2)
      rw [isN_it] at this
      exact this) fun _ => x_call (x_cons (x_2 (x_var rfl) x_c rfl rfl i2) x_nil) rfl (lword_ok _ (fine_it hv 2) _ _)) fun _ => ?_
    exact x_call (x_cons (x_2 (x_var rfl) x_c rfl rfl (ix_tup (i := 3) t1 (by omega))) (x_cons x_c x_nil)) rfl (lE6 _ (fine_it hv 3) _ _)
  refine z_retB (z_tAnd (x_tE (x_call (x_cons (x_var rfl) (x_cons (x_lst (x_cons x_c x_nil) rfl (by decide)) (x_cons x_c x_nil))) rfl (head_ok v [sIfS] 4 (by decide) hv rfl _ _)) rfl rfl) fun h1 => z_tAnd (x_tE (x_2 (x_var rfl) x_c rfl rfl (gt0 i)) rfl rfl) fun _ => ?_) (fun h1 => ?_) fun _ => ?_
  · rw [head_one] at h1
    obtain ⟨t1, t2, _⟩ := tree_tup h1
    exact x_tE (x_call (x_cons (x_2 (x_var rfl) x_c rfl rfl (ix_tup (i := 1) t1 (by omega))) (x_cons x_c x_nil)) rfl (lC6 _ (fine_it hv 1) _ _)) rfl rfl
  · rw [Bool.and_eq_true, Bool.and_eq_true, decide_eq_true_eq, head_one] at h1
    obtain ⟨t1, t2, _⟩ := tree_tup h1.1
    obtain ⟨j, rfl⟩ : ∃ j, i = j + 1 := ⟨i - 1, by omega⟩
    refine z_and (x_call (x_cons (x_2 (x_var rfl) x_c rfl rfl (ix_tup (i := 2) t1 (by omega))) (x_cons (x_2 (x_var rfl) x_c rfl rfl (sub1 j)) x_nil)) rfl (hr j _ rfl (fine_it hv 2) _ _)) fun _ => ?_
    exact x_call (x_cons (x_2 (x_var rfl) x_c rfl rfl (ix_tup (i := 3) t1 (by omega))) (x_cons (x_2 (x_var rfl) x_c rfl rfl (sub1 j)) x_nil)) rfl (hr j _ rfl (fine_it hv 3) _ _)
  exact x_ret (x_call (x_cons (x_var rfl) (x_cons (x_lst (x_cons x_c x_nil) rfl (by decide)) (x_cons x_c x_nil))) rfl (head_ok v [sFail] 1 (by decide) hv rfl _ _))
theorem eq_nil0 {l : List D} : opEq (.lst l) (.lst []) = some (.bl l.isEmpty) := rfl
theorem lall_step {v : D} {i n : Nat} (hv : fine v = true) (hd : ∀ x, fine x = true → ∀ B L, R__law_is_deed n [.d x, .d (.int i)] B L = .ok (.d (.bl (isD i x))) L) (B L : Hs) : R__law_are_deeds (n + 1) [.d v, .d (.int i)] B L = .ok (.d (.bl (areD i v))) L := by
  rw [R__law_are_deeds, areD_eq]
  obtain ⟨f1, f2⟩ := fine_its hv
  refine x_pfn rfl fun B' => x_ret (z_and (x_1 (x_var rfl) rfl (isi_tup hv)) fun h1 => ?_)
  rw [← fil_empty]
  refine x_2 (p := .lst ((its v).filter fun x => !isD i x)) (x_comp (x_iE (x_var rfl) rfl (items_tup h1)) (comp_fil (f := fun x => x) (p := fun x => !isD i x) _ [] (fun x hx => ?_) (fun x _ _ => x_var rfl) ?_)) (x_lst x_nil rfl (by decide)) ?_ rfl eq_nil0
  · exact x_tNot (x_tE (x_call (x_cons (x_var rfl) (x_cons (x_var rfl) x_nil)) rfl (hd x (f2 x hx) _ _)) rfl rfl)
  · show 0 + _ ≤ _; omega
  · rw [List.nil_append, List.map_id']
    rfl
theorem lareD_ok : ∀ (i n : Nat) (v : D), 2 * i + 2 ≤ n → fine v = true → ∀ B L, R__law_are_deeds n [.d v, .d (.int i)] B L = .ok (.d (.bl (areD i v))) L
  | 0, n, v, h, hv, B, L => by
    obtain ⟨n, rfl⟩ : ∃ m, n = m + 1 + 1 := ⟨n - 2, by omega⟩
    exact lall_step hv (fun x hx B L => leD_step x hx (fun j w z => by omega) B L) B L
  | i + 1, n, v, h, hv, B, L => by
    obtain ⟨n, rfl⟩ : ∃ m, n = m + 1 + 1 := ⟨n - 2, by omega⟩
    refine lall_step hv (fun x hx B L => leD_step x hx (fun j w z hw B L => ?_) B L) B L
    have : j = i := by omega
    subst this
    exact lareD_ok j n w (by omega) hw B L
/-! counts -/
def isIf (x : D) : Bool := deq (it x 0) sIfS
def cnt : Nat → D → Int
  | 0, v => ln v
  | i + 1, v => ln v + (((its v).filter isIf).map fun x => cnt i (it x 2) + cnt i (it x 3)).sum
theorem isD_tree {i : Nat} {x : D} (h : isD i x = true) : ∃ s n, 0 < n ∧ tree x s n = true := by
  rw [isD_eq] at h
  split at h
  · exact ⟨_, 3, by decide, ‹_›⟩
  · split at h
    · exact ⟨_, 4, by decide, ‹_›⟩
    · split at h
      · exact ⟨_, 4, by decide, ‹_›⟩
      · exact ⟨_, 1, by decide, h⟩
theorem isD_if {i : Nat} {x : D} (h : isD i x = true) (hi : isIf x = true) : ∃ j, i = j + 1 ∧ isTup x = true ∧ ln x = 4 ∧ areD j (it x 2) = true ∧ areD j (it x 3) = true := by
  have no : ∀ {s n}, s ≠ sIfS → tree x s n = true → False := fun {s n} hs ht => by
    have a := (tree_tup ht).2.2
    unfold isIf at hi
    rw [a] at hi
    have hi : decide (s = sIfS) = true := hi
    exact hs (of_decide_eq_true hi)
  rw [isD_eq] at h
  split at h
  · exact (no (s := sSet) (n := 3) (by decide) ‹_›).elim
  · split at h
    · exact (no (s := sSend) (n := 4) (by decide) ‹_›).elim
    · split at h
      · rename_i ht
        obtain ⟨t1, t2, _⟩ := tree_tup ht
        rw [Bool.and_eq_true, Bool.and_eq_true, Bool.and_eq_true, decide_eq_true_eq] at h
        exact ⟨i - 1, by omega, t1, t2, h.2.1, h.2.2⟩
      · exact (no (by decide) h).elim
theorem allI_ints (l : List Int) : allI (l.map D.int) = some l := by
  induction l with
  | nil => rfl
  | cons i l ih =>
    show (match allI (l.map D.int) with | some is => some (i :: is) | none => none) = _
    rw [ih]
theorem sum_ints (l : List Int) : bSum [.lst (l.map D.int)] = some (.int l.sum) := by
  show (match allI (l.map D.int) with | some is => some (D.int is.sum) | none => none) = _
  rw [allI_ints]
def inner (i : Nat) (x : D) : Int := match i with
  | 0 => 0
  | i + 1 => cnt i (it x 2) + cnt i (it x 3)
theorem cnt_eq {i : Nat} {v : D} (h : areD i v = true) : cnt i v = ln v + (((its v).filter isIf).map (inner i)).sum := by
  cases i with
  | succ i => rfl
  | zero =>
    have e : (its v).filter isIf = [] := by
      rw [List.filter_eq_nil_iff]
      intro x hx hi
      rw [areD_eq, Bool.and_eq_true] at h
      obtain ⟨j, z, _⟩ := isD_if (List.all_eq_true.mp h.2 x hx) hi
      omega
    rw [e]
    show (ln v : Int) = ln v + 0
    omega
theorem cnt_ok : ∀ (i n : Nat) (v : D), i < n → fine v = true → areD i v = true → ∀ B L, R_count_deeds n [.d v] B L = .ok (.d (.int (cnt i v))) L
  | _, 0, _, h, _, _, _, _ => by omega
  | i, n + 1, v, h, hv, ha, B, L => by
    rw [R_count_deeds]
    obtain ⟨f1, f2⟩ := fine_its hv
    have ha' := ha
    rw [areD_eq, Bool.and_eq_true] at ha'
    obtain ⟨h1, h2⟩ := ha'
    refine x_pfn rfl fun B' => x_seq (x_asg (w := .d (.lst ((((its v).filter isIf).map (inner i)).map D.int))) (L1 := []) (x_comp (x_iE (x_var rfl) rfl (items_tup h1)) ?_) x_gvar) (x_thenN ?_)
    · refine (comp_fil (f := fun x => .int (inner i x)) (p := isIf) _ [] (fun x hx => ?_) (fun x hx hi => ?_) ?_).trans ?_
      · obtain ⟨s, m, hm, ht⟩ := isD_tree (List.all_eq_true.mp h2 x hx)
        obtain ⟨t1, t2, t3⟩ := tree_tup ht
        exact x_tE (x_2 (x_2 (x_var rfl) x_c rfl rfl (ix_tup (i := 0) t1 (by omega))) x_c rfl rfl (eq_str (by rw [t3]; rfl))) rfl rfl
      · obtain ⟨j, rfl, t1, t2, a2, a3⟩ := isD_if (List.all_eq_true.mp h2 x hx) hi
        exact x_2 (x_call (x_cons (x_2 (x_var rfl) x_c rfl rfl (ix_tup (i := 2) t1 (by omega))) x_nil) rfl (cnt_ok j n _ (by omega) (fine_it (f2 x hx) 2) a2 _ _)) (x_call (x_cons (x_2 (x_var rfl) x_c rfl rfl (ix_tup (i := 3) t1 (by omega))) x_nil) rfl (cnt_ok j n _ (by omega) (fine_it (f2 x hx) 3) a3 _ _)) rfl rfl rfl
      · show 0 + _ ≤ _; omega
      · rw [List.nil_append, List.map_map]
        rfl
    · rw [cnt_eq ha]
      exact x_ret (x_2 (x_B (x_cons (x_var rfl) x_nil) (x_vcons rfl x_vnil) (len_tup h1)) (x_B (x_cons (x_var rfl) x_nil) (x_vcons rfl x_vnil) (sum_ints _)) rfl rfl rfl)
theorem sum_if (p : D → Bool) (f : D → Int) : ∀ l : List D, (l.map fun x => if (!p x) = true then 1 else 1 + f x).sum = (l.length : Int) + ((l.filter p).map f).sum
  | [] => rfl
  | x :: l => by
    rw [List.map_cons, List.sum_cons, sum_if p f l, List.length_cons]
    cases h : p x with
    | true =>
      rw [List.filter_cons_of_pos h, List.map_cons, List.sum_cons]
      show 1 + f x + _ = _
      omega
    | false =>
      rw [List.filter_cons_of_neg (by rw [h]; exact Bool.false_ne_true)]
      show 1 + _ = _
      omega
theorem ln_its {v : D} (h : isTup v = true) : ln v = (its v).length := by
  cases v <;> first | rfl | cases h
theorem ne_str {v : D} {s : List Nat} (h : isStr v = true) : opNe v (.str s) = some (.bl (!deq v s)) := by
  cases v <;> first | rfl | cases h
theorem lcnt_ok : ∀ (i n : Nat) (v : D), i < n → fine v = true → areD i v = true → ∀ B L, R__law_many_deeds n [.d v] B L = .ok (.d (.int (cnt i v))) L
  | _, 0, _, h, _, _, _, _ => by omega
  | i, n + 1, v, h, hv, ha, B, L => by
    rw [R__law_many_deeds]
    obtain ⟨f1, f2⟩ := fine_its hv
    have ha' := ha
    rw [areD_eq, Bool.and_eq_true] at ha'
    obtain ⟨h1, h2⟩ := ha'
    have e : cnt i v = ((its v).map fun x => if (!isIf x) = true then 1 else 1 + inner i x).sum := by
      rw [sum_if, cnt_eq ha, ln_its h1]
    rw [e]
    refine x_pfn rfl fun B' => x_ret (x_B (ps := [.lst (((its v).map fun x => if (!isIf x) = true then 1 else 1 + inner i x).map D.int)]) (x_cons (x_comp (x_iE (x_var rfl) rfl (items_tup h1)) ?_) x_nil) (x_vcons rfl x_vnil) (sum_ints _))
    refine (comp_map (f := fun x => .int (if (!isIf x) = true then 1 else 1 + inner i x)) _ [] (fun x hx => ?_) ?_).trans ?_
    · obtain ⟨s, m, hm, ht⟩ := isD_tree (List.all_eq_true.mp h2 x hx)
      obtain ⟨t1, t2, t3⟩ := tree_tup ht
      have ff : D.int (if (!isIf x) = true then 1 else 1 + inner i x) = (if (!isIf x) = true then D.int 1 else D.int (1 + inner i x)) := by split <;> rfl
      rw [ff]
      refine z_if (x_tE (x_2 (x_2 (x_var rfl) x_c rfl rfl (ix_tup (i := 0) t1 (by omega))) x_c rfl rfl (ne_str (by rw [t3]; rfl))) rfl rfl) (fun _ => x_c) fun hi => ?_
      have hi : isIf x = true := by simpa using hi
      obtain ⟨j, rfl, t1, t2, a2, a3⟩ := isD_if (List.all_eq_true.mp h2 x hx) hi
      refine x_2 (x_2 x_c (x_call (x_cons (x_2 (x_var rfl) x_c rfl rfl (ix_tup (i := 2) t1 (by omega))) x_nil) rfl (lcnt_ok j n _ (by omega) (fine_it (f2 x hx) 2) a2 _ _)) rfl rfl rfl) (x_call (x_cons (x_2 (x_var rfl) x_c rfl rfl (ix_tup (i := 3) t1 (by omega))) x_nil) rfl (lcnt_ok j n _ (by omega) (fine_it (f2 x hx) 3) a3 _ _)) rfl rfl ?_
      show some (D.int (1 + cnt j (it x 2) + cnt j (it x 3))) = some (D.int (1 + (cnt j (it x 2) + cnt j (it x 3))))
      rw [Int.add_assoc]
    · show 0 + _ ≤ _; omega
    · rw [List.nil_append, List.map_map]
      rfl
def isH (v : D) : Bool := areD 3 v && decide (cnt 3 v ≤ 12)
theorem handler_ok (v : D) (hv : fine v = true) (B L : Hs) : F_is_handler [.d v] B L = .ok (.d (.bl (isH v))) L := by
  unfold F_is_handler
  exact x_pfn rfl fun B' => x_ret (z_and (x_call (x_cons (x_var rfl) (x_cons x_c x_nil)) rfl (areD_ok 3 12 v (by decide) hv _ _)) fun h => x_2 (x_call (x_cons (x_var rfl) x_nil) rfl (cnt_ok 3 12 v (by decide) hv h _ _)) x_c rfl rfl rfl)
theorem lhandler_ok (v : D) (hv : fine v = true) (B L : Hs) : F__law_is_handler [.d v] B L = .ok (.d (.bl (isH v))) L := by
  unfold F__law_is_handler
  have e : isH v = (areD 3 v && decide (cnt 3 v < 13)) := by
    unfold isH
    congr 1
    rw [Bool.eq_iff_iff, decide_eq_true_eq, decide_eq_true_eq]
    omega
  rw [e]
  exact x_pfn rfl fun B' => x_ret (z_and (x_call (x_cons (x_var rfl) (x_cons x_c x_nil)) rfl (lareD_ok 3 12 v (by decide) hv _ _)) fun h => x_2 (x_call (x_cons (x_var rfl) x_nil) rfl (lcnt_ok 3 12 v (by decide) hv h _ _)) x_c rfl rfl rfl)
end K02
end Ev

set_option linter.all false
set_option maxRecDepth 100000
set_option maxHeartbeats 1000000
namespace Ev
namespace K02
abbrev sCells : List Nat := [99, 101, 108, 108, 115]
abbrev sAt : List Nat := [97, 116]
abbrev sRest : List Nat := [114, 101, 115, 116]
def pen (cs : List D) (b r : Int) : Ob := .dct [.str sCells, .str sAt, .str sRest] [.d (.lst cs), .d (.int b), .d (.int r)]
def dP (cs : List D) (b r : Int) : D := .dct [.str sCells, .str sAt, .str sRest] [.lst cs, .int b, .int r]
section
variable {cs : List D} {b r z : Int} {R : Hs}
theorem v_pen : vw [] (pen cs b r :: R) (.ref 0) = some (dP cs b r) := rfl
theorem i_rest : opIx (dP cs b r) (.str [114, 101, 115, 116]) = some (.int r) := rfl
theorem i_at : opIx (dP cs b r) (.str [97, 116]) = some (.int b) := rfl
theorem i_cells : opIx (dP cs b r) (.str [99, 101, 108, 108, 115]) = some (.lst cs) := rfl
theorem p_rest : putIn [] (pen cs b r :: R) (.ref 0) (.str [114, 101, 115, 116]) (.d (.int z)) = some (pen cs b z :: R) := rfl
theorem p_at : putIn [] (pen cs b r :: R) (.ref 0) (.str [97, 116]) (.d (.int z)) = some (pen cs z r :: R) := rfl
end
theorem p18 : opPow (.int 10) (.int 18) = some (.int 1000000000000000000) := rfl
theorem mulOk_l {m n : Int} (h : m.natAbs < 2 ^ 64) : mulOk m n = true := by
  unfold mulOk
  rw [decide_eq_true h]
  rfl
theorem mulOk_r {m n : Int} (h : n.natAbs < 2 ^ 64) : mulOk m n = true := by
  unfold mulOk
  rw [decide_eq_true h]
  cases decide (m.natAbs < 2 ^ 64) <;> rfl
theorem log2_400 {n : Nat} (h : n < 2 ^ 400) : n.log2 < 400 := by
  by_cases h0 : n = 0
  · subst h0; decide +kernel
  · exact (Nat.log2_lt h0).mpr h
theorem mulOk_s {m n : Int} (h1 : m.natAbs < 2 ^ 400) (h2 : n.natAbs < 2 ^ 400) : mulOk m n = true := by
  have a := log2_400 h1
  have b := log2_400 h2
  unfold mulOk
  rw [decide_eq_true (show m.natAbs.log2 + n.natAbs.log2 < 1000000 by omega), Bool.or_true]
theorem draw_rest (cs : List D) (b r m : Int) (R : Hs) (hr : 0 < r) (hm : 0 < m) (hg : m.natAbs.log2 < 9000) : F__law_draw [.ref 0, .d (.int m)] [] (pen cs b r :: R) = .ok (.d (.int (r % m))) (pen cs b (r / m) :: R) := by
  unfold F__law_draw
  refine x_fn rfl (r1 := .ret (.d (.int (r % m))) (pen cs b (r / m) :: R)) ?_ rfl
  (repeat' (first | (with_reducible first | exact v_pen | exact i_rest | exact i_at | exact i_cells | exact p_rest | exact p_at | exact p18 | exact r_ok | exact x_c | exact x_nil | exact x_vnil | exact x_pnil | exact x_snil | exact x_gvar | exact x_gnil | exact x_oNone | exact v_d | exact t_bl | exact t_int | exact t_non | exact o_add | exact o_sub | exact o_lt | exact o_le | exact o_gt | exact o_ge | exact o_eqI | exact o_eqS | exact o_neI | exact o_neS | exact b_len | exact b_lenT | exact b_lenS | exact b_abs | exact b_int | exact b_intB | exact b_max | exact b_min | exact w_nil | apply w_cons | exact x_fornil | exact x_turnB | exact x_turnR | exact e_ret | exact e_next | exact o_out | apply x_for | apply x_forcons | apply x_turnN | apply x_turnC | apply x_iE | apply x_fn | apply x_pure | apply a_lst | apply a_tup | apply x_seq | apply x_thenN | exact x_thenR | exact x_thenB | exact x_thenC | apply x_2 | apply x_1 | apply x_cons | apply x_B | apply x_vcons | apply x_star | apply x_tup | apply x_lst | apply x_call | apply x_callK | apply x_tE | apply x_tNot | apply x_not | apply x_isN | apply x_notN | apply x_oSome | apply x_sl | apply x_app | apply x_ext | apply x_pop | apply x_inN | apply x_gitem | apply x_listM | apply x_lstM | apply x_parN | apply x_tIf | exact l_own | exact l_some | apply x_tAnd | apply x_tOr | apply x_if | apply x_and | apply x_or | apply x_chain | apply x_ch2 | apply x_ex | apply x_pcons | apply x_dct | apply x_dctM | apply x_ret | apply x_expr | apply x_sif | apply x_asg | apply x_gtup | apply x_gcons | apply x_par | apply x_par3 | apply x_dput | apply o_mod | apply o_fdiv | apply o_mul | apply o_pow ) | ((with_reducible apply x_var); rfl) | ((with_reducible apply br1); (first | (apply decide_eq_true; omega) | (apply decide_eq_false; omega) | (apply decide_eq_true; with_reducible assumption) | (apply decide_eq_false; with_reducible assumption) | decide +kernel)) | ((with_reducible apply br0); (first | (apply decide_eq_true; omega) | (apply decide_eq_false; omega) | (apply decide_eq_true; with_reducible assumption) | (apply decide_eq_false; with_reducible assumption) | decide +kernel)) | ((with_reducible show List.length _ = _); rfl) | ((with_reducible show vw _ _ _ = _); rfl) | ((with_reducible show putAt _ _ _ _ _ = _); rfl) | ((with_reducible show putIn _ _ _ _ _ = _); rfl) | ((with_reducible show ownAll _ _ _ = _); rfl) | ((with_reducible show tupD _ = _); rfl) | ((with_reducible show seqD _ = _); rfl) | ((with_reducible show intD _ = _); rfl) | ((with_reducible show still _ _ _ = _); rfl) | ((with_reducible show items _ = _); rfl) | ((with_reducible show opIx _ _ = _); rfl) | ((with_reducible show (List.all _ _ && _) = true); rfl) | ((with_reducible show opItems _ = _); rfl) | ((with_reducible show bDict _ = _); rfl) | ((with_reducible show bIsi _ _ = _); rfl) | ((with_reducible show List.set _ _ _ = _); rfl) | ((with_reducible show seqS _ = _); rfl) | ((with_reducible show lstD _ = _); rfl) | ((with_reducible show setAll _ _ _ = _); rfl) | ((with_reducible show _ ≤ sizeL); exact Nat.le_of_ble_eq_true rfl)))
  · exact hm
  · exact ⟨hm, hg⟩
theorem ix_of {cs : List D} (hcs : ∀ d ∈ cs, ∃ i, d = D.int i) {j : Int} (h0 : 0 ≤ j) (h1 : j < (cs.length : Int)) : ∃ c : Int, opIx (.lst cs) (.int j) = some (.int c) := by
  have hl : j.toNat < cs.length := by omega
  obtain ⟨c, hc⟩ := hcs cs[j.toNat] (List.getElem_mem hl)
  refine ⟨c, ?_⟩
  show atI cs j = _
  unfold atI ixN
  rw [if_pos h0, if_pos h1]
  show cs[j.toNat]? = _
  rw [List.getElem?_eq_getElem hl, hc]
theorem drawn {S : SS} {cs : List D} {b r m y r' : Int} {R : Hs} (hm : 0 < m) (h : S [] [some (.ref 0), some (.d (.int m)), none, none, none, none] (pen cs b r :: R) = .ret (.d (.int (y % m))) (pen cs (b + 1) r' :: R)) :
    ∃ x r' : Int, fnBody 2 6 S [.ref 0, .d (.int m)] [] (pen cs b r :: R) = .ok (.d (.int x)) (pen cs (b + 1) r' :: R) ∧ 0 ≤ x ∧ x < m :=
  ⟨y % m, r', x_fn rfl h rfl, Int.emod_nonneg y (by omega), Int.emod_lt_of_pos y hm⟩
theorem ne_cs {cs : List D} : opNe (.lst cs) (.lst []) = some (.bl (!cs.isEmpty)) := rfl
theorem draw_new (cs : List D) (hcs : ∀ d ∈ cs, ∃ i, d = D.int i) (b r m : Int) (R : Hs) (hr : ¬ 0 < r) (hb : 0 ≤ b) (hb2 : b ≤ 1099511627776) (hm : 0 < m) (hg : m.natAbs.log2 < 9000) :
    ∃ x r' : Int, F__law_draw [.ref 0, .d (.int m)] [] (pen cs b r :: R) = .ok (.d (.int x)) (pen cs (b + 1) r' :: R) ∧ 0 ≤ x ∧ x < m := by
  unfold F__law_draw
  by_cases hs : 0 < (cs.length : Int)
  · have he : (!cs.isEmpty) = true := by
      cases cs with
      | nil => exact absurd hs (by decide)
      | cons _ _ => rfl
    obtain ⟨c, hc⟩ := ix_of hcs (j := b % (cs.length : Int)) (Int.emod_nonneg b (by omega)) (Int.emod_lt_of_pos b hs)
    by_cases h1 : b < (cs.length : Int)
    · by_cases h2 : 1000000000000000000 ≤ (if c < 0 then -c else c)
      · apply drawn hm
        (repeat' (first | (with_reducible first | exact v_pen | exact i_rest | exact i_at | exact i_cells | exact p_rest | exact p_at | exact p18 | exact hc | exact ne_cs | exact he | (apply br1; exact he) | exact r_ok | exact x_c | exact x_nil | exact x_vnil | exact x_pnil | exact x_snil | exact x_gvar | exact x_gnil | exact x_oNone | exact v_d | exact t_bl | exact t_int | exact t_non | exact o_add | exact o_sub | exact o_lt | exact o_le | exact o_gt | exact o_ge | exact o_eqI | exact o_eqS | exact o_neI | exact o_neS | exact b_len | exact b_lenT | exact b_lenS | exact b_abs | exact b_int | exact b_intB | exact b_max | exact b_min | exact w_nil | apply w_cons | exact x_fornil | exact x_turnB | exact x_turnR | exact e_ret | exact e_next | exact o_out | apply x_for | apply x_forcons | apply x_turnN | apply x_turnC | apply x_iE | apply x_fn | apply x_pure | apply a_lst | apply a_tup | apply x_seq | apply x_thenN | exact x_thenR | exact x_thenB | exact x_thenC | apply x_2 | apply x_1 | apply x_cons | apply x_B | apply x_vcons | apply x_star | apply x_tup | apply x_lst | apply x_call | apply x_callK | apply x_tE | apply x_tNot | apply x_not | apply x_isN | apply x_notN | apply x_oSome | apply x_sl | apply x_app | apply x_ext | apply x_pop | apply x_inN | apply x_gitem | apply x_listM | apply x_lstM | apply x_parN | apply x_tIf | exact l_own | exact l_some | apply x_tAnd | apply x_tOr | apply x_if | apply x_and | apply x_or | apply x_chain | apply x_ch2 | apply x_ex | apply x_pcons | apply x_dct | apply x_dctM | apply x_ret | apply x_expr | apply x_sif | apply x_asg | apply x_gtup | apply x_gcons | apply x_par | apply x_par3 | apply x_dput | apply o_mod | apply o_fdiv | apply o_mul | apply o_pow ) | ((with_reducible apply x_var); rfl) | ((with_reducible apply br1); (first | (apply decide_eq_true; omega) | (apply decide_eq_false; omega) | (apply decide_eq_true; with_reducible assumption) | (apply decide_eq_false; with_reducible assumption) | decide +kernel)) | ((with_reducible apply br0); (first | (apply decide_eq_true; omega) | (apply decide_eq_false; omega) | (apply decide_eq_true; with_reducible assumption) | (apply decide_eq_false; with_reducible assumption) | decide +kernel)) | ((with_reducible show List.length _ = _); rfl) | ((with_reducible show vw _ _ _ = _); rfl) | ((with_reducible show putAt _ _ _ _ _ = _); rfl) | ((with_reducible show putIn _ _ _ _ _ = _); rfl) | ((with_reducible show ownAll _ _ _ = _); rfl) | ((with_reducible show tupD _ = _); rfl) | ((with_reducible show seqD _ = _); rfl) | ((with_reducible show intD _ = _); rfl) | ((with_reducible show still _ _ _ = _); rfl) | ((with_reducible show items _ = _); rfl) | ((with_reducible show opIx _ _ = _); rfl) | ((with_reducible show (List.all _ _ && _) = true); rfl) | ((with_reducible show opItems _ = _); rfl) | ((with_reducible show bDict _ = _); rfl) | ((with_reducible show bIsi _ _ = _); rfl) | ((with_reducible show List.set _ _ _ = _); rfl) | ((with_reducible show seqS _ = _); rfl) | ((with_reducible show lstD _ = _); rfl) | ((with_reducible show setAll _ _ _ = _); rfl) | ((with_reducible show _ ≤ sizeL); exact Nat.le_of_ble_eq_true rfl)))
        all_goals (first | omega | decide +kernel | (refine ⟨?_, ?_⟩ <;> first | omega | decide +kernel) | (apply mulOk_l; omega) | (apply mulOk_r; omega) | (apply mulOk_s <;> omega))
      · apply drawn hm
        (repeat' (first | (with_reducible first | exact v_pen | exact i_rest | exact i_at | exact i_cells | exact p_rest | exact p_at | exact p18 | exact hc | exact ne_cs | exact he | (apply br1; exact he) | exact r_ok | exact x_c | exact x_nil | exact x_vnil | exact x_pnil | exact x_snil | exact x_gvar | exact x_gnil | exact x_oNone | exact v_d | exact t_bl | exact t_int | exact t_non | exact o_add | exact o_sub | exact o_lt | exact o_le | exact o_gt | exact o_ge | exact o_eqI | exact o_eqS | exact o_neI | exact o_neS | exact b_len | exact b_lenT | exact b_lenS | exact b_abs | exact b_int | exact b_intB | exact b_max | exact b_min | exact w_nil | apply w_cons | exact x_fornil | exact x_turnB | exact x_turnR | exact e_ret | exact e_next | exact o_out | apply x_for | apply x_forcons | apply x_turnN | apply x_turnC | apply x_iE | apply x_fn | apply x_pure | apply a_lst | apply a_tup | apply x_seq | apply x_thenN | exact x_thenR | exact x_thenB | exact x_thenC | apply x_2 | apply x_1 | apply x_cons | apply x_B | apply x_vcons | apply x_star | apply x_tup | apply x_lst | apply x_call | apply x_callK | apply x_tE | apply x_tNot | apply x_not | apply x_isN | apply x_notN | apply x_oSome | apply x_sl | apply x_app | apply x_ext | apply x_pop | apply x_inN | apply x_gitem | apply x_listM | apply x_lstM | apply x_parN | apply x_tIf | exact l_own | exact l_some | apply x_tAnd | apply x_tOr | apply x_if | apply x_and | apply x_or | apply x_chain | apply x_ch2 | apply x_ex | apply x_pcons | apply x_dct | apply x_dctM | apply x_ret | apply x_expr | apply x_sif | apply x_asg | apply x_gtup | apply x_gcons | apply x_par | apply x_par3 | apply x_dput | apply o_mod | apply o_fdiv | apply o_mul | apply o_pow ) | ((with_reducible apply x_var); rfl) | ((with_reducible apply br1); (first | (apply decide_eq_true; omega) | (apply decide_eq_false; omega) | (apply decide_eq_true; with_reducible assumption) | (apply decide_eq_false; with_reducible assumption) | decide +kernel)) | ((with_reducible apply br0); (first | (apply decide_eq_true; omega) | (apply decide_eq_false; omega) | (apply decide_eq_true; with_reducible assumption) | (apply decide_eq_false; with_reducible assumption) | decide +kernel)) | ((with_reducible show List.length _ = _); rfl) | ((with_reducible show vw _ _ _ = _); rfl) | ((with_reducible show putAt _ _ _ _ _ = _); rfl) | ((with_reducible show putIn _ _ _ _ _ = _); rfl) | ((with_reducible show ownAll _ _ _ = _); rfl) | ((with_reducible show tupD _ = _); rfl) | ((with_reducible show seqD _ = _); rfl) | ((with_reducible show intD _ = _); rfl) | ((with_reducible show still _ _ _ = _); rfl) | ((with_reducible show items _ = _); rfl) | ((with_reducible show opIx _ _ = _); rfl) | ((with_reducible show (List.all _ _ && _) = true); rfl) | ((with_reducible show opItems _ = _); rfl) | ((with_reducible show bDict _ = _); rfl) | ((with_reducible show bIsi _ _ = _); rfl) | ((with_reducible show List.set _ _ _ = _); rfl) | ((with_reducible show seqS _ = _); rfl) | ((with_reducible show lstD _ = _); rfl) | ((with_reducible show setAll _ _ _ = _); rfl) | ((with_reducible show _ ≤ sizeL); exact Nat.le_of_ble_eq_true rfl)))
        all_goals (first | omega | decide +kernel | (refine ⟨?_, ?_⟩ <;> first | omega | decide +kernel) | (apply mulOk_l; omega) | (apply mulOk_r; omega) | (apply mulOk_s <;> omega))
    · apply drawn hm
      (repeat' (first | (with_reducible first | exact v_pen | exact i_rest | exact i_at | exact i_cells | exact p_rest | exact p_at | exact p18 | exact hc | exact ne_cs | exact he | (apply br1; exact he) | exact r_ok | exact x_c | exact x_nil | exact x_vnil | exact x_pnil | exact x_snil | exact x_gvar | exact x_gnil | exact x_oNone | exact v_d | exact t_bl | exact t_int | exact t_non | exact o_add | exact o_sub | exact o_lt | exact o_le | exact o_gt | exact o_ge | exact o_eqI | exact o_eqS | exact o_neI | exact o_neS | exact b_len | exact b_lenT | exact b_lenS | exact b_abs | exact b_int | exact b_intB | exact b_max | exact b_min | exact w_nil | apply w_cons | exact x_fornil | exact x_turnB | exact x_turnR | exact e_ret | exact e_next | exact o_out | apply x_for | apply x_forcons | apply x_turnN | apply x_turnC | apply x_iE | apply x_fn | apply x_pure | apply a_lst | apply a_tup | apply x_seq | apply x_thenN | exact x_thenR | exact x_thenB | exact x_thenC | apply x_2 | apply x_1 | apply x_cons | apply x_B | apply x_vcons | apply x_star | apply x_tup | apply x_lst | apply x_call | apply x_callK | apply x_tE | apply x_tNot | apply x_not | apply x_isN | apply x_notN | apply x_oSome | apply x_sl | apply x_app | apply x_ext | apply x_pop | apply x_inN | apply x_gitem | apply x_listM | apply x_lstM | apply x_parN | apply x_tIf | exact l_own | exact l_some | apply x_tAnd | apply x_tOr | apply x_if | apply x_and | apply x_or | apply x_chain | apply x_ch2 | apply x_ex | apply x_pcons | apply x_dct | apply x_dctM | apply x_ret | apply x_expr | apply x_sif | apply x_asg | apply x_gtup | apply x_gcons | apply x_par | apply x_par3 | apply x_dput | apply o_mod | apply o_fdiv | apply o_mul | apply o_pow ) | ((with_reducible apply x_var); rfl) | ((with_reducible apply br1); (first | (apply decide_eq_true; omega) | (apply decide_eq_false; omega) | (apply decide_eq_true; with_reducible assumption) | (apply decide_eq_false; with_reducible assumption) | decide +kernel)) | ((with_reducible apply br0); (first | (apply decide_eq_true; omega) | (apply decide_eq_false; omega) | (apply decide_eq_true; with_reducible assumption) | (apply decide_eq_false; with_reducible assumption) | decide +kernel)) | ((with_reducible show List.length _ = _); rfl) | ((with_reducible show vw _ _ _ = _); rfl) | ((with_reducible show putAt _ _ _ _ _ = _); rfl) | ((with_reducible show putIn _ _ _ _ _ = _); rfl) | ((with_reducible show ownAll _ _ _ = _); rfl) | ((with_reducible show tupD _ = _); rfl) | ((with_reducible show seqD _ = _); rfl) | ((with_reducible show intD _ = _); rfl) | ((with_reducible show still _ _ _ = _); rfl) | ((with_reducible show items _ = _); rfl) | ((with_reducible show opIx _ _ = _); rfl) | ((with_reducible show (List.all _ _ && _) = true); rfl) | ((with_reducible show opItems _ = _); rfl) | ((with_reducible show bDict _ = _); rfl) | ((with_reducible show bIsi _ _ = _); rfl) | ((with_reducible show List.set _ _ _ = _); rfl) | ((with_reducible show seqS _ = _); rfl) | ((with_reducible show lstD _ = _); rfl) | ((with_reducible show setAll _ _ _ = _); rfl) | ((with_reducible show _ ≤ sizeL); exact Nat.le_of_ble_eq_true rfl)))
      all_goals (first | omega | decide +kernel | (refine ⟨?_, ?_⟩ <;> first | omega | decide +kernel) | (apply mulOk_l; omega) | (apply mulOk_r; omega) | (apply mulOk_s <;> omega))
  · have he : (!cs.isEmpty) = false := by
      cases cs with
      | nil => rfl
      | cons _ _ => exact absurd (by rw [List.length_cons]; omega) hs
    apply drawn hm
    (repeat' (first | (with_reducible first | exact v_pen | exact i_rest | exact i_at | exact i_cells | exact p_rest | exact p_at | exact p18 | exact ne_cs | (apply br0; exact he) | exact r_ok | exact x_c | exact x_nil | exact x_vnil | exact x_pnil | exact x_snil | exact x_gvar | exact x_gnil | exact x_oNone | exact v_d | exact t_bl | exact t_int | exact t_non | exact o_add | exact o_sub | exact o_lt | exact o_le | exact o_gt | exact o_ge | exact o_eqI | exact o_eqS | exact o_neI | exact o_neS | exact b_len | exact b_lenT | exact b_lenS | exact b_abs | exact b_int | exact b_intB | exact b_max | exact b_min | exact w_nil | apply w_cons | exact x_fornil | exact x_turnB | exact x_turnR | exact e_ret | exact e_next | exact o_out | apply x_for | apply x_forcons | apply x_turnN | apply x_turnC | apply x_iE | apply x_fn | apply x_pure | apply a_lst | apply a_tup | apply x_seq | apply x_thenN | exact x_thenR | exact x_thenB | exact x_thenC | apply x_2 | apply x_1 | apply x_cons | apply x_B | apply x_vcons | apply x_star | apply x_tup | apply x_lst | apply x_call | apply x_callK | apply x_tE | apply x_tNot | apply x_not | apply x_isN | apply x_notN | apply x_oSome | apply x_sl | apply x_app | apply x_ext | apply x_pop | apply x_inN | apply x_gitem | apply x_listM | apply x_lstM | apply x_parN | apply x_tIf | exact l_own | exact l_some | apply x_tAnd | apply x_tOr | apply x_if | apply x_and | apply x_or | apply x_chain | apply x_ch2 | apply x_ex | apply x_pcons | apply x_dct | apply x_dctM | apply x_ret | apply x_expr | apply x_sif | apply x_asg | apply x_gtup | apply x_gcons | apply x_par | apply x_par3 | apply x_dput | apply o_mod | apply o_fdiv | apply o_mul | apply o_pow ) | ((with_reducible apply x_var); rfl) | ((with_reducible apply br1); (first | (apply decide_eq_true; omega) | (apply decide_eq_false; omega) | (apply decide_eq_true; with_reducible assumption) | (apply decide_eq_false; with_reducible assumption) | decide +kernel)) | ((with_reducible apply br0); (first | (apply decide_eq_true; omega) | (apply decide_eq_false; omega) | (apply decide_eq_true; with_reducible assumption) | (apply decide_eq_false; with_reducible assumption) | decide +kernel)) | ((with_reducible show List.length _ = _); rfl) | ((with_reducible show vw _ _ _ = _); rfl) | ((with_reducible show putAt _ _ _ _ _ = _); rfl) | ((with_reducible show putIn _ _ _ _ _ = _); rfl) | ((with_reducible show ownAll _ _ _ = _); rfl) | ((with_reducible show tupD _ = _); rfl) | ((with_reducible show seqD _ = _); rfl) | ((with_reducible show intD _ = _); rfl) | ((with_reducible show still _ _ _ = _); rfl) | ((with_reducible show items _ = _); rfl) | ((with_reducible show opIx _ _ = _); rfl) | ((with_reducible show (List.all _ _ && _) = true); rfl) | ((with_reducible show opItems _ = _); rfl) | ((with_reducible show bDict _ = _); rfl) | ((with_reducible show bIsi _ _ = _); rfl) | ((with_reducible show List.set _ _ _ = _); rfl) | ((with_reducible show seqS _ = _); rfl) | ((with_reducible show lstD _ = _); rfl) | ((with_reducible show setAll _ _ _ = _); rfl) | ((with_reducible show _ ≤ sizeL); exact Nat.le_of_ble_eq_true rfl)))
    all_goals (first | omega | decide +kernel | (refine ⟨?_, ?_⟩ <;> first | omega | decide +kernel) | (apply mulOk_l; omega) | (apply mulOk_r; omega) | (apply mulOk_s <;> omega))
end K02
end Ev

set_option linter.all false
set_option maxRecDepth 100000
set_option maxHeartbeats 1000000
namespace Ev
namespace K02
/-- a pen, drawn from at most N times -/
def Pn (N : Int) (L : Hs) : Prop := ∃ cs b r R, L = pen cs b r :: R ∧ (∀ d ∈ cs, ∃ i, d = D.int i) ∧ 0 ≤ b ∧ b ≤ N
/-- all else stays -/
def Fr (L L' : Hs) : Prop := L.length ≤ L'.length ∧ ∀ j, 0 < j → j < L.length → L'[j]? = L[j]?
theorem Fr.refl (L : Hs) : Fr L L := ⟨Nat.le_refl _, fun _ _ _ => rfl⟩
theorem Fr.trans {L L1 L2 : Hs} (a : Fr L L1) (b : Fr L1 L2) : Fr L L2 := ⟨Nat.le_trans a.1 b.1, fun j h0 h1 => (b.2 j h0 (Nat.lt_of_lt_of_le h1 a.1)).trans (a.2 j h0 h1)⟩
theorem Fr.pen {cs cs' : List D} {b b' r r' : Int} {R : Hs} : Fr (K02.pen cs b r :: R) (K02.pen cs' b' r' :: R) := ⟨Nat.le_refl _, fun j h0 _ => by
  obtain ⟨k, rfl⟩ : ∃ k, j = k + 1 := ⟨j - 1, by omega⟩
  rfl⟩
theorem Fr.add {L : Hs} (o : Ob) : Fr L (L ++ [o]) := ⟨by rw [List.length_append]; omega, fun j _ h => List.getElem?_append_left h⟩
theorem Pn.mono {N N' : Int} {L : Hs} (h : Pn N L) (hN : N ≤ N') : Pn N' L := by
  obtain ⟨cs, b, r, R, e, hc, h0, h1⟩ := h
  exact ⟨cs, b, r, R, e, hc, h0, by omega⟩
theorem Pn.add {N : Int} {L : Hs} (h : Pn N L) (o : Ob) : Pn N (L ++ [o]) := by
  obtain ⟨cs, b, r, R, rfl, hc, h0, h1⟩ := h
  exact ⟨cs, b, r, R ++ [o], rfl, hc, h0, h1⟩
theorem Pn.len {N : Int} {L : Hs} (h : Pn N L) : 0 < L.length := by
  obtain ⟨cs, b, r, R, rfl, _⟩ := h
  exact Nat.succ_pos _
theorem draw_ok {N m : Int} {L : Hs} (h : Pn N L) (hN : N ≤ 1099511627776) (hm : 0 < m) (hg : m.natAbs.log2 < 9000) :
    ∃ (x : Int) (L' : Hs), F__law_draw [.ref 0, .d (.int m)] [] L = .ok (.d (.int x)) L' ∧ Pn (N + 1) L' ∧ Fr L L' ∧ 0 ≤ x ∧ x < m := by
  obtain ⟨cs, b, r, R, rfl, hcs, h0, h1⟩ := h
  by_cases hr : 0 < r
  · exact ⟨r % m, _, draw_rest cs b r m R hr hm hg, ⟨cs, b, r / m, R, rfl, hcs, h0, by omega⟩, Fr.pen, Int.emod_nonneg r (by omega), Int.emod_lt_of_pos r hm⟩
  · obtain ⟨x, r', e, h2, h3⟩ := draw_new cs hcs b r m R hr h0 (by omega) hm hg
    exact ⟨x, _, e, ⟨cs, b + 1, r', R, rfl, hcs, by omega, by omega⟩, Fr.pen, h2, h3⟩
theorem log2_small {m : Int} (h : m.natAbs < 2000) (h0 : m.natAbs ≠ 0) : m.natAbs.log2 < 9000 := by
  have : m.natAbs.log2 < 11 := (Nat.log2_lt h0).mpr (by omega)
  omega
theorem ix_at {xs : List D} {j : Int} (h0 : 0 ≤ j) (h1 : j < (xs.length : Int)) : ∃ y ∈ xs, opIx (.lst xs) (.int j) = some y := by
  have hl : j.toNat < xs.length := by omega
  refine ⟨xs[j.toNat], List.getElem_mem hl, ?_⟩
  show atI xs j = _
  unfold atI ixN
  rw [if_pos h0, if_pos h1]
  show xs[j.toNat]? = _
  rw [List.getElem?_eq_getElem hl]
theorem ixS_at {s : List Nat} {j : Int} (hl : s.length ≤ 1000) (h0 : 0 ≤ j) (h1 : j < (s.length : Int)) : ∃ c ∈ s, opIx (.str s) (.int j) = some (.str [c]) := by
  have hj : j.toNat < s.length := by omega
  refine ⟨s[j.toNat], List.getElem_mem hj, ?_⟩
  show (if s.length ≤ sizeL then (atI s j).map (fun c => D.str [c]) else none) = _
  rw [if_pos (by show _ ≤ 16777216; omega)]
  unfold atI ixN
  rw [if_pos h0, if_pos h1]
  show (s[j.toNat]?).map _ = _
  rw [List.getElem?_eq_getElem hj]
  rfl
theorem pickW {N : Int} {L : Hs} {w : W} {xs : List D} (h : Pn N L) (hN : N ≤ 1099511627776) (hw : ∀ L', Fr L L' → vw [] L' w = some (.lst xs)) (h0 : 0 < xs.length) (hx : xs.length < 1000) :
    ∃ (y : D) (L' : Hs), F__law_pick [.ref 0, w] [] L = .ok (.d y) L' ∧ Pn (N + 1) L' ∧ Fr L L' ∧ y ∈ xs := by
  obtain ⟨x, L', e, ht, fr, h2, h3⟩ := draw_ok h hN (m := (xs.length : Int)) (by omega) (log2_small (by omega) (by omega))
  obtain ⟨y, hy, ey⟩ := ix_at h2 h3
  refine ⟨y, L', ?_, ht, fr, hy⟩
  unfold F__law_pick
  exact x_fn (r1 := .ret (.d y) L') rfl (x_ret (x_2 (x_var rfl) (x_call (x_cons (x_var rfl) (x_cons (x_B (x_cons (x_var rfl) x_nil) (x_vcons (hw L (Fr.refl L)) x_vnil) rfl) x_nil)) rfl e) (hw L' fr) rfl ey)) rfl
theorem pick_ok {N : Int} {L : Hs} {xs : List D} (h : Pn N L) (hN : N ≤ 1099511627776) (h0 : 0 < xs.length) (hx : xs.length < 1000) :
    ∃ (y : D) (L' : Hs), F__law_pick [.ref 0, .d (.lst xs)] [] L = .ok (.d y) L' ∧ Pn (N + 1) L' ∧ Fr L L' ∧ y ∈ xs := pickW h hN (fun _ _ => rfl) h0 hx
theorem pickS_ok {N : Int} {L : Hs} {s : List Nat} (h : Pn N L) (hN : N ≤ 1099511627776) (h0 : 0 < s.length) (hx : s.length < 1000) :
    ∃ (c : Nat) (L' : Hs), F__law_pick [.ref 0, .d (.str s)] [] L = .ok (.d (.str [c])) L' ∧ Pn (N + 1) L' ∧ Fr L L' ∧ c ∈ s := by
  obtain ⟨x, L', e, ht, fr, h2, h3⟩ := draw_ok h hN (m := (s.length : Int)) (by omega) (log2_small (by omega) (by omega))
  obtain ⟨y, hy, ey⟩ := ixS_at (by omega) h2 h3
  refine ⟨y, L', ?_, ht, fr, hy⟩
  unfold F__law_pick
  exact x_fn (r1 := .ret (.d (.str [y])) L') rfl (x_ret (x_2 (x_var rfl) (x_call (x_cons (x_var rfl) (x_cons (x_B (x_cons (x_var rfl) x_nil) (x_vcons rfl x_vnil) (len_str (by omega))) x_nil)) rfl e) rfl rfl ey)) rfl
theorem number_ok {N : Int} {L : Hs} (h : Pn N L) (hN : N ≤ 1099511627000) :
    ∃ (n : Int) (L' : Hs), F__law_number [.ref 0] [] L = .ok (.d (.int n)) L' ∧ Pn (N + 3) L' ∧ Fr L L' ∧ -99 ≤ n ∧ n ≤ 99 := by
  obtain ⟨x1, L1, e1, t1, f1, a1, b1⟩ := draw_ok h (by omega) (m := 9) (by decide) (by decide +kernel)
  obtain ⟨x2, L2, e2, t2, f2, a2, b2⟩ := draw_ok t1 (by omega) (m := 199) (by decide) (by decide +kernel)
  obtain ⟨y, L3, e3, t3, f3, hy⟩ := pick_ok t2 (by omega) (xs := [.int (x1 - 3), .int (x1 - 3), .int (x1 - 3), .int 99, .int (-99), .int 98, .int (x2 - 99)]) (by simp) (by simp)
  have hn : ∃ n : Int, y = .int n ∧ -99 ≤ n ∧ n ≤ 99 := by
    simp only [List.mem_cons, List.not_mem_nil, or_false] at hy
    rcases hy with rfl | rfl | rfl | rfl | rfl | rfl | rfl <;> exact ⟨_, rfl, by omega, by omega⟩
  obtain ⟨n, rfl, n0, n1⟩ := hn
  refine ⟨n, L3, ?_, t3.mono (by omega), (f1.trans f2).trans f3, n0, n1⟩
  unfold F__law_number
  refine x_fn (r1 := .ret (.d (.int n)) L3) rfl ?_ rfl
  refine x_seq (x_asg (x_2 (x_call (x_cons (x_var rfl) (x_cons x_c x_nil)) rfl e1) x_c rfl rfl rfl) x_gvar) (x_thenN ?_)
  exact x_ret (x_call (x_cons (x_var rfl) (x_cons (x_lst (x_cons (x_var rfl) (x_cons (x_var rfl) (x_cons (x_var rfl) (x_cons x_c (x_cons (x_1 x_c rfl rfl) (x_cons x_c (x_cons (x_2 (x_call (x_cons (x_var rfl) (x_cons x_c x_nil)) rfl e2) x_c rfl rfl rfl) x_nil))))))) rfl (Nat.le_of_ble_eq_true rfl)) x_nil)) rfl e3)
/-! expressions as they are drawn -/
inductive Ex (ns : List (List Nat)) : Nat → D → Prop
  | val {d : Nat} {n : Int} : -99 ≤ n → n ≤ 99 → Ex ns (d + 1) (.tup [.str sVal, .int n])
  | body {d : Nat} : Ex ns (d + 1) (.tup [.str sBody])
  | row {d : Nat} {s : List Nat} : s ∈ ns → Ex ns (d + 1) (.tup [.str sRow, .str s])
  | op {d : Nat} {o : List Nat} {a b : D} : o ∈ [[43], [45], [42]] → Ex ns d a → Ex ns d b → Ex ns (d + 1) (.tup [.str o, a, b])
theorem mem_strs {ns : List (List Nat)} {y : D} (h : y ∈ ns.map D.str) : ∃ s ∈ ns, y = .str s := by
  obtain ⟨s, hs, rfl⟩ := List.mem_map.mp h
  exact ⟨s, hs, rfl⟩
theorem leaf_ok {N : Int} {L : Hs} {ns : List (List Nat)} (h : Pn N L) (hN : N ≤ 1099511626000) (h0 : 0 < ns.length) (h1 : ns.length < 1000) (d : Nat) :
    ∃ (y : D) (L' : Hs), F__law_leaf [.ref 0, .d (.lst (ns.map .str))] [] L = .ok (.d y) L' ∧ Pn (N + 5) L' ∧ Fr L L' ∧ Ex ns (d + 1) y := by
  obtain ⟨n, L1, e1, t1, f1, a1, b1⟩ := number_ok h (by omega)
  obtain ⟨z, L2, e2, t2, f2, hz⟩ := pick_ok t1 (by omega) (xs := ns.map .str) (by rw [List.length_map]; exact h0) (by rw [List.length_map]; exact h1)
  obtain ⟨s, hs, rfl⟩ := mem_strs hz
  obtain ⟨y, L3, e3, t3, f3, hy⟩ := pick_ok t2 (by omega) (xs := [.tup [.str sVal, .int n], .tup [.str sBody], .tup [.str sRow, .str s]]) (by simp) (by simp)
  refine ⟨y, L3, ?_, t3.mono (by omega), (f1.trans f2).trans f3, ?_⟩
  · unfold F__law_leaf
    refine x_fn (r1 := .ret (.d y) L3) rfl ?_ rfl
    exact x_ret (x_call (x_cons (x_var rfl) (x_cons (x_lst (x_cons (x_tup (x_cons x_c (x_cons (x_call (x_cons (x_var rfl) x_nil) rfl e1) x_nil)) rfl (Nat.le_of_ble_eq_true rfl)) (x_cons (x_tup (x_cons x_c x_nil) rfl (Nat.le_of_ble_eq_true rfl)) (x_cons (x_tup (x_cons x_c (x_cons (x_call (x_cons (x_var rfl) (x_cons (x_var rfl) x_nil)) rfl e2) x_nil)) rfl (Nat.le_of_ble_eq_true rfl)) x_nil))) rfl (Nat.le_of_ble_eq_true rfl)) x_nil)) rfl e3)
  · simp only [List.mem_cons, List.not_mem_nil, or_false] at hy
    rcases hy with rfl | rfl | rfl
    · exact .val a1 b1
    · exact .body
    · exact .row hs
/-- how often e draws at most -/
def cE : Nat → Int
  | 0 => 6
  | d + 1 => 2 * cE d + 8
theorem cE_pos : ∀ d, 6 ≤ cE d
  | 0 => by decide
  | d + 1 => by have := cE_pos d; show 6 ≤ 2 * cE d + 8; omega
theorem e_ok {ns : List (List Nat)} (h0 : 0 < ns.length) (h1 : ns.length < 1000) : ∀ (d n : Nat) (N : Int) (L : Hs), 0 < d → d ≤ n → Pn N L → N + cE d ≤ 1099511625000 →
    ∃ (y : D) (L' : Hs), R__law_e n [.ref 0, .d (.lst (ns.map .str)), .d (.int d)] [] L = .ok (.d y) L' ∧ Pn (N + cE d) L' ∧ Fr L L' ∧ Ex ns d y
  | 0, _, _, _, h, _, _, _ => by omega
  | d + 1, 0, _, _, _, h, _, _ => by omega
  | d + 1, n + 1, N, L, _, hn, hp, hN => by
    have pos := cE_pos d
    have ec : cE (d + 1) = 2 * cE d + 8 := rfl
    rw [ec] at hN ⊢
    rw [R__law_e]
    by_cases hd : d = 0
    · subst hd
      obtain ⟨y, L1, e1, t1, f1, x1⟩ := leaf_ok hp (by omega) h0 h1 0
      refine ⟨y, L1, x_fn (r1 := .ret (.d y) L1) rfl ?_ rfl, t1.mono (by omega), f1, x1⟩
      exact x_seq (r1 := .ret (.d y) L1) (x_sif (k := true) (x_tOr (x_tE (x_2 (x_var rfl) x_c rfl rfl rfl) rfl rfl) (br1 rfl rfl)) (br1 rfl (x_ret (x_call (x_cons (x_var rfl) (x_cons (x_var rfl) x_nil)) rfl e1)))) x_thenR
    · have l2 : decide (((d + 1 : Nat) : Int) < 2) = false := decide_eq_false (by omega)
      obtain ⟨q, L1, e1, t1, f1, a1, b1⟩ := draw_ok hp (by omega) (m := 3) (by decide) (by decide +kernel)
      by_cases hq : q = 0
      · obtain ⟨y, L2, e2, t2, f2, x2⟩ := leaf_ok t1 (by omega) h0 h1 d
        refine ⟨y, L2, x_fn (r1 := .ret (.d y) L2) rfl ?_ rfl, t2.mono (by omega), f1.trans f2, x2⟩
        exact x_seq (r1 := .ret (.d y) L2) (x_sif (x_tOr (x_tE (x_2 (x_var rfl) x_c rfl rfl rfl) rfl rfl) (br0 l2 (x_tE (x_2 (x_call (x_cons (x_var rfl) (x_cons x_c x_nil)) rfl e1) x_c rfl rfl rfl) rfl rfl))) (br1 (decide_eq_true hq) (x_ret (x_call (x_cons (x_var rfl) (x_cons (x_var rfl) x_nil)) rfl e2)))) x_thenR
      · obtain ⟨o, L2, e2, t2, f2, ho⟩ := pick_ok t1 (by omega) (xs := [[43], [45], [42]].map .str) (by decide) (by decide)
        obtain ⟨o, ho', rfl⟩ := mem_strs ho
        obtain ⟨y, L3, e3, t3, f3, x3⟩ := e_ok h0 h1 d n (N + 1 + 1) L2 (by omega) (by omega) t2 (by omega)
        obtain ⟨z, L4, e4, t4, f4, x4⟩ := e_ok h0 h1 d n (N + 1 + 1 + cE d) L3 (by omega) (by omega) t3 (by omega)
        refine ⟨.tup [.str o, y, z], L4, x_fn (r1 := .ret (.d (.tup [.str o, y, z])) L4) rfl ?_ rfl, t4.mono (by omega), ((f1.trans f2).trans f3).trans f4, .op ho' x3 x4⟩
        refine x_seq (r1 := .next [some (.ref 0), some (.d (.lst (ns.map .str))), some (.d (.int ((d + 1 : Nat) : Int)))] L1) (x_sif (x_tOr (x_tE (x_2 (x_var rfl) x_c rfl rfl rfl) rfl rfl) (br0 l2 (x_tE (x_2 (x_call (x_cons (x_var rfl) (x_cons x_c x_nil)) rfl e1) x_c rfl rfl rfl) rfl rfl))) (br0 (decide_eq_false hq) rfl)) (x_thenN ?_)
        exact x_ret (x_tup (x_cons (x_call (x_cons (x_var rfl) (x_cons (x_lst (x_cons x_c (x_cons x_c (x_cons x_c x_nil))) rfl (Nat.le_of_ble_eq_true rfl)) x_nil)) rfl e2) (x_cons (x_call (x_cons (x_var rfl) (x_cons (x_var rfl) (x_cons (x_2 (x_var rfl) x_c rfl rfl (sub1 d)) x_nil))) rfl e3) (x_cons (x_call (x_cons (x_var rfl) (x_cons (x_var rfl) (x_cons (x_2 (x_var rfl) x_c rfl rfl (sub1 d)) x_nil))) rfl e4) x_nil))) rfl (Nat.le_of_ble_eq_true rfl))
/-! conditions -/
inductive Cn (ns : List (List Nat)) : Nat → D → Prop
  | cmp {d : Nat} {o : List Nat} {a b : D} : o ∈ [[60], [61]] → Ex ns 3 a → Ex ns 2 b → Cn ns (d + 1) (.tup [.str o, a, b])
  | no {d : Nat} {a : D} : Cn ns d a → Cn ns (d + 1) (.tup [.str sNot, a])
  | jn {d : Nat} {o : List Nat} {a b : D} : o ∈ [sAnd, sOr] → Cn ns d a → Cn ns d b → Cn ns (d + 1) (.tup [.str o, a, b])
def cC : Nat → Int
  | 0 => 200
  | d + 1 => 2 * cC d + 8
theorem cC_pos : ∀ d, 200 ≤ cC d
  | 0 => by decide
  | d + 1 => by have := cC_pos d; show 200 ≤ 2 * cC d + 8; omega
theorem E_ok {ns : List (List Nat)} (h0 : 0 < ns.length) (h1 : ns.length < 1000) (d : Nat) (N : Int) (L : Hs) (hd : 0 < d) (hd2 : d ≤ 12) (hp : Pn N L) (hN : N + cE d ≤ 1099511625000) :
    ∃ (y : D) (L' : Hs), F__law_e [.ref 0, .d (.lst (ns.map .str)), .d (.int d)] [] L = .ok (.d y) L' ∧ Pn (N + cE d) L' ∧ Fr L L' ∧ Ex ns d y := e_ok h0 h1 d 12 N L hd hd2 hp hN
theorem gt1 (d : Nat) : opGt (.int ((d + 1 : Nat) : Int)) (.int 1) = some (.bl (decide (0 < d))) := by
  show some (D.bl (decide ((1 : Int) < ((d + 1 : Nat) : Int)))) = _
  congr 2
  rw [Bool.eq_iff_iff, decide_eq_true_eq, decide_eq_true_eq]
  omega
theorem ix3 {q : Int} {a b c : List Nat} (h0 : 0 ≤ q) (h1 : q < 3) : ∃ o, o ∈ [a, b, c] ∧ opIx (.lst [.str a, .str b, .str c]) (.int q) = some (.str o) := by
  have : q = 0 ∨ q = 1 ∨ q = 2 := by omega
  rcases this with rfl | rfl | rfl
  · exact ⟨a, by simp, rfl⟩
  · exact ⟨b, by simp, rfl⟩
  · exact ⟨c, by simp, rfl⟩
theorem ix2 {q : Int} {a b : List Nat} (h0 : 0 ≤ q) (h1 : q < 2) : ∃ o, o ∈ [a, b] ∧ opIx (.lst [.str a, .str b]) (.int q) = some (.str o) := by
  have : q = 0 ∨ q = 1 := by omega
  rcases this with rfl | rfl
  · exact ⟨a, by simp, rfl⟩
  · exact ⟨b, by simp, rfl⟩
theorem c_ok {ns : List (List Nat)} (h0 : 0 < ns.length) (h1 : ns.length < 1000) : ∀ (d n : Nat) (N : Int) (L : Hs), 0 < d → d ≤ n → Pn N L → N + cC d ≤ 1099511624000 →
    ∃ (y : D) (L' : Hs), R__law_c n [.ref 0, .d (.lst (ns.map .str)), .d (.int d)] [] L = .ok (.d y) L' ∧ Pn (N + cC d) L' ∧ Fr L L' ∧ Cn ns d y
  | 0, _, _, _, h, _, _, _ => by omega
  | d + 1, 0, _, _, _, h, _, _ => by omega
  | d + 1, n + 1, N, L, _, hn, hp, hN => by
    have pos := cC_pos d
    have ec : cC (d + 1) = 2 * cC d + 8 := rfl
    rw [ec] at hN ⊢
    rw [R__law_c]
    have c3 : cE 3 = 104 := rfl
    have c2 : cE 2 = 48 := rfl
    -- what is drawn
    have hq : ∃ q L1, (eIf (tE (e2 opGt (eVar 2) (eC (.int 1)))) (eCall 2 F__law_draw (aCons (eVar 0) (aCons (eC (.int 6)) (aNil)))) (eCall 2 F__law_draw (aCons (eVar 0) (aCons (eC (.int 2)) (aNil))))) [] [some (.ref 0), some (.d (.lst (ns.map .str))), some (.d (.int ((d + 1 : Nat) : Int))), none] L = .ok (.d (.int q)) L1 ∧ Pn (N + 1) L1 ∧ Fr L L1 ∧ 0 ≤ q ∧ q < 6 ∧ (3 ≤ q → 0 < d) := by
      by_cases hd : 0 < d
      · obtain ⟨q, L1, e1, t1, f1, a1, b1⟩ := draw_ok hp (by omega) (m := 6) (by decide) (by decide +kernel)
        exact ⟨q, L1, x_if (x_tE (x_2 (x_var rfl) x_c rfl rfl (gt1 d)) rfl rfl) (br1 (decide_eq_true hd) (x_call (x_cons (x_var rfl) (x_cons x_c x_nil)) rfl e1)), t1, f1, a1, b1, fun _ => hd⟩
      · obtain ⟨q, L1, e1, t1, f1, a1, b1⟩ := draw_ok hp (by omega) (m := 2) (by decide) (by decide +kernel)
        exact ⟨q, L1, x_if (x_tE (x_2 (x_var rfl) x_c rfl rfl (gt1 d)) rfl rfl) (br0 (decide_eq_false hd) (x_call (x_cons (x_var rfl) (x_cons x_c x_nil)) rfl e1)), t1, f1, a1, by omega, fun z => by omega⟩
    obtain ⟨q, L1, e1, t1, f1, a1, b1, hd⟩ := hq
    by_cases q3 : q < 3
    · obtain ⟨o, ho, eo⟩ := ix3 (a := [60]) (b := [61]) (c := [60]) a1 q3
      obtain ⟨y, L2, e2, t2, f2, x2⟩ := E_ok h0 h1 3 (N + 1) L1 (by decide) (by decide) t1 (by omega)
      obtain ⟨z, L3, e3, t3, f3, x3⟩ := E_ok h0 h1 2 (N + 1 + cE 3) L2 (by decide) (by decide) t2 (by omega)
      refine ⟨.tup [.str o, y, z], L3, x_fn (r1 := .ret (.d (.tup [.str o, y, z])) L3) rfl ?_ rfl, t3.mono (by omega), (f1.trans f2).trans f3, .cmp (by simp only [List.mem_cons, List.not_mem_nil, or_false] at ho ⊢; rcases ho with h | h | h <;> simp [h]) x2 x3⟩
      refine x_seq (x_asg e1 x_gvar) (x_thenN (x_seq (r1 := .ret (.d (.tup [.str o, y, z])) L3) (x_sif (x_tE (x_2 (x_var rfl) x_c rfl rfl rfl) rfl rfl) (br1 (decide_eq_true q3) ?_)) x_thenR))
      exact x_ret (x_tup (x_cons (x_2 (x_lst (x_cons x_c (x_cons x_c (x_cons x_c x_nil))) rfl (Nat.le_of_ble_eq_true rfl)) (x_var rfl) rfl rfl eo) (x_cons (x_call (x_cons (x_var rfl) (x_cons (x_var rfl) (x_cons x_c x_nil))) rfl e2) (x_cons (x_call (x_cons (x_var rfl) (x_cons (x_var rfl) (x_cons x_c x_nil))) rfl e3) x_nil))) rfl (Nat.le_of_ble_eq_true rfl))
    · have hd := hd (by omega)
      obtain ⟨y, L2, e2, t2, f2, x2⟩ := c_ok h0 h1 d n (N + 1) L1 hd (by omega) t1 (by omega)
      by_cases q4 : q = 3
      · refine ⟨.tup [.str sNot, y], L2, x_fn (r1 := .ret (.d (.tup [.str sNot, y])) L2) rfl ?_ rfl, t2.mono (by omega), f1.trans f2, .no x2⟩
        refine x_seq (x_asg e1 x_gvar) (x_thenN (x_seq (x_sif (x_tE (x_2 (x_var rfl) x_c rfl rfl rfl) rfl rfl) (br0 (decide_eq_false q3) rfl)) (x_thenN (x_seq (r1 := .ret (.d (.tup [.str sNot, y])) L2) (x_sif (x_tE (x_2 (x_var rfl) x_c rfl rfl rfl) rfl rfl) (br1 (decide_eq_true q4) ?_)) x_thenR))))
        exact x_ret (x_tup (x_cons x_c (x_cons (x_call (x_cons (x_var rfl) (x_cons (x_var rfl) (x_cons (x_2 (x_var rfl) x_c rfl rfl (sub1 d)) x_nil))) rfl e2) x_nil)) rfl (Nat.le_of_ble_eq_true rfl))
      · obtain ⟨o, ho, eo⟩ := ix2 (q := q - 4) (a := sAnd) (b := sOr) (by omega) (by omega)
        obtain ⟨z, L3, e3, t3, f3, x3⟩ := c_ok h0 h1 d n (N + 1 + cC d) L2 hd (by omega) t2 (by omega)
        refine ⟨.tup [.str o, y, z], L3, x_fn (r1 := .ret (.d (.tup [.str o, y, z])) L3) rfl ?_ rfl, t3.mono (by omega), (f1.trans f2).trans f3, .jn ho x2 x3⟩
        refine x_seq (x_asg e1 x_gvar) (x_thenN (x_seq (x_sif (x_tE (x_2 (x_var rfl) x_c rfl rfl rfl) rfl rfl) (br0 (decide_eq_false q3) rfl)) (x_thenN (x_seq (x_sif (x_tE (x_2 (x_var rfl) x_c rfl rfl rfl) rfl rfl) (br0 (decide_eq_false q4) rfl)) (x_thenN ?_)))))
        exact x_ret (x_tup (x_cons (x_2 (x_lst (x_cons x_c (x_cons x_c x_nil)) rfl (Nat.le_of_ble_eq_true rfl)) (x_2 (x_var rfl) x_c rfl rfl rfl) rfl rfl eo) (x_cons (x_call (x_cons (x_var rfl) (x_cons (x_var rfl) (x_cons (x_2 (x_var rfl) x_c rfl rfl (sub1 d)) x_nil))) rfl e2) (x_cons (x_call (x_cons (x_var rfl) (x_cons (x_var rfl) (x_cons (x_2 (x_var rfl) x_c rfl rfl (sub1 d)) x_nil))) rfl e3) x_nil))) rfl (Nat.le_of_ble_eq_true rfl))
end K02
end Ev

set_option linter.all false
set_option maxRecDepth 100000
set_option maxHeartbeats 1000000
namespace Ev
namespace K02
theorem comp_draw {i : Nat} {e : SE} {ρ : Sl} {P : D → Prop} {K T : Int} (hK : 0 ≤ K) : ∀ (xs acc : List D) (N : Int) (L : Hs), (∀ x ∈ xs, ∀ N L, Pn N L → N ≤ T → ∃ y L', e [] (ρ.set i (some (.d x))) L = .ok (.d y) L' ∧ Pn (N + K) L' ∧ Fr L L' ∧ P y) → Pn N L → N + K * xs.length ≤ T → acc.length + xs.length ≤ 16777216 →
    ∃ ys L', compGo (gVar i) tYes e [] ρ xs acc L = .ok (acc ++ ys) L' ∧ Pn (N + K * xs.length) L' ∧ Fr L L' ∧ (∀ y ∈ ys, P y) ∧ ys.length = xs.length
  | [], acc, N, L, _, hp, _, _ => ⟨[], L, by rw [List.append_nil]; rfl, hp.mono (by simp), Fr.refl L, (fun y hy => by cases hy), rfl⟩
  | x :: xs, acc, N, L, h, hp, hT, hl => by
    rw [List.length_cons] at hl
    have hm : K * ((x :: xs).length : Int) = K * xs.length + K := by rw [List.length_cons, Int.natCast_succ, Int.mul_add, Int.mul_one]
    rw [hm] at hT ⊢
    have hKx : 0 ≤ K * (xs.length : Int) := Int.mul_nonneg hK (by omega)
    obtain ⟨y, L1, e1, t1, f1, p1⟩ := h x List.mem_cons_self N L hp (by omega)
    obtain ⟨ys, L2, e2, t2, f2, p2, l2⟩ := comp_draw hK xs (acc ++ [y]) (N + K) L1 (fun z hz => h z (List.mem_cons_of_mem _ hz)) t1 (by omega) (by rw [List.length_append]; show acc.length + 1 + _ ≤ _; omega)
    refine ⟨y :: ys, L2, ?_, t2.mono (by omega), f1.trans f2, fun z hz => ?_, by rw [List.length_cons, List.length_cons, l2]⟩
    · show (e [] (ρ.set i (some (.d x))) L).bind (fun w L3 => (ownR [] L3 w).bind fun y L4 => (guardR (decide (acc.length < sizeL)) L4).bind fun _ L4 => compGo (gVar i) tYes e [] ρ xs (acc ++ [y]) L4) = _
      rw [e1]
      show (guardR (decide (acc.length < sizeL)) L1).bind (fun _ L4 => compGo (gVar i) tYes e [] ρ xs (acc ++ [y]) L4) = _
      rw [decide_eq_true (show acc.length < sizeL by show _ < 16777216; omega)]
      show compGo (gVar i) tYes e [] ρ xs (acc ++ [y]) L1 = _
      rw [e2, List.append_assoc]
      rfl
    · rcases List.mem_cons.mp hz with rfl | hz
      · exact p1
      · exact p2 z hz
theorem to_strs {Q : List Nat → Prop} : ∀ ys : List D, (∀ y ∈ ys, ∃ s, y = .str s ∧ Q s) → ∃ ws : List (List Nat), ys = ws.map .str ∧ ∀ s ∈ ws, Q s
  | [], _ => ⟨[], rfl, fun s h => by cases h⟩
  | y :: ys, h => by
    obtain ⟨s, rfl, q⟩ := h y List.mem_cons_self
    obtain ⟨ws, rfl, q2⟩ := to_strs ys fun z hz => h z (List.mem_cons_of_mem _ hz)
    exact ⟨s :: ws, rfl, fun t ht => by rcases List.mem_cons.mp ht with rfl | ht; exact q; exact q2 t ht⟩
theorem allS_map (ws : List (List Nat)) : allS (ws.map D.str) = some ws := by
  induction ws with
  | nil => rfl
  | cons s ws ih =>
    show (match allS (ws.map D.str) with | some ss => some (s :: ss) | none => none) = _
    rw [ih]
theorem joinS_len1 : ∀ ws : List (List Nat), (∀ s ∈ ws, ∃ c, s = [c] ∧ c ∈ letters) → (joinS [] ws).length = ws.length ∧ (∀ c ∈ joinS [] ws, c ∈ letters) ∧ (ws.map List.length).sum = ws.length
  | [], _ => ⟨rfl, (fun c h => by cases h), rfl⟩
  | [s], h => by
    obtain ⟨c, rfl, hc⟩ := h s (by simp)
    exact ⟨rfl, fun d hd => by
      have hd : d ∈ [c] := hd
      simp only [List.mem_singleton] at hd
      rw [hd]; exact hc, rfl⟩
  | s :: t :: ws, h => by
    obtain ⟨c, rfl, hc⟩ := h s (by simp)
    obtain ⟨a1, a2, a3⟩ := joinS_len1 (t :: ws) fun z hz => h z (List.mem_cons_of_mem _ hz)
    have e : joinS [] ([c] :: t :: ws) = c :: joinS [] (t :: ws) := rfl
    rw [e]
    refine ⟨by rw [List.length_cons, a1]; rfl, fun d hd => ?_, ?_⟩
    · rcases List.mem_cons.mp hd with rfl | hd
      · exact hc
      · exact a2 d hd
    · rw [List.map_cons, List.sum_cons, a3]
      show 1 + _ = _
      rw [List.length_cons (a := [c])]
      omega
def WordOk (s : List Nat) : Prop := 1 ≤ s.length ∧ s.length ≤ 6 ∧ ∀ c ∈ s, c ∈ letters
theorem range_mem {n : Nat} {x : D} (h : x ∈ (List.range n).map fun (i : Nat) => D.int i) : ∃ k : Nat, k < n ∧ x = .int k := by
  obtain ⟨k, hk, rfl⟩ := List.mem_map.mp h
  exact ⟨k, List.mem_range.mp hk, rfl⟩
theorem sl_to {s : List Nat} {a : Int} (hs : s.length ≤ 100) (h0 : 0 ≤ a) (h1 : a ≤ s.length) : opSl (.str s) none (some a) = some (.str (s.take a.toNat)) := by
  show (if s.length ≤ sizeL then some (D.str (cut s none (some a))) else none) = _
  rw [if_pos (by show _ ≤ 16777216; omega)]
  unfold cut sIx
  dsimp only
  rw [if_neg (by omega), List.drop_zero, Nat.sub_zero, Nat.min_eq_left (by omega)]
theorem sl_from {s : List Nat} {a : Int} (hs : s.length ≤ 100) (h0 : 0 ≤ a) (h1 : a ≤ s.length) : opSl (.str s) (some a) none = some (.str (s.drop a.toNat)) := by
  show (if s.length ≤ sizeL then some (D.str (cut s (some a) none)) else none) = _
  rw [if_pos (by show _ ≤ 16777216; omega)]
  unfold cut sIx
  dsimp only
  rw [if_neg (by omega), Nat.min_eq_left (by omega), List.take_of_length_le (by rw [List.length_drop]; exact Nat.le_refl _)]
theorem add_str {s t : List Nat} (h : s.length + t.length ≤ 1000) : opAdd (.str s) (.str t) = some (.str (s ++ t)) := if_pos (show _ ≤ 16777216 by omega)
theorem words_ok {N : Int} {L : Hs} (h : Pn N L) (hN : N ≤ 1099511620000) (many : Nat) (hm : many ≤ 100) :
    ∃ (ws : List (List Nat)) (L' : Hs), F__law_words [.ref 0, .d (.int many)] [] L = .ok (.d (.lst (ws.map .str))) L' ∧ Pn (N + 20) L' ∧ Fr L L' ∧ ws.length = many ∧ ∀ s ∈ ws, WordOk s := by
  obtain ⟨q, L1, E1, t1, f1, a1, b1⟩ := draw_ok h (by omega) (m := 6) (by decide) (by decide +kernel)
  have lr : ((List.range q.toNat).map fun (i : Nat) => D.int i).length = q.toNat := by rw [List.length_map, List.length_range]
  obtain ⟨ys, L2, E2, t2, f2, p2, l2⟩ := comp_draw (i := 7) (e := eCall 2 F__law_pick (aCons (eVar 0) (aCons (eVar 2) (aNil)))) (ρ := [some (.ref 0), some (.d (.int many)), some (.d (.str letters)), none, none, none, none, none]) (P := fun y => ∃ s, y = .str s ∧ ∃ c, s = [c] ∧ c ∈ letters) (K := 1) (T := 1099511626000) (by decide)
    ((List.range q.toNat).map fun (i : Nat) => D.int i) [] (N + 1) L1 (fun x hx N L hp hN => by
      obtain ⟨c, L', e, t, f, hc⟩ := pickS_ok hp (by omega) (s := letters) (by decide) (by decide)
      exact ⟨.str [c], L', x_call (x_cons (x_var rfl) (x_cons (x_var rfl) x_nil)) rfl e, t, f, [c], rfl, c, rfl, hc⟩) t1 (by rw [lr]; omega) (by rw [lr]; show 0 + _ ≤ _; omega)
  rw [lr] at t2 l2
  obtain ⟨ss, rfl, hs⟩ := to_strs ys p2
  obtain ⟨j1, j2, j3⟩ := joinS_len1 ss hs
  rw [List.length_map] at l2
  have hj : opJoin (.str []) (.lst (ss.map .str)) = some (.str (joinS [] ss)) := by
    show (match allS (ss.map .str) with | some ss => if (ss.map List.length).sum + ss.length * ([] : List Nat).length ≤ sizeL then some (D.str (joinS [] ss)) else none | none => none) = _
    rw [allS_map]
    show (if (ss.map List.length).sum + ss.length * 0 ≤ sizeL then some (D.str (joinS [] ss)) else none) = _
    rw [if_pos (by rw [j3]; show _ ≤ 16777216; omega)]
  generalize hst : joinS [] ss = st at j1 j2 hj
  have sl : st.length ≤ 5 := by omega
  obtain ⟨p, L3, E3, t3, f3, a3, b3⟩ := draw_ok t2 (by omega) (m := ((st.length : Int) + 1)) (by omega) (log2_small (by omega) (by omega))
  obtain ⟨g, L4, E4, t4, f4, a4, b4⟩ := draw_ok t3 (by omega) (m := 26) (by decide) (by decide +kernel)
  obtain ⟨z, L5, E5, t5, f5, hz⟩ := pick_ok t4 (by omega) (xs := [.int 1, .int 3, .int 5, .int 7, .int 9, .int 11, .int 15, .int 17, .int 19, .int 21, .int 23, .int 25]) (by decide) (by decide)
  have hz' : ∃ w : Int, z = .int w ∧ 0 ≤ w ∧ w ≤ 25 := by
    simp only [List.mem_cons, List.not_mem_nil, or_false] at hz
    rcases hz with rfl | rfl | rfl | rfl | rfl | rfl | rfl | rfl | rfl | rfl | rfl | rfl <;> exact ⟨_, rfl, by decide, by decide⟩
  obtain ⟨w, rfl, w0, w1⟩ := hz'
  have lr2 : ((List.range ((many : Int)).toNat).map fun (i : Nat) => D.int i).length = many := by rw [List.length_map, List.length_range, Int.toNat_natCast]
  obtain ⟨zs, L6, E6, t6, f6, p6, l6⟩ := comp_draw (i := 7) (e := (e2 opAdd (e2 opAdd (eSl (eVar 3) (oNone) (oSome (eVar 5))) (e2 opIx (eVar 2) (e2 opMod (eB bInt (aCons (e2 opAdd (eVar 6) (e2 opMul (eVar 4) (eVar 7))) (aNil))) (eC (.int 26))))) (eSl (eVar 3) (oSome (eVar 5)) (oNone)))) (ρ := [some (.ref 0), some (.d (.int many)), some (.d (.str letters)), some (.d (.str st)), some (.d (.int w)), some (.d (.int p)), some (.d (.int g)), none]) (P := fun y => ∃ s, y = .str s ∧ WordOk s) (K := 0) (T := 1099511626000) (by decide)
    ((List.range ((many : Int)).toNat).map fun (i : Nat) => D.int i) [] (N + 1 + 1 * q.toNat + 1 + 1 + 1) L5 (fun x hx N L hp hN => by
      obtain ⟨k, hk, rfl⟩ := range_mem hx
      obtain ⟨c, hc, ec⟩ := ixS_at (s := letters) (j := (g + w * (k : Int)) % 26) (by decide) (Int.emod_nonneg _ (by decide)) (Int.emod_lt_of_pos _ (by decide))
      refine ⟨.str (st.take p.toNat ++ [c] ++ st.drop p.toNat), L, ?_, hp.mono (by omega), Fr.refl L, _, rfl, ?_, ?_, ?_⟩
      · refine x_2 (x_2 (x_sl (x_var rfl) x_oNone (x_oSome (x_var rfl) rfl rfl) rfl (sl_to (s := st) (by omega) a3 (by omega))) (x_2 (x_var rfl) (x_2 (x_B (x_cons (x_2 (x_var rfl) (x_2 (x_var rfl) (x_var rfl) rfl rfl (o_mul (m := w) (mulOk_l (by omega)))) rfl rfl rfl) x_nil) (x_vcons rfl x_vnil) rfl) x_c rfl rfl (o_mod (by decide))) rfl rfl ec) rfl rfl (add_str ?_)) (x_sl (x_var rfl) (x_oSome (x_var rfl) rfl rfl) x_oNone rfl (sl_from (s := st) (by omega) a3 (by omega))) rfl rfl (add_str ?_)
        · rw [List.length_take]; show _ + 1 ≤ _; omega
        · rw [List.length_append, List.length_take, List.length_drop]; show _ + 1 + _ ≤ _; omega
      · rw [List.length_append, List.length_append, List.length_take, List.length_drop]; show 1 ≤ _ + 1 + _; omega
      · rw [List.length_append, List.length_append, List.length_take, List.length_drop]; show _ + 1 + _ ≤ 6; omega
      · intro d hd
        rcases List.mem_append.mp hd with hd | hd
        · rcases List.mem_append.mp hd with hd | hd
          · exact j2 d (List.mem_of_mem_take hd)
          · simp only [List.mem_singleton] at hd
            rw [hd]; exact hc
        · exact j2 d (List.mem_of_mem_drop hd)) (t5.mono (by omega)) (by rw [lr2]; omega) (by rw [lr2]; show 0 + _ ≤ _; omega)
  rw [lr2] at t6 l6
  obtain ⟨ws, rfl, hws⟩ := to_strs zs p6
  rw [List.length_map] at l6
  refine ⟨ws, L6, ?_, t6.mono (by omega), ((((f1.trans f2).trans f3).trans f4).trans f5).trans f6, l6, hws⟩
  unfold F__law_words
  refine x_fn (r1 := .ret (.d (.lst (ws.map .str))) L6) rfl ?_ rfl
  refine x_seq (x_asg x_c x_gvar) (x_thenN ?_)
  refine x_seq (x_asg (w := .d (.str st)) (L1 := L2) (x_1 (p := .lst (ss.map .str)) (x_comp (x_iRange (x_call (x_cons (x_var rfl) (x_cons x_c x_nil)) rfl E1) rfl rfl (by omega)) E2) rfl hj) x_gvar) (x_thenN ?_)
  refine x_seq (x_parN (ws := [.d (.int p), .d (.int g)]) (L1 := L4) (x_cons (x_call (x_cons (x_var rfl) (x_cons (x_2 (x_B (x_cons (x_var rfl) x_nil) (x_vcons rfl x_vnil) (len_str (by omega))) x_c rfl rfl rfl) x_nil)) rfl E3) (x_cons (x_call (x_cons (x_var rfl) (x_cons x_c x_nil)) rfl E4) x_nil)) rfl (Nat.le_of_ble_eq_true rfl)) (x_thenN ?_)
  refine x_seq (x_asg (w := .d (.int w)) (L1 := L5) (x_call (x_cons (x_var rfl) (x_cons (x_lst (x_cons x_c (x_cons x_c (x_cons x_c (x_cons x_c (x_cons x_c (x_cons x_c (x_cons x_c (x_cons x_c (x_cons x_c (x_cons x_c (x_cons x_c (x_cons x_c x_nil)))))))))))) rfl (Nat.le_of_ble_eq_true rfl)) x_nil)) rfl E5) x_gvar) (x_thenN ?_)
  exact x_ret (x_comp (x_iRange (x_var rfl) rfl rfl (by omega)) E6)
end K02
end Ev

set_option linter.all false
set_option maxRecDepth 100000
set_option maxHeartbeats 1000000
namespace Ev
namespace K02
/-! deeds as they are drawn: level of ifs, how many -/
mutual
inductive Dd (ns ks kd : List (List Nat)) : Nat → Nat → D → Prop
  | set {i : Nat} {s : List Nat} {e : D} : s ∈ ns → Ex ns 4 e → Dd ns ks kd i 1 (.tup [.str sSet, .str s, e])
  | send {i : Nat} {k : List Nat} {key e : D} : k ∈ kd → (key = .non ∨ ∃ t ∈ ks, key = .str t) → Ex ns 3 e → Dd ns ks kd i 1 (.tup [.str sSend, .str k, key, e])
  | fail {i : Nat} : Dd ns ks kd i 1 (.tup [.str sFail])
  | iff {i a b : Nat} {c : D} {xs ys : List D} : Cn ns 3 c → Ds ns ks kd i a xs → Ds ns ks kd i b ys → Dd ns ks kd (i + 1) (a + b + 1) (.tup [.str sIfS, c, .tup xs, .tup ys])
inductive Ds (ns ks kd : List (List Nat)) : Nat → Nat → List D → Prop
  | nil {i : Nat} : Ds ns ks kd i 0 []
  | snoc {i a b : Nat} {xs : List D} {x : D} : Ds ns ks kd i a xs → Dd ns ks kd i b x → Ds ns ks kd i (a + b) (xs ++ [x])
end
abbrev kNames : List Nat := [110, 97, 109, 101, 115]
abbrev kKeys : List Nat := [107, 101, 121, 115]
abbrev kKinds : List Nat := [107, 105, 110, 100, 115]
abbrev kSends : List Nat := [115, 101, 110, 100, 115]
abbrev kDeeds : List Nat := [100, 101, 101, 100, 115]
section
variable (ns ks kd : List (List Nat))
def plc (s d : Int) : Ob := .dct [.str kNames, .str kKeys, .str kKinds, .str kSends, .str kDeeds] [.d (.lst (ns.map .str)), .d (.lst (ks.map .str)), .d (.lst (kd.map .str)), .d (.int s), .d (.int d)]
def dpl (s d : Int) : D := .dct [.str kNames, .str kKeys, .str kKinds, .str kSends, .str kDeeds] [.lst (ns.map .str), .lst (ks.map .str), .lst (kd.map .str), .int s, .int d]
end
variable {ns ks kd : List (List Nat)}
theorem v_pl {L : Hs} {j : Nat} {s d : Int} (h : L[j]? = some (plc ns ks kd s d)) : vw [] L (.ref j) = some (dpl ns ks kd s d) := by
  show (match L[j]? with | some (Ob.frz x) => some x | some (.lst ws) => (allD ws).map .lst | some (.dct ks ws) => (allD ws).map (.dct ks) | _ => none) = _
  rw [h]
  rfl
theorem put_deeds {L : Hs} {j : Nat} {s d z : Int} (h : L[j]? = some (plc ns ks kd s d)) : putIn [] L (.ref j) (.str [100, 101, 101, 100, 115]) (.d (.int z)) = some (L.set j (plc ns ks kd s z)) := by
  show (match L[j]? with
    | some (Ob.lst ws) => none
    | some (.dct ks' ws) => if isKey (D.str [100, 101, 101, 100, 115]) = true ∧ ks'.length < sizeL then some (L.set j (.dct (putKs (D.str [100, 101, 101, 100, 115]) ks') (putVs (D.str [100, 101, 101, 100, 115]) (W.d (.int z)) ks' ws))) else none
    | some (.dcn ks' ws) => if isNK (D.str [100, 101, 101, 100, 115]) = true ∧ ks'.length < sizeL then some (L.set j (.dcn (nkKs (D.str [100, 101, 101, 100, 115]) ks') (nkVs (D.str [100, 101, 101, 100, 115]) (W.d (.int z)) ks' ws))) else none
    | _ => none) = _
  rw [h]
  rfl
theorem put_sends {L : Hs} {j : Nat} {s d z : Int} (h : L[j]? = some (plc ns ks kd s d)) : putIn [] L (.ref j) (.str [115, 101, 110, 100, 115]) (.d (.int z)) = some (L.set j (plc ns ks kd z d)) := by
  show (match L[j]? with
    | some (Ob.lst ws) => none
    | some (.dct ks' ws) => if isKey (D.str [115, 101, 110, 100, 115]) = true ∧ ks'.length < sizeL then some (L.set j (.dct (putKs (D.str [115, 101, 110, 100, 115]) ks') (putVs (D.str [115, 101, 110, 100, 115]) (W.d (.int z)) ks' ws))) else none
    | some (.dcn ks' ws) => if isNK (D.str [115, 101, 110, 100, 115]) = true ∧ ks'.length < sizeL then some (L.set j (.dcn (nkKs (D.str [115, 101, 110, 100, 115]) ks') (nkVs (D.str [115, 101, 110, 100, 115]) (W.d (.int z)) ks' ws))) else none
    | _ => none) = _
  rw [h]
  rfl
/-- all but the pen and the place at j stay -/
def Fj (j : Nat) (L L' : Hs) : Prop := L.length ≤ L'.length ∧ ∀ k, 0 < k → k ≠ j → k < L.length → L'[k]? = L[k]?
theorem Fj.refl (j : Nat) (L : Hs) : Fj j L L := ⟨Nat.le_refl _, fun _ _ _ _ => rfl⟩
theorem Fj.trans {j : Nat} {L L1 L2 : Hs} (a : Fj j L L1) (b : Fj j L1 L2) : Fj j L L2 := ⟨Nat.le_trans a.1 b.1, fun k h0 h1 h2 => (b.2 k h0 h1 (Nat.lt_of_lt_of_le h2 a.1)).trans (a.2 k h0 h1 h2)⟩
theorem Fr.fj {j : Nat} {L L' : Hs} (a : Fr L L') : Fj j L L' := ⟨a.1, fun k h0 _ h2 => a.2 k h0 h2⟩
theorem Fj.set {j : Nat} {L : Hs} {o : Ob} : Fj j L (L.set j o) := ⟨by rw [List.length_set]; exact Nat.le_refl _, fun k _ h1 _ => List.getElem?_set_ne (fun z => h1 z.symm)⟩
theorem Pn.set {N : Int} {L : Hs} {j : Nat} {o : Ob} (h : Pn N L) (hj : 0 < j) : Pn N (L.set j o) := by
  obtain ⟨cs, b, r, R, rfl, hc, h0, h1⟩ := h
  obtain ⟨k, rfl⟩ : ∃ k, j = k + 1 := ⟨j - 1, by omega⟩
  exact ⟨cs, b, r, R.set k o, rfl, hc, h0, h1⟩
theorem at_lt {L : Hs} {j : Nat} {o : Ob} (h : L[j]? = some o) : j < L.length := (List.getElem?_eq_some_iff.mp h).1
theorem at_set {L : Hs} {j : Nat} {o o' : Ob} (h : L[j]? = some o) : (L.set j o')[j]? = some o' := List.getElem?_set_self (at_lt h)
theorem Fr.at {L L' : Hs} {j : Nat} {o : Ob} (f : Fr L L') (hj : 0 < j) (h : L[j]? = some o) : L'[j]? = some o := (f.2 j hj (at_lt h)).trans h
def cD : Nat → Int
  | 0 => 300
  | i + 1 => 1800 + 2 * (2 + 3 * cD i)
theorem cD_pos : ∀ i, 300 ≤ cD i
  | 0 => by decide
  | i + 1 => by have := cD_pos i; show 300 ≤ 1800 + 2 * (2 + 3 * cD i); omega
def cS (i : Nat) : Int := 2 + 3 * cD i
/-- what _law_deeds is to do -/
def DsOk (ns ks kd : List (List Nat)) (i n : Nat) : Prop := ∀ (j : Nat) (N : Int) (L : Hs) (s d : Int), 0 < j → Pn N L → L[j]? = some (plc ns ks kd s d) → 0 ≤ d → N + cS i ≤ 1099511623000 →
  ∃ (xs : List D) (L' : Hs) (s' d' : Int) (c : Nat), R__law_deeds n [.ref 0, .ref j, .d (.int i)] [] L = .ok (.d (.tup xs)) L' ∧ Pn (N + cS i) L' ∧ Fj j L L' ∧ L'[j]? = some (plc ns ks kd s' d') ∧ 0 ≤ d' ∧ Ds ns ks kd i c xs ∧ (c : Int) = d - d' ∧ xs.length ≤ 3
def DdOk (ns ks kd : List (List Nat)) (i n : Nat) : Prop := ∀ (j : Nat) (N : Int) (L : Hs) (s d : Int), 0 < j → Pn N L → L[j]? = some (plc ns ks kd s d) → 0 ≤ d → N + cD i ≤ 1099511623000 →
  ∃ (x : D) (L' : Hs) (s' d' : Int) (c : Nat), R__law_deed n [.ref 0, .ref j, .d (.int i)] [] L = .ok (.d x) L' ∧ Pn (N + cD i) L' ∧ Fj j L L' ∧ L'[j]? = some (plc ns ks kd s' d') ∧ 0 ≤ d' ∧ Dd ns ks kd i c x ∧ (c : Int) = d - d' + 1
theorem lt3 {q : Int} : opLt (.int q) (.int 3) = some (.bl (decide (q < 3))) := rfl
theorem add_keys : opAdd (.lst [.non, .non]) (.lst (ks.map .str)) = if 2 + ks.length ≤ sizeL then some (.lst ([.non, .non] ++ ks.map .str)) else none := by
  show (if [D.non, .non].length + (ks.map D.str).length ≤ sizeL then some (D.lst ([.non, .non] ++ ks.map .str)) else none) = _
  rw [List.length_map]
  rfl
theorem deed_step {i n : Nat} (hns : 0 < ns.length) (hns2 : ns.length < 1000) (hks : ks.length < 900) (hkd : kd.length < 1000) (hr : ∀ m, i = m + 1 → DsOk ns ks kd m n) : DdOk ns ks kd i (n + 1) := by
  intro j N L s d hj hp hL hd hN
  have pos := cD_pos i
  have c4 : cE 4 = 216 := rfl
  have c3 : cE 3 = 104 := rfl
  rw [R__law_deed]
  obtain ⟨q, L1, E1, t1, f1, a1, b1⟩ := draw_ok hp (by omega) (m := 9) (by decide) (by decide +kernel)
  have hL1 := f1.at hj hL
  have go : ∀ {S : SS} {x : D} {L' : Hs}, S [] [some (.ref 0), some (.ref j), some (.d (.int i)), some (.d (.int q)), none, none] L1 = .ret (.d x) L' → fnBody 3 6 (sSeq (sAsg (eCall 2 F__law_draw (aCons (eVar 0) (aCons (eC (.int 9)) (aNil)))) (gVar 3)) S) [.ref 0, .ref j, .d (.int i)] [] L = .ok (.d x) L' := fun {S x L'} h => x_fn (r1 := .ret (.d x) L') rfl (x_seq (x_asg (x_call (x_cons (x_var rfl) (x_cons x_c x_nil)) rfl E1) x_gvar) (x_thenN h)) rfl
  -- the first test
  have T1 : ∃ k : Bool, (tAnd (tE (e2 opLt (eVar 3) (eC (.int 3)))) (tAnd (tE (e2 opNe (e2 opIx (eVar 1) (eC (.str [107, 105, 110, 100, 115]))) (eLst (aNil)))) (tE (e2 opGt (e2 opIx (eVar 1) (eC (.str [115, 101, 110, 100, 115]))) (eC (.int 0)))))) [] [some (.ref 0), some (.ref j), some (.d (.int i)), some (.d (.int q)), none, none] L1 = .ok k L1 ∧ (k = true → kd ≠ []) := by
    refine ⟨_, z_tAnd (x_tE (x_2 (x_var rfl) x_c rfl rfl lt3) rfl rfl) fun _ => z_tAnd (x_tE (x_2 (x_2 (x_var rfl) x_c (v_pl hL1) rfl rfl) (x_lst x_nil rfl (by decide)) rfl rfl ne_cs) rfl rfl) fun _ => x_tE (x_2 (x_2 (x_var rfl) x_c (v_pl hL1) rfl rfl) x_c rfl rfl rfl) rfl rfl, fun h z => ?_⟩
    subst z
    rw [Bool.and_eq_true, Bool.and_eq_true] at h
    cases h.2.1
  obtain ⟨k1, T1, hk1⟩ := T1
  cases k1 with
  | true =>
    have hkd0 := hk1 rfl
    have hL2 := at_set (o' := plc ns ks kd (s - 1) d) hL1
    have t2 := t1.set (o := plc ns ks kd (s - 1) d) hj
    obtain ⟨y, L3, E3, t3, f3, hy⟩ := pick_ok t2 (by omega) (xs := [.non, .non] ++ ks.map .str) (by simp) (by rw [List.length_append, List.length_map]; show 2 + _ < _; omega)
    have hL3 := f3.at hj hL2
    obtain ⟨z, L4, E4, t4, f4, hz⟩ := pick_ok t3 (by omega) (xs := kd.map .str) (by rw [List.length_map]; exact List.length_pos_iff.mpr hkd0) (by rw [List.length_map]; exact hkd)
    obtain ⟨kk, hkk, rfl⟩ := mem_strs hz
    have hL4 := f4.at hj hL3
    obtain ⟨v, L5, E5, t5, f5, x5⟩ := E_ok hns hns2 3 (N + 1 + 1 + 1) L4 (by decide) (by decide) t4 (by omega)
    have hL5 := f5.at hj hL4
    have hkey : y = .non ∨ ∃ t ∈ ks, y = .str t := by
      rcases List.mem_append.mp hy with h | h
      · simp only [List.mem_cons, List.not_mem_nil, or_false, or_self] at h
        exact .inl h
      · obtain ⟨t, ht, rfl⟩ := mem_strs h
        exact .inr ⟨t, ht, rfl⟩
    refine ⟨.tup [.str sSend, .str kk, y, v], L5, s - 1, d, 1, go ?_, t5.mono (by omega), (f1.fj.trans Fj.set).trans ((f3.trans (f4.trans f5)).fj), hL5, hd, .send hkk hkey x5, by omega⟩
    refine x_seq (r1 := .ret (.d (.tup [.str sSend, .str kk, y, v])) L5) (x_sif T1 (br1 rfl ?_)) x_thenR
    refine x_seq (x_asg (x_2 (x_2 (x_var rfl) x_c (v_pl hL1) rfl rfl) x_c rfl rfl rfl) (x_gitem (x_var rfl) x_c rfl (put_sends hL1))) (x_thenN ?_)
    refine x_seq (x_asg (w := .d y) (L1 := L3) (x_call (x_cons (x_var rfl) (x_cons (x_2 (x_lst (x_cons x_c (x_cons x_c x_nil)) rfl (by decide)) (x_2 (x_var rfl) x_c (v_pl hL2) rfl rfl) rfl rfl (add_keys.trans (if_pos (show 2 + ks.length ≤ 16777216 by omega)))) x_nil)) rfl E3) x_gvar) (x_thenN ?_)
    exact x_ret (x_tup (x_cons x_c (x_cons (x_call (x_cons (x_var rfl) (x_cons (x_2 (x_var rfl) x_c (v_pl hL3) rfl rfl) x_nil)) rfl E4) (x_cons (x_var rfl) (x_cons (x_call (x_cons (x_var rfl) (x_cons (x_2 (x_var rfl) x_c (v_pl hL4) rfl rfl) (x_cons x_c x_nil))) rfl E5) x_nil)))) rfl (Nat.le_of_ble_eq_true rfl))
  | false =>
    have go2 : ∀ {S T : SS} {x : D} {L' : Hs}, T [] [some (.ref 0), some (.ref j), some (.d (.int i)), some (.d (.int q)), none, none] L1 = .ret (.d x) L' → sSeq (sIf (tAnd (tE (e2 opLt (eVar 3) (eC (.int 3)))) (tAnd (tE (e2 opNe (e2 opIx (eVar 1) (eC (.str [107, 105, 110, 100, 115]))) (eLst (aNil)))) (tE (e2 opGt (e2 opIx (eVar 1) (eC (.str [115, 101, 110, 100, 115]))) (eC (.int 0)))))) S sNil) T [] [some (.ref 0), some (.ref j), some (.d (.int i)), some (.d (.int q)), none, none] L1 = .ret (.d x) L' := fun h => x_seq (x_sif T1 (br0 rfl rfl)) (x_thenN h)
    by_cases h3 : q = 3 ∧ 0 < i
    · obtain ⟨m, rfl⟩ : ∃ m, i = m + 1 := ⟨i - 1, by omega⟩
      have ecD : cD (m + 1) = 1800 + 2 * cS m := rfl
      have posS : 902 ≤ cS m := by have := cD_pos m; show 902 ≤ 2 + 3 * cD m; omega
      have cc3 : cC 3 = 1656 := rfl
      rw [ecD] at hN ⊢
      obtain ⟨c, L2, E2, t2, f2, x2⟩ := c_ok hns hns2 3 12 (N + 1) L1 (by decide) (by decide) t1 (by omega)
      have E2 : F__law_c [.ref 0, .d (.lst (ns.map .str)), .d (.int 3)] [] L1 = .ok (.d c) L2 := E2
      have hL2 := f2.at hj hL1
      obtain ⟨xs, L3, s3, d3, c3', E3, t3, f3, hL3, hd3, x3, q3, _⟩ := hr m rfl j (N + 1 + cC 3) L2 s d hj t2 hL2 hd (by omega)
      obtain ⟨ys, L4, s4, d4, c4', E4, t4, f4, hL4, hd4, x4, q4, _⟩ := hr m rfl j (N + 1 + cC 3 + cS m) L3 s3 d3 hj t3 hL3 hd3 (by omega)
      refine ⟨.tup [.str sIfS, c, .tup xs, .tup ys], L4, s4, d4, c3' + c4' + 1, go (go2 ?_), t4.mono (by omega), ((f1.trans f2).fj.trans f3).trans f4, hL4, hd4, .iff x2 x3 x4, by omega⟩
      refine x_seq (r1 := .ret (.d (.tup [.str sIfS, c, .tup xs, .tup ys])) L4) (x_sif (z_tAnd (x_tE (x_2 (x_var rfl) x_c rfl rfl rfl) rfl rfl) fun _ => x_tE (x_2 (x_var rfl) x_c rfl rfl (gt0 (m + 1))) rfl rfl) (br1 (by rw [decide_eq_true h3.1, decide_eq_true h3.2]; rfl) ?_)) x_thenR
      refine x_seq (x_asg (w := .d c) (L1 := L2) (x_call (x_cons (x_var rfl) (x_cons (x_2 (x_var rfl) x_c (v_pl hL1) rfl rfl) (x_cons x_c x_nil))) rfl E2) x_gvar) (x_thenN ?_)
      exact x_ret (x_tup (x_cons x_c (x_cons (x_var rfl) (x_cons (x_call (x_cons (x_var rfl) (x_cons (x_var rfl) (x_cons (x_2 (x_var rfl) x_c rfl rfl (sub1 m)) x_nil))) rfl E3) (x_cons (x_call (x_cons (x_var rfl) (x_cons (x_var rfl) (x_cons (x_2 (x_var rfl) x_c rfl rfl (sub1 m)) x_nil))) rfl E4) x_nil)))) rfl (Nat.le_of_ble_eq_true rfl))
    · have T2 : (tAnd (tE (e2 opEq (eVar 3) (eC (.int 3)))) (tE (e2 opGt (eVar 2) (eC (.int 0))))) [] [some (.ref 0), some (.ref j), some (.d (.int i)), some (.d (.int q)), none, none] L1 = .ok false L1 := by
        have e : (decide (q = 3) && decide (0 < i)) = false := by
          cases h : (decide (q = 3) && decide (0 < i)) with
          | false => rfl
          | true =>
            rw [Bool.and_eq_true, decide_eq_true_eq, decide_eq_true_eq] at h
            exact absurd h h3
        rw [← e]
        exact z_tAnd (x_tE (x_2 (x_var rfl) x_c rfl rfl rfl) rfl rfl) fun _ => x_tE (x_2 (x_var rfl) x_c rfl rfl (gt0 i)) rfl rfl
      -- a set
      have fin : ∀ {N' : Int} {L2 : Hs}, Pn N' L2 → N' ≤ N + 2 → Fr L L2 → L2[j]? = some (plc ns ks kd s d) → (∀ x L', (sRet (eTup (aCons (eC (.str [115, 101, 116])) (aCons (eCall 2 F__law_pick (aCons (eVar 0) (aCons (e2 opIx (eVar 1) (eC (.str [110, 97, 109, 101, 115]))) (aNil)))) (aCons (eCall 3 F__law_e (aCons (eVar 0) (aCons (e2 opIx (eVar 1) (eC (.str [110, 97, 109, 101, 115]))) (aCons (eC (.int 4)) (aNil))))) (aNil)))))) [] [some (.ref 0), some (.ref j), some (.d (.int i)), some (.d (.int q)), none, none] L2 = .ret (.d x) L' → R__law_deed (n + 1) [.ref 0, .ref j, .d (.int i)] [] L = .ok (.d x) L') →
          ∃ (x : D) (L' : Hs) (s' d' : Int) (c : Nat), R__law_deed (n + 1) [.ref 0, .ref j, .d (.int i)] [] L = .ok (.d x) L' ∧ Pn (N + cD i) L' ∧ Fj j L L' ∧ L'[j]? = some (plc ns ks kd s' d') ∧ 0 ≤ d' ∧ Dd ns ks kd i c x ∧ (c : Int) = d - d' + 1 := by
        intro N' L2 t2 hN' f2 hL2 hgo
        obtain ⟨y, L3, E3, t3, f3, hy⟩ := pick_ok t2 (by omega) (xs := ns.map .str) (by rw [List.length_map]; exact hns) (by rw [List.length_map]; exact hns2)
        obtain ⟨nm, hnm, rfl⟩ := mem_strs hy
        have hL3 := f3.at hj hL2
        obtain ⟨v, L4, E4, t4, f4, x4⟩ := E_ok hns hns2 4 (N' + 1) L3 (by decide) (by decide) t3 (by omega)
        refine ⟨.tup [.str sSet, .str nm, v], L4, s, d, 1, hgo _ _ ?_, t4.mono (by omega), ((f2.trans f3).trans f4).fj, f4.at hj hL3, hd, .set hnm x4, by omega⟩
        exact x_ret (x_tup (x_cons x_c (x_cons (x_call (x_cons (x_var rfl) (x_cons (x_2 (x_var rfl) x_c (v_pl hL2) rfl rfl) x_nil)) rfl E3) (x_cons (x_call (x_cons (x_var rfl) (x_cons (x_2 (x_var rfl) x_c (v_pl hL3) rfl rfl) (x_cons x_c x_nil))) rfl E4) x_nil))) rfl (Nat.le_of_ble_eq_true rfl))
      rw [R__law_deed] at fin
      by_cases h4 : q = 4
      · obtain ⟨p, L2, E2, t2, f2, a2, b2⟩ := draw_ok t1 (by omega) (m := 3) (by decide) (by decide +kernel)
        by_cases hp0 : p = 0
        · refine ⟨.tup [.str sFail], L2, s, d, 1, go (go2 ?_), t2.mono (by omega), (f1.trans f2).fj, f2.at hj hL1, hd, .fail, by omega⟩
          refine x_seq (x_sif T2 (br0 rfl rfl)) (x_thenN (x_seq (r1 := .ret (.d (.tup [.str sFail])) L2) (x_sif (x_tAnd (x_tE (x_2 (x_var rfl) x_c rfl rfl rfl) rfl rfl) (br1 (decide_eq_true h4) (x_tE (x_2 (x_call (x_cons (x_var rfl) (x_cons x_c x_nil)) rfl E2) x_c rfl rfl rfl) rfl rfl))) (br1 (decide_eq_true hp0) (x_ret (x_tup (x_cons x_c x_nil) rfl (by decide))))) x_thenR))
        · refine fin t2 (by omega) (f1.trans f2) (f2.at hj hL1) fun x L' h => go (go2 ?_)
          exact x_seq (x_sif T2 (br0 rfl rfl)) (x_thenN (x_seq (x_sif (x_tAnd (x_tE (x_2 (x_var rfl) x_c rfl rfl rfl) rfl rfl) (br1 (decide_eq_true h4) (x_tE (x_2 (x_call (x_cons (x_var rfl) (x_cons x_c x_nil)) rfl E2) x_c rfl rfl rfl) rfl rfl))) (br0 (decide_eq_false hp0) rfl)) (x_thenN h)))
      · refine fin t1 (by omega) f1 hL1 fun x L' h => go (go2 ?_)
        exact x_seq (x_sif T2 (br0 rfl rfl)) (x_thenN (x_seq (x_sif (x_tAnd (x_tE (x_2 (x_var rfl) x_c rfl rfl rfl) rfl rfl) (br0 (decide_eq_false h4) rfl)) (br0 rfl rfl)) (x_thenN h)))
end K02
end Ev

set_option linter.all false
set_option maxRecDepth 100000
set_option maxHeartbeats 1000000
namespace Ev
namespace K02
variable {ns ks kd : List (List Nat)}
theorem lst_of {L : Hs} {f : Nat} {ws : List W} (h : L[f]? = some (.lst ws)) : lstAt [] L (.ref f) = some (f, ws) := by
  show (match L[f]? with | some (Ob.lst ws) => some (f, ws) | _ => none) = _
  rw [h]
theorem v_lst {L : Hs} {f : Nat} {xs : List D} (h : L[f]? = some (.lst (xs.map .d))) : vw [] L (.ref f) = some (.lst xs) := by
  show (match L[f]? with | some (Ob.frz x) => some x | some (.lst ws) => (allD ws).map .lst | some (.dct ks ws) => (allD ws).map (.dct ks) | _ => none) = _
  rw [h]
  show (allD (xs.map .d)).map D.lst = _
  have : ∀ xs : List D, allD (xs.map .d) = some xs := fun xs => by
    induction xs with
    | nil => rfl
    | cons x xs ih =>
      show (match allD (xs.map .d) with | some ys => some (x :: ys) | none => none) = _
      rw [ih]
  rw [this]
  rfl
def dBody (F : Fn) : SS := (sIf (tE (e2 opGt (e2 opIx (eVar 1) (eC (.str [100, 101, 101, 100, 115]))) (eC (.int 0)))) (sSeq (sAsg (e2 opSub (e2 opIx (eVar 1) (eC (.str [100, 101, 101, 100, 115]))) (eC (.int 1))) (gItem (eVar 1) (eC (.str [100, 101, 101, 100, 115]))))
  (sExpr (eApp (eVar 3) (eCall 3 F (aCons (eVar 0) (aCons (eVar 1) (aCons (eVar 2) (aNil)))))))) (sNil))
theorem deeds_loop {i n j f : Nat} {L0 : Hs} (hd : DdOk ns ks kd i n) (hj : 0 < j) (hf : j < f) (hf0 : f = L0.length) : ∀ (xs acc : List D) (N : Int) (L : Hs) (s d : Int) (c : Nat) (o4 : Option W), Pn N L → L[j]? = some (plc ns ks kd s d) → 0 ≤ d → L[f]? = some (.lst (acc.map .d)) → acc.length + xs.length ≤ 3 → Ds ns ks kd i c acc → N + cD i * xs.length ≤ 1099511623000 →
    (∀ k, 0 < k → k ≠ j → k < L0.length → L[k]? = L0[k]?) →
    ∃ (acc' : List D) (L' : Hs) (s' d' : Int) (c' : Nat) (o4' : Option W), forGo (gVar 4) (dBody (R__law_deed n)) [] xs [some (.ref 0), some (.ref j), some (.d (.int i)), some (.ref f), o4] L = .next [some (.ref 0), some (.ref j), some (.d (.int i)), some (.ref f), o4'] L' ∧ Pn (N + cD i * xs.length) L' ∧ L'[j]? = some (plc ns ks kd s' d') ∧ 0 ≤ d' ∧ L'[f]? = some (.lst (acc'.map .d)) ∧ acc'.length ≤ 3 ∧ Ds ns ks kd i c' acc' ∧ (c' : Int) = c + (d - d') ∧
      (∀ k, 0 < k → k ≠ j → k < L0.length → L'[k]? = L0[k]?)
  | [], acc, N, L, s, d, c, o4, hp, hL, h0, hF, hl, hD, hN, hfr => ⟨acc, L, s, d, c, o4, rfl, hp.mono (by simp), hL, h0, hF, hl, hD, by omega, hfr⟩
  | x :: xs, acc, N, L, s, d, c, o4, hp, hL, h0, hF, hl, hD, hN, hfr => by
    have pos := cD_pos i
    have hm : cD i * ((x :: xs).length : Int) = cD i * xs.length + cD i := by rw [List.length_cons, Int.natCast_succ, Int.mul_add, Int.mul_one]
    rw [hm] at hN ⊢
    rw [List.length_cons] at hl
    have hKx : 0 ≤ cD i * (xs.length : Int) := Int.mul_nonneg (by omega) (by omega)
    have T : ∀ o, (tE (e2 opGt (e2 opIx (eVar 1) (eC (.str [100, 101, 101, 100, 115]))) (eC (.int 0)))) [] [some (.ref 0), some (.ref j), some (.d (.int i)), some (.ref f), o] L = .ok (decide (0 < d)) L := fun o => x_tE (x_2 (x_2 (x_var rfl) x_c (v_pl hL) rfl rfl) x_c rfl rfl rfl) rfl rfl
    by_cases hd0 : 0 < d
    · have hL1 := at_set (o' := plc ns ks kd s (d - 1)) hL
      have t1 := hp.set (o := plc ns ks kd s (d - 1)) hj
      have hF1 : (L.set j (plc ns ks kd s (d - 1)))[f]? = some (.lst (acc.map .d)) := (List.getElem?_set_ne (by omega)).trans hF
      obtain ⟨y, L2, s2, d2, cx, E2, t2, f2, hL2, hd2, x2, q2⟩ := hd j N _ s (d - 1) hj t1 hL1 (by omega) (by omega)
      have hF2 : L2[f]? = some (.lst (acc.map .d)) := (f2.2 f (by omega) (by omega) (at_lt hF1)).trans hF1
      have hF3 := at_set (o' := .lst ((acc ++ [y]).map .d)) hF2
      have hL3 : (L2.set f (.lst ((acc ++ [y]).map .d)))[j]? = some (plc ns ks kd s2 d2) := (List.getElem?_set_ne (by omega)).trans hL2
      obtain ⟨acc', L', s', d', c', o4', E, tt, hLL, hdd, hFF, hll, hDD, hcc, hfrr⟩ := deeds_loop hd hj hf hf0 xs (acc ++ [y]) (N + cD i) (L2.set f (.lst ((acc ++ [y]).map .d))) s2 d2 (c + cx) (some (.d x)) (t2.set (by omega)) hL3 hd2 hF3 (by rw [List.length_append]; show acc.length + 1 + _ ≤ _; omega) (.snoc hD x2) (by omega) (fun k k0 kj kl => by
        rw [List.getElem?_set_ne (by omega), f2.2 k k0 kj (by
          rw [List.length_set]
          have := at_lt hF
          omega), List.getElem?_set_ne (fun z => kj z.symm)]
        exact hfr k k0 kj kl)
      refine ⟨acc', L', s', d', c', o4', x_forcons x_gvar (sr1 := .next [some (.ref 0), some (.ref j), some (.d (.int i)), some (.ref f), some (.d x)] (L2.set f (.lst ((acc ++ [y]).map .d)))) ?_ (x_turnN E), tt.mono (by omega), hLL, hdd, hFF, hll, hDD, by omega, hfrr⟩
      refine x_sif (T _) (br1 (decide_eq_true hd0) ?_)
      refine x_seq (x_asg (x_2 (x_2 (x_var rfl) x_c (v_pl hL) rfl rfl) x_c rfl rfl rfl) (x_gitem (x_var rfl) x_c rfl (put_deeds hL))) (x_thenN ?_)
      refine x_expr (x_app (x_var rfl) (by rw [lst_of hF1]; rfl) (x_call (x_cons (x_var rfl) (x_cons (x_var rfl) (x_cons (x_var rfl) x_nil))) rfl E2) (lst_of hF2) (by rw [List.length_map]; show _ < 16777216; omega) ?_)
      rw [List.map_append]
      rfl
    · obtain ⟨acc', L', s', d', c', o4', E, tt, hLL, hdd, hFF, hll, hDD, hcc, hfrr⟩ := deeds_loop hd hj hf hf0 xs acc N L s d c (some (.d x)) hp hL h0 hF (by omega) hD (by omega) hfr
      exact ⟨acc', L', s', d', c', o4', x_forcons x_gvar (sr1 := .next [some (.ref 0), some (.ref j), some (.d (.int i)), some (.ref f), some (.d x)] L) (x_sif (T _) (br0 (decide_eq_false hd0) rfl)) (x_turnN E), tt.mono (by omega), hLL, hdd, hFF, hll, hDD, by omega, hfrr⟩
theorem deeds_step {i n : Nat} (hd : DdOk ns ks kd i n) : DsOk ns ks kd i (n + 1) := by
  intro j N L s d hj hp hL h0 hN
  have pos := cD_pos i
  have ecs : cS i = 2 + 3 * cD i := rfl
  rw [ecs] at hN ⊢
  rw [R__law_deeds]
  have hF1 : (L ++ [Ob.lst (([] : List D).map .d)])[0 + L.length]? = some (.lst (([] : List D).map .d)) := by
    rw [Nat.zero_add]
    exact List.getElem?_concat_length
  have f0 : Fr L (L ++ [Ob.lst (([] : List D).map .d)]) := Fr.add _
  have t0 := hp.add (Ob.lst (([] : List D).map .d))
  obtain ⟨q, L1, E1, t1, f1, a1, b1⟩ := draw_ok t0 (by omega) (m := 4) (by decide) (by decide +kernel)
  have jl := at_lt hL
  have hL1 := f1.at hj (f0.at hj hL)
  have lr : ((List.range q.toNat).map fun (k : Nat) => D.int k).length = q.toNat := by rw [List.length_map, List.length_range]
  have hk3 : cD i * (q.toNat : Int) ≤ 3 * cD i := by
    rw [Int.mul_comm]
    exact Int.mul_le_mul_of_nonneg_right (by omega) (by omega)
  obtain ⟨acc', L', s', d', c', o4', E, tt, hLL, hdd, hFF, hll, hDD, hcc, hfrr⟩ := deeds_loop (f := 0 + L.length) (L0 := L) hd hj (by omega) (by omega) ((List.range q.toNat).map fun (k : Nat) => D.int k) [] (N + 1) L1 s d 0 none t1 hL1 h0 (f1.at (by omega) hF1) (by rw [lr]; show 0 + _ ≤ _; omega) .nil (by rw [lr]; omega) (fun k k0 kj kl => by
    rw [f1.2 k k0 (by rw [List.length_append]; omega)]
    exact f0.2 k k0 kl)
  rw [lr] at tt
  refine ⟨acc', L', s', d', c', ?_, tt.mono (by omega), ⟨?_, hfrr⟩, hLL, hdd, hDD, by omega, hll⟩
  · refine x_fn (r1 := .ret (.d (.tup acc')) L') rfl ?_ rfl
    refine x_seq (x_asg (x_lstM x_nil (by decide)) x_gvar) (x_thenN ?_)
    refine x_seq (x_for (x_iRange (x_call (x_cons (x_var rfl) (x_cons x_c x_nil)) rfl E1) rfl rfl (by omega)) E) (x_thenN ?_)
    exact x_ret (x_B (x_cons (x_var rfl) x_nil) (x_vcons (v_lst hFF) x_vnil) rfl)
  · have := at_lt hFF
    omega
theorem deeds_ok (hns : 0 < ns.length) (hns2 : ns.length < 1000) (hks : ks.length < 900) (hkd : kd.length < 1000) : ∀ (i n : Nat), 2 * i + 2 ≤ n → DsOk ns ks kd i n
  | 0, n, h => by
    obtain ⟨n, rfl⟩ : ∃ m, n = m + 1 + 1 := ⟨n - 2, by omega⟩
    exact deeds_step (deed_step hns hns2 hks hkd fun m z => by omega)
  | i + 1, n, h => by
    obtain ⟨n, rfl⟩ : ∃ m, n = m + 1 + 1 := ⟨n - 2, by omega⟩
    refine deeds_step (deed_step hns hns2 hks hkd fun m z => ?_)
    have : m = i := by omega
    subst this
    exact deeds_ok hns hns2 hks hkd m n (by omega)
/-- a handler as it is drawn -/
theorem handler_draw (hns : 0 < ns.length) (hns2 : ns.length < 1000) (hks : ks.length < 900) (hkd : kd.length < 1000) {N : Int} {L : Hs} (hp : Pn N L) (hN : N ≤ 1099511000000) (sends : Int) :
    ∃ (xs : List D) (L' : Hs) (c : Nat), F__law_handler [.ref 0, .d (.lst (ns.map .str)), .d (.lst (ks.map .str)), .d (.lst (kd.map .str)), .d (.int sends)] [] L = .ok (.d (.tup xs)) L' ∧ Pn (N + 500000) L' ∧ Fr L L' ∧ Ds ns ks kd 3 c xs ∧ c ≤ 12 ∧ xs.length ≤ 4 := by
  have hP : (L ++ [plc ns ks kd sends 11])[0 + L.length]? = some (plc ns ks kd sends 11) := by
    rw [Nat.zero_add]
    exact List.getElem?_concat_length
  have lp := hp.len
  have f0 : Fr L (L ++ [plc ns ks kd sends 11]) := Fr.add _
  have t0 := hp.add (plc ns ks kd sends 11)
  have c3 : cS 3 = 427118 := rfl
  obtain ⟨xs, L1, s1, d1, c, E1, t1, f1, hL1, hd1, x1, q1, l1⟩ := deeds_ok hns hns2 hks hkd 3 12 (by decide) (0 + L.length) N _ sends 11 (by omega) t0 hP (by decide) (by omega)
  have E1 : F__law_deeds [.ref 0, .ref (0 + L.length), .d (.int 3)] [] (L ++ [plc ns ks kd sends 11]) = .ok (.d (.tup xs)) L1 := E1
  have fr1 : Fr L L1 := ⟨Nat.le_trans f0.1 f1.1, fun k k0 kl => by rw [f1.2 k k0 (by omega) (by rw [List.length_append]; omega)]; exact f0.2 k k0 kl⟩
  have c2 : cE 2 = 48 := rfl
  have go : ∀ {xs' : List D} {L' : Hs}, (sIf (tAnd (tE (e2 opNe (eVar 3) (eLst (aNil)))) (tAnd (tE (e2 opGt (e2 opIx (eVar 5) (eC (.str [115, 101, 110, 100, 115]))) (eC (.int 0)))) (tE (e2 opGt (eCall 2 F__law_draw (aCons (eVar 0) (aCons (eC (.int 3)) (aNil)))) (eC (.int 0)))))) (sAsg (e2 opAdd (eVar 6) (eTup (aCons (eTup (aCons (eC (.str [115, 101, 110, 100])) (aCons (eCall 2 F__law_pick (aCons (eVar 0) (aCons (eVar 3) (aNil)))) (aCons (eC .non) (aCons (eCall 3 F__law_e (aCons (eVar 0) (aCons (eVar 1) (aCons (eC (.int 2)) (aNil))))) (aNil)))))) (aNil)))) (gVar 6)) (sNil)) [] [some (.ref 0), some (.d (.lst (ns.map .str))), some (.d (.lst (ks.map .str))), some (.d (.lst (kd.map .str))), some (.d (.int sends)), some (.ref (0 + L.length)), some (.d (.tup xs))] L1 = .next [some (.ref 0), some (.d (.lst (ns.map .str))), some (.d (.lst (ks.map .str))), some (.d (.lst (kd.map .str))), some (.d (.int sends)), some (.ref (0 + L.length)), some (.d (.tup xs'))] L' →
      F__law_handler [.ref 0, .d (.lst (ns.map .str)), .d (.lst (ks.map .str)), .d (.lst (kd.map .str)), .d (.int sends)] [] L = .ok (.d (.tup xs')) L' := fun {xs' L'} h => by
    unfold F__law_handler
    exact x_fn (r1 := .ret (.d (.tup xs')) L') rfl (x_seq (x_asg (w := .ref (0 + L.length)) (L1 := L ++ [plc ns ks kd sends 11]) (x_dctM (x_pcons x_c (x_var rfl) (x_pcons x_c (x_var rfl) (x_pcons x_c (x_var rfl) (x_pcons x_c (x_var rfl) (x_pcons x_c x_c x_pnil))))) (x_vcons rfl (x_vcons rfl (x_vcons rfl (x_vcons rfl (x_vcons rfl x_vnil))))) rfl) x_gvar) (x_thenN (x_seq (x_asg (x_call (x_cons (x_var rfl) (x_cons (x_var rfl) (x_cons x_c x_nil))) rfl E1) x_gvar) (x_thenN (x_seq h (x_thenN (x_ret (x_var rfl)))))))) rfl
  by_cases h1 : (!(kd.map D.str).isEmpty) = true ∧ 0 < s1
  · obtain ⟨q, L2, E2, t2, f2, a2, b2⟩ := draw_ok t1 (by omega) (m := 3) (by decide) (by decide +kernel)
    have T : (tAnd (tE (e2 opNe (eVar 3) (eLst (aNil)))) (tAnd (tE (e2 opGt (e2 opIx (eVar 5) (eC (.str [115, 101, 110, 100, 115]))) (eC (.int 0)))) (tE (e2 opGt (eCall 2 F__law_draw (aCons (eVar 0) (aCons (eC (.int 3)) (aNil)))) (eC (.int 0)))))) [] [some (.ref 0), some (.d (.lst (ns.map .str))), some (.d (.lst (ks.map .str))), some (.d (.lst (kd.map .str))), some (.d (.int sends)), some (.ref (0 + L.length)), some (.d (.tup xs))] L1 = .ok (decide (0 < q)) L2 :=
      x_tAnd (x_tE (x_2 (x_var rfl) (x_lst x_nil rfl (by decide)) rfl rfl ne_cs) rfl rfl) (br1 h1.1 (x_tAnd (x_tE (x_2 (x_2 (x_var rfl) x_c (v_pl hL1) rfl rfl) x_c rfl rfl rfl) rfl rfl) (br1 (decide_eq_true h1.2) (x_tE (x_2 (x_call (x_cons (x_var rfl) (x_cons x_c x_nil)) rfl E2) x_c rfl rfl rfl) rfl rfl))))
    by_cases hq : 0 < q
    · have hk0 : 0 < kd.length := by
        have h := h1.1
        cases kd with
        | nil => cases h
        | cons _ _ => exact Nat.succ_pos _
      obtain ⟨y, L3, E3, t3, f3, hy⟩ := pick_ok t2 (by omega) (xs := kd.map .str) (by rw [List.length_map]; exact hk0) (by rw [List.length_map]; exact hkd)
      obtain ⟨kk, hkk, rfl⟩ := mem_strs hy
      obtain ⟨v, L4, E4, t4, f4, x4⟩ := E_ok hns hns2 2 (N + cS 3 + 1 + 1) L3 (by decide) (by decide) t3 (by omega)
      have x4' : Ex ns 3 v := by
        have up : ∀ {d e}, Ex ns d e → Ex ns (d + 1) e := fun {d e} h => by
          induction h with
          | val a b => exact .val a b
          | body => exact .body
          | row a => exact .row a
          | op a _ _ ih1 ih2 => exact .op a ih1 ih2
        exact up x4
      refine ⟨xs ++ [.tup [.str sSend, .str kk, .non, v]], L4, c + 1, go ?_, t4.mono (by omega), ((fr1.trans f2).trans f3).trans f4, .snoc x1 (.send hkk (.inl rfl) x4'), by omega, by rw [List.length_append]; show _ + 1 ≤ _; omega⟩
      refine x_sif T (br1 (decide_eq_true hq) (x_asg (w := .d (.tup (xs ++ [.tup [.str sSend, .str kk, .non, v]]))) (L1 := L4) (x_2 (x_var rfl) (x_tup (x_cons (x_tup (x_cons x_c (x_cons (x_call (x_cons (x_var rfl) (x_cons (x_var rfl) x_nil)) rfl E3) (x_cons x_c (x_cons (x_call (x_cons (x_var rfl) (x_cons (x_var rfl) (x_cons x_c x_nil))) rfl E4) x_nil)))) rfl (Nat.le_of_ble_eq_true rfl)) x_nil) rfl (Nat.le_of_ble_eq_true rfl)) rfl rfl (a_tup ?_)) x_gvar))
      show xs.length + 1 ≤ 16777216
      omega
    · exact ⟨xs, L2, c, go (x_sif T (br0 (decide_eq_false hq) rfl)), t2.mono (by omega), fr1.trans f2, x1, by omega, by omega⟩
  · refine ⟨xs, L1, c, go (x_sif (k := false) ?_ (br0 rfl rfl)), t1.mono (by omega), fr1, x1, by omega, by omega⟩
    refine x_tAnd (x_tE (x_2 (x_var rfl) (x_lst x_nil rfl (by decide)) rfl rfl ne_cs) rfl rfl) ?_
    cases h : (!(kd.map D.str).isEmpty) with
    | false => exact br0 rfl rfl
    | true => exact br1 rfl (x_tAnd (x_tE (x_2 (x_2 (x_var rfl) x_c (v_pl hL1) rfl rfl) x_c rfl rfl rfl) rfl rfl) (br0 (decide_eq_false fun z => h1 ⟨h, z⟩) rfl))
end K02
end Ev

set_option linter.all false
set_option maxRecDepth 100000
set_option maxHeartbeats 1000000
namespace Ev
namespace K02
/-! data with tuples of at most l items, at most d deep -/
def okS (s : List Nat) : Bool := s.all (· < 0x110000) && decide (s.length ≤ 1000)
def gd (l : Nat) : Nat → D → Bool
  | 0, .tup _ => false
  | d + 1, .tup xs => decide (xs.length ≤ l) && xs.all (gd l d)
  | _, .str s => okS s
  | _, .non => true
  | _, .bl _ => true
  | _, .int _ => true
  | _, .lst _ => true
  | _, .dct _ _ => true
  | _, _ => false
theorem gd_tup {l d : Nat} {xs : List D} : gd l (d + 1) (.tup xs) = true ↔ xs.length ≤ l ∧ ∀ x ∈ xs, gd l d x = true := by
  show (decide (xs.length ≤ l) && xs.all (gd l d)) = true ↔ _
  rw [Bool.and_eq_true, decide_eq_true_eq, List.all_eq_true]
theorem gd_mono {l l' : Nat} (hl : l ≤ l') : ∀ (d d' : Nat) (v : D), d ≤ d' → gd l d v = true → gd l' d' v = true
  | 0, d', v, hd, h => by
    cases v with
    | tup xs => cases h
    | _ => cases d' <;> exact h
  | d + 1, d', v, hd, h => by
    obtain ⟨d', rfl⟩ : ∃ m, d' = m + 1 := ⟨d' - 1, by omega⟩
    cases v with
    | tup xs =>
      have h := gd_tup.mp h
      exact gd_tup.mpr ⟨Nat.le_trans h.1 hl, fun x hx => gd_mono hl d d' x (by omega) (h.2 x hx)⟩
    | _ => exact h
theorem fines_of : ∀ xs : List D, (∀ x ∈ xs, fine x = true) → fines xs = true
  | [], _ => rfl
  | x :: xs, h => by
    show (fine x && fines xs) = true
    rw [h x (List.mem_cons_self ..), fines_of xs fun y hy => h y (List.mem_cons_of_mem _ hy)]
    rfl
theorem gd_fine {l : Nat} (hl : l ≤ 1000) : ∀ (d : Nat) (v : D), gd l d v = true → fine v = true
  | 0, v, h => by
    cases v with
    | tup xs => cases h
    | _ => exact h
  | d + 1, v, h => by
    cases v with
    | tup xs =>
      have h := gd_tup.mp h
      show (decide (xs.length ≤ 1000) && fines xs) = true
      rw [decide_eq_true (Nat.le_trans h.1 hl), fines_of xs fun x hx => gd_fine hl d x (h.2 x hx)]
      rfl
    | _ => exact h
/-! what is drawn -/
theorem okS_word {s : List Nat} (h : WordOk s) : okS s = true := by
  show (s.all (· < 0x110000) && decide (s.length ≤ 1000)) = true
  rw [Bool.and_eq_true, decide_eq_true_eq, List.all_eq_true]
  refine ⟨fun c hc => ?_, by have := h.2.1; omega⟩
  have : ∀ c ∈ letters, decide (c < 0x110000) = true := by decide
  exact this c (h.2.2 c hc)
theorem gd_str {l d : Nat} {s : List Nat} (h : okS s = true) : gd l d (.str s) = true := by cases d <;> exact h
theorem gd_int {l d : Nat} {n : Int} : gd l d (.int n) = true := by cases d <;> rfl
theorem gd_non {l d : Nat} : gd l d .non = true := by cases d <;> rfl
theorem gd1 {l d : Nat} {a : D} (hl : 4 ≤ l) (h : gd l d a = true) : gd l (d + 1) (.tup [a]) = true := gd_tup.mpr ⟨by show 1 ≤ l; omega, fun x hx => by
  rcases List.mem_cons.mp hx with rfl | hx
  · exact h
  · cases hx⟩
theorem gd2 {l d : Nat} {a b : D} (hl : 4 ≤ l) (h : gd l d a = true) (h2 : gd l d b = true) : gd l (d + 1) (.tup [a, b]) = true := gd_tup.mpr ⟨by show 2 ≤ l; omega, fun x hx => by
  rcases List.mem_cons.mp hx with rfl | hx
  · exact h
  rcases List.mem_cons.mp hx with rfl | hx
  · exact h2
  · cases hx⟩
theorem gd3 {l d : Nat} {a b c : D} (hl : 4 ≤ l) (h : gd l d a = true) (h2 : gd l d b = true) (h3 : gd l d c = true) : gd l (d + 1) (.tup [a, b, c]) = true := gd_tup.mpr ⟨by show 3 ≤ l; omega, fun x hx => by
  rcases List.mem_cons.mp hx with rfl | hx
  · exact h
  rcases List.mem_cons.mp hx with rfl | hx
  · exact h2
  rcases List.mem_cons.mp hx with rfl | hx
  · exact h3
  · cases hx⟩
theorem gd4 {l d : Nat} {a b c e : D} (hl : 4 ≤ l) (h : gd l d a = true) (h2 : gd l d b = true) (h3 : gd l d c = true) (h4 : gd l d e = true) : gd l (d + 1) (.tup [a, b, c, e]) = true := gd_tup.mpr ⟨by show 4 ≤ l; omega, fun x hx => by
  rcases List.mem_cons.mp hx with rfl | hx
  · exact h
  rcases List.mem_cons.mp hx with rfl | hx
  · exact h2
  rcases List.mem_cons.mp hx with rfl | hx
  · exact h3
  rcases List.mem_cons.mp hx with rfl | hx
  · exact h4
  · cases hx⟩
section
variable {ns ks kd : List (List Nat)}
theorem Ex_gd (hn : ∀ s ∈ ns, WordOk s) {l : Nat} (hl : 4 ≤ l) {d : Nat} {v : D} (h : Ex ns d v) : gd l d v = true := by
  induction h with
  | val a b => exact gd2 hl (gd_str rfl) gd_int
  | body => exact gd1 hl (gd_str rfl)
  | row a => exact gd2 hl (gd_str rfl) (gd_str (okS_word (hn _ a)))
  | op a _ _ ih1 ih2 =>
    refine gd3 hl (gd_str ?_) ih1 ih2
    have : ∀ o ∈ [[43], [45], [42]], okS o = true := by decide
    exact this _ a
theorem Cn_gd (hn : ∀ s ∈ ns, WordOk s) {l : Nat} (hl : 4 ≤ l) {d : Nat} {v : D} (h : Cn ns d v) : gd l (d + 3) v = true := by
  induction h with
  | @cmp d o a b h1 h2 h3 =>
    refine gd_mono (Nat.le_refl _) 4 _ _ (by omega) (gd3 hl (gd_str ?_) (Ex_gd hn hl h2) (gd_mono (Nat.le_refl _) 2 3 _ (by decide) (Ex_gd hn hl h3)))
    have : ∀ o ∈ [[60], [61]], okS o = true := by decide
    exact this _ h1
  | no _ ih => exact gd2 hl (gd_str rfl) ih
  | jn a _ _ ih1 ih2 =>
    refine gd3 hl (gd_str ?_) ih1 ih2
    have : ∀ o ∈ [sAnd, sOr], okS o = true := by decide
    exact this _ a
theorem Dd_gd (hn : ∀ s ∈ ns, WordOk s) (hk : ∀ s ∈ ks, WordOk s) (hd : ∀ s ∈ kd, WordOk s) {l : Nat} (hl : 12 ≤ l) : ∀ (i c : Nat) (v : D), c ≤ 12 → Dd ns ks kd i c v → gd l (7 + 2 * i) v = true := by
  intro i
  induction i with
  | zero =>
    intro c v hc h
    cases h with
    | set a b => exact gd3 (by omega) (gd_str rfl) (gd_str (okS_word (hn _ a))) (gd_mono (Nat.le_refl _) 4 6 _ (by decide) (Ex_gd hn (by omega) b))
    | send a b e =>
      refine gd4 (by omega) (gd_str rfl) (gd_str (okS_word (hd _ a))) ?_ (gd_mono (Nat.le_refl _) 3 6 _ (by decide) (Ex_gd hn (by omega) e))
      rcases b with rfl | ⟨t, ht, rfl⟩
      · exact gd_non
      · exact gd_str (okS_word (hk _ ht))
    | fail => exact gd1 (by omega) (gd_str rfl)
  | succ i ih =>
    intro c v hc h
    show gd l ((7 + 2 * i + 1) + 1) v = true
    have ds : ∀ (b : Nat) (xs : List D), b ≤ 12 → Ds ns ks kd i b xs → xs.length ≤ b ∧ ∀ x ∈ xs, gd l (7 + 2 * i) x = true := by
      intro b xs hb hx
      generalize hL : xs.length = n
      induction n generalizing b xs with
      | zero =>
        cases hx with
        | nil => exact ⟨Nat.zero_le _, fun x hx => by cases hx⟩
        | snoc h1 h2 => rw [List.length_append] at hL; cases hL
      | succ n ihn =>
        cases hx with
        | nil => cases hL
        | @snoc _ a b xs x h1 h2 =>
          have hb1 : 1 ≤ b := by cases h2 <;> omega
          have := ihn a xs (by omega) h1 (by rw [List.length_append] at hL; exact Nat.succ.inj hL)
          refine ⟨by omega, fun y hy => ?_⟩
          rcases List.mem_append.mp hy with hy | hy
          · exact this.2 y hy
          · rcases List.mem_cons.mp hy with rfl | hy
            · exact ih b _ (by omega) h2
            · cases hy
    cases h with
    | set a b => exact gd3 (by omega) (gd_str rfl) (gd_str (okS_word (hn _ a))) (gd_mono (Nat.le_refl _) 4 _ _ (by omega) (Ex_gd hn (by omega) b))
    | send a b e =>
      refine gd4 (by omega) (gd_str rfl) (gd_str (okS_word (hd _ a))) ?_ (gd_mono (Nat.le_refl _) 3 _ _ (by omega) (Ex_gd hn (by omega) e))
      rcases b with rfl | ⟨t, ht, rfl⟩
      · exact gd_non
      · exact gd_str (okS_word (hk _ ht))
    | fail => exact gd1 (by omega) (gd_str rfl)
    | @iff _ a b c xs ys h1 h2 h3 =>
      have d1 := ds a xs (by omega) h2
      have d2 := ds b ys (by omega) h3
      exact gd4 (by omega) (gd_str rfl) (gd_mono (Nat.le_refl _) 6 _ _ (by omega) (Cn_gd hn (by omega) h1)) (gd_tup.mpr ⟨by omega, d1.2⟩) (gd_tup.mpr ⟨by omega, d2.2⟩)
theorem Ds_gd (hn : ∀ s ∈ ns, WordOk s) (hk : ∀ s ∈ ks, WordOk s) (hd : ∀ s ∈ kd, WordOk s) {l : Nat} (hl : 12 ≤ l) {i b : Nat} {xs : List D} (hb : b ≤ 12) (hx : Ds ns ks kd i b xs) : xs.length ≤ b ∧ ∀ x ∈ xs, gd l (7 + 2 * i) x = true := by
  generalize hL : xs.length = n
  induction n generalizing b xs with
  | zero =>
    cases hx with
    | nil => exact ⟨Nat.zero_le _, fun x hx => by cases hx⟩
    | snoc h1 h2 => rw [List.length_append] at hL; cases hL
  | succ n ihn =>
    cases hx with
    | nil => cases hL
    | @snoc _ a b xs x h1 h2 =>
      have hb1 : 1 ≤ b := by cases h2 <;> omega
      have := ihn (b := a) (by omega) h1 (by rw [List.length_append] at hL; exact Nat.succ.inj hL)
      refine ⟨by omega, fun y hy => ?_⟩
      rcases List.mem_append.mp hy with hy | hy
      · exact this.2 y hy
      · rcases List.mem_cons.mp hy with rfl | hy
        · exact Dd_gd hn hk hd hl i b _ (by omega) h2
        · cases hy
end
theorem handler_gd {N : Int} {L : Hs} (hp : Pn N L) (hN : N ≤ 1099511000000) {ns ks kd : List (List Nat)} (h1 : ns.length = 2) (h2 : ks.length = 2) (h3 : kd.length = 2) (hn : ∀ s ∈ ns, WordOk s) (hk : ∀ s ∈ ks, WordOk s) (hd : ∀ s ∈ kd, WordOk s) (sends : Int) :
    ∃ (xs : List D) (L' : Hs), F__law_handler [.ref 0, .d (.lst (ns.map .str)), .d (.lst (ks.map .str)), .d (.lst (kd.map .str)), .d (.int sends)] [] L = .ok (.d (.tup xs)) L' ∧ Pn (N + 500000) L' ∧ Fr L L' ∧ gd 20 20 (.tup xs) = true := by
  obtain ⟨xs, L', c, E, t, f, ds, hc, hl⟩ := handler_draw (ns := ns) (ks := ks) (kd := kd) (by omega) (by omega) (by omega) (by omega) hp hN sends
  have d := Ds_gd hn hk hd (l := 20) (by decide) hc ds
  exact ⟨xs, L', E, t, f, gd_tup.mpr ⟨by omega, fun x hx => gd_mono (Nat.le_refl _) 13 19 x (by decide) (d.2 x hx)⟩⟩
end K02
end Ev

set_option linter.all false
set_option maxRecDepth 100000
set_option maxHeartbeats 1000000
namespace Ev
section
variable {B L L1 L2 : Hs} {ρ : Sl} {x y : W} {a b : SE} {xs ys : List D}
theorem x_addM (h : a B ρ L = .ok x L1) (h2 : b B ρ L1 = .ok y L2) (hx : vw B L2 x = some (.lst xs)) (hy : vw B L2 y = some (.lst ys)) (hl : xs.length + ys.length ≤ sizeL) : eAddM a b B ρ L = .ok (.ref (B.length + L2.length)) (L2 ++ [.lst ((xs ++ ys).map .d)]) := by
  unfold eAddM vwR ofOpt guardR Res.bind
  rw [h]
  dsimp only
  rw [h2]
  dsimp only
  rw [hx]
  dsimp only
  rw [hy]
  dsimp only [lstD]
  rw [decide_eq_true hl]
end
namespace K02
def big : Int := 10 ^ 60 * 10 ^ 40
def odd0 : List D := [.non, .bl true, .bl false, .int 0, .int 1, .int (-1), .int 99, .int 100, .int (-100), .int big, .str [], .str [97], .str [65], .str [97, 98, 99, 100, 101, 102, 103], .str [97, 32, 98], .str [115, 101, 116]]
def odd1 : List D := [.tup [], .tup [.str [97]], .tup [.str [102, 97, 105, 108]], .lst [], .lst [.str [97]], .dct [] [], .dct [.str [97]] [.int 1], .tup [.non], .tup [.tup []], .tup [.str [118, 97, 108, 117, 101], .int 1], .tup [.str [98, 111, 100, 121]], .lst [.tup [.str [102, 97, 105, 108]]]]
def odd2 : List D := [.tup [.str [114, 111, 119], .str [97]], .tup [.str [115, 101, 110, 100], .str [97], .non, .tup [.str [98, 111, 100, 121]]], .tup [.str [97], .str [98], .int 1], .tup [.tup [.str [102, 97, 105, 108]]]]
def oddL : List D := ((odd0 ++ odd1) ++ [D.str sFail]) ++ odd2
theorem last_at {L : Hs} {o : Ob} : (L ++ [o])[0 + L.length]? = some o := by
  rw [Nat.zero_add]
  exact List.getElem?_concat_length
theorem odd_gd : ∀ y ∈ oddL, gd 4 2 y = true := by decide +kernel
theorem odd_ok {N : Int} {L : Hs} (h : Pn N L) (hN : N ≤ 1099511627776) :
    ∃ (y : D) (L' : Hs), F__law_odd [.ref 0] [] L = .ok (.d y) L' ∧ Pn (N + 1) L' ∧ Fr L L' ∧ y ∈ oddL := by
  have lp := h.len
  have t1 := h.add (Ob.lst (odd0.map .d))
  have f1 : Fr L (L ++ [Ob.lst (odd0.map .d)]) := Fr.add _
  have t2 := t1.add (Ob.lst ((odd0 ++ odd1).map .d))
  have f2 : Fr (L ++ [Ob.lst (odd0.map .d)]) ((L ++ [Ob.lst (odd0.map .d)]) ++ [Ob.lst ((odd0 ++ odd1).map .d)]) := Fr.add _
  generalize hL1 : (L ++ [Ob.lst (odd0.map .d)]) = L1 at *
  have a1 : L1[0 + L.length]? = some (.lst (odd0.map .d)) := by rw [← hL1]; exact last_at
  have a2 : (L1 ++ [Ob.lst ((odd0 ++ odd1).map .d)])[0 + L1.length]? = some (.lst ((odd0 ++ odd1).map .d)) := last_at
  generalize hL2 : (L1 ++ [Ob.lst ((odd0 ++ odd1).map .d)]) = L2 at *
  have l1 : L.length ≤ L1.length := f1.1
  have t3 : Pn N (L2.set (0 + L1.length) (.lst (((odd0 ++ odd1) ++ [D.str sFail]).map .d))) := t2.set (by omega)
  have a3 : (L2.set (0 + L1.length) (.lst (((odd0 ++ odd1) ++ [D.str sFail]).map .d)))[0 + L1.length]? = some (.lst (((odd0 ++ odd1) ++ [D.str sFail]).map .d)) := at_set a2
  have f3 : Fr L (L2.set (0 + L1.length) (.lst (((odd0 ++ odd1) ++ [D.str sFail]).map .d))) := ⟨by rw [List.length_set]; exact Nat.le_trans f1.1 f2.1, fun j j0 jl => by
    rw [List.getElem?_set_ne (by omega)]
    exact (f1.trans f2).2 j j0 jl⟩
  generalize hL3 : (L2.set (0 + L1.length) (.lst (((odd0 ++ odd1) ++ [D.str sFail]).map .d))) = L3 at *
  obtain ⟨y, L4, E, t4, f4, hy⟩ := pick_ok t3 hN (xs := oddL) (by decide) (by decide)
  refine ⟨y, L4, ?_, t4, f3.trans f4, hy⟩
  unfold F__law_odd
  refine x_fn (r1 := .ret (.d y) L4) rfl ?_ rfl
  refine x_seq (x_asg (w := .ref (0 + L.length)) (L1 := L1) ?A x_gvar) (x_thenN ?_)
  case A =>
    rw [← hL1]
    exact x_lstM (ws := [.d (.non), .d (.bl true), .d (.bl false), .d (.int 0), .d (.int 1), .d (.int (-1)), .d (.int 99), .d (.int 100), .d (.int (-100)), .d (.int big), .d (.str []), .d (.str [97]), .d (.str [65]), .d (.str [97, 98, 99, 100, 101, 102, 103]), .d (.str [97, 32, 98]), .d (.str [115, 101, 116])]) (by (repeat' (first | (with_reducible first | exact r_ok | exact x_c | exact x_nil | exact x_vnil | exact x_pnil | exact x_snil | exact x_gvar | exact x_gnil | exact x_oNone | exact v_d | exact t_bl | exact t_int | exact t_non | exact o_add | exact o_sub | exact o_lt | exact o_le | exact o_gt | exact o_ge | exact o_eqI | exact o_eqS | exact o_neI | exact o_neS | exact b_len | exact b_lenT | exact b_lenS | exact b_abs | exact b_int | exact b_intB | exact b_max | exact b_min | exact w_nil | apply w_cons | exact x_fornil | exact x_turnB | exact x_turnR | exact e_ret | exact e_next | exact o_out | apply x_for | apply x_forcons | apply x_turnN | apply x_turnC | apply x_iE | apply x_fn | apply x_pure | apply a_lst | apply a_tup | apply x_seq | apply x_thenN | exact x_thenR | exact x_thenB | exact x_thenC | apply x_2 | apply x_1 | apply x_cons | apply x_B | apply x_vcons | apply x_star | apply x_tup | apply x_lst | apply x_call | apply x_callK | apply x_tE | apply x_tNot | apply x_not | apply x_isN | apply x_notN | apply x_oSome | apply x_sl | apply x_app | apply x_ext | apply x_pop | apply x_inN | apply x_gitem | apply x_listM | apply x_lstM | apply x_parN | apply x_tIf | exact l_own | exact l_some | apply x_tAnd | apply x_tOr | apply x_if | apply x_and | apply x_or | apply x_chain | apply x_ch2 | apply x_ex | apply x_pcons | apply x_dct | apply x_dctM | apply x_ret | apply x_expr | apply x_sif | apply x_asg | apply x_gtup | apply x_gcons | apply x_par | apply x_par3 | apply x_dput | apply o_mod | apply o_fdiv | apply o_mul | apply o_pow ) | ((with_reducible apply x_var); rfl) | ((with_reducible apply br1); (first | (apply decide_eq_true; omega) | (apply decide_eq_false; omega) | (apply decide_eq_true; with_reducible assumption) | (apply decide_eq_false; with_reducible assumption) | decide +kernel)) | ((with_reducible apply br0); (first | (apply decide_eq_true; omega) | (apply decide_eq_false; omega) | (apply decide_eq_true; with_reducible assumption) | (apply decide_eq_false; with_reducible assumption) | decide +kernel)) | ((with_reducible show List.length _ = _); rfl) | ((with_reducible show vw _ _ _ = _); rfl) | ((with_reducible show putAt _ _ _ _ _ = _); rfl) | ((with_reducible show putIn _ _ _ _ _ = _); rfl) | ((with_reducible show ownAll _ _ _ = _); rfl) | ((with_reducible show tupD _ = _); rfl) | ((with_reducible show seqD _ = _); rfl) | ((with_reducible show intD _ = _); rfl) | ((with_reducible show still _ _ _ = _); rfl) | ((with_reducible show items _ = _); rfl) | ((with_reducible show opIx _ _ = _); rfl) | ((with_reducible show (List.all _ _ && _) = true); rfl) | ((with_reducible show opItems _ = _); rfl) | ((with_reducible show bDict _ = _); rfl) | ((with_reducible show bIsi _ _ = _); rfl) | ((with_reducible show List.set _ _ _ = _); rfl) | ((with_reducible show seqS _ = _); rfl) | ((with_reducible show lstD _ = _); rfl) | ((with_reducible show setAll _ _ _ = _); rfl) | ((with_reducible show _ ≤ sizeL); exact Nat.le_of_ble_eq_true rfl))) <;> first | rfl | decide +kernel) (by decide)
  refine x_seq (x_asg (w := .ref (0 + L1.length)) (L1 := L2) ?A x_gvar) (x_thenN ?_)
  case A =>
    rw [← hL2]
    exact x_addM (xs := odd0) (ys := odd1) (x_var rfl) (x_lst (xs := odd1) (ws := [.d (.tup []), .d (.tup [.str [97]]), .d (.tup [.str [102, 97, 105, 108]]), .d (.lst []), .d (.lst [.str [97]]), .d (.dct [] []), .d (.dct [.str [97]] [.int 1]), .d (.tup [.non]), .d (.tup [.tup []]), .d (.tup [.str [118, 97, 108, 117, 101], .int 1]), .d (.tup [.str [98, 111, 100, 121]]), .d (.lst [.tup [.str [102, 97, 105, 108]]])]) (L1 := L1) rfl rfl (by decide)) (v_lst a1) rfl (by decide)
  refine x_seq (x_expr (x_app (L3 := L3) (x_var rfl) (by rw [lst_of a2]; rfl) x_c (lst_of a2) (by decide) (by rw [← hL3]; rfl))) (x_thenN ?_)
  refine x_ret (x_call (ws := [.ref 0, .d (.lst oddL)]) (L1 := L3) (x_cons (x_var rfl) (x_cons (x_2 (x_var rfl) (x_lst (xs := odd2) (ws := [.d (.tup [.str [114, 111, 119], .str [97]]), .d (.tup [.str [115, 101, 110, 100], .str [97], .non, .tup [.str [98, 111, 100, 121]]]), .d (.tup [.str [97], .str [98], .int 1]), .d (.tup [.tup [.str [102, 97, 105, 108]]])]) (L1 := L3) rfl rfl (by decide)) (v_lst a3) rfl (a_lst (by decide))) x_nil)) rfl E)
end K02
end Ev

set_option linter.all false
set_option maxRecDepth 100000
set_option maxHeartbeats 1000000
namespace Ev
namespace K02
theorem mem2 {α : Type} {a b y : α} (h : y ∈ [a, b]) : y = a ∨ y = b := by
  rcases List.mem_cons.mp h with h | h
  · exact .inl h
  rcases List.mem_cons.mp h with h | h
  · exact .inr h
  · cases h
theorem mem3 {α : Type} {a b c y : α} (h : y ∈ [a, b, c]) : y = a ∨ y = b ∨ y = c := by
  rcases List.mem_cons.mp h with h | h
  · exact .inl h
  · exact .inr (mem2 h)
theorem mem4 {α : Type} {a b c d y : α} (h : y ∈ [a, b, c, d]) : y = a ∨ y = b ∨ y = c ∨ y = d := by
  rcases List.mem_cons.mp h with h | h
  · exact .inl h
  · exact .inr (mem3 h)
theorem Fr.setU {L L' : Hs} {p : Nat} {o : Ob} (f : Fr L L') (hp : L.length ≤ p) : Fr L (L'.set p o) := ⟨by rw [List.length_set]; exact f.1, fun j j0 jl => by
  rw [List.getElem?_set_ne (by omega)]
  exact f.2 j j0 jl⟩
def val (r : Res W) : D := match r with
  | .ok (.d x) _ => x
  | _ => .non
theorem deepE_ok {y o : D} (hy : y ∈ [D.int 5, .int 6, .int 7]) (ho : o ∈ [D.str [43], .str [45], .str [42]]) : ∃ e, (∀ B L, F__law_deep_e [.d y, .d o] B L = .ok (.d e) L) ∧ gd 20 8 e = true := by
  refine ⟨val (F__law_deep_e [.d y, .d o] [] []), ?_⟩
  rcases mem3 hy with rfl | rfl | rfl <;> rcases mem3 ho with rfl | rfl | rfl <;> exact ⟨fun B L => rfl, by decide +kernel⟩
theorem deepC_ok {y o : D} (hy : y ∈ [D.int 5, .int 6, .int 7]) (ho : o ∈ [D.str [110, 111, 116], .str [97, 110, 100], .str [111, 114]]) : ∃ e, (∀ B L, F__law_deep_c [.d y, .d o] B L = .ok (.d e) L) ∧ gd 20 9 e = true := by
  refine ⟨val (F__law_deep_c [.d y, .d o] [] []), ?_⟩
  rcases mem3 hy with rfl | rfl | rfl <;> rcases mem3 ho with rfl | rfl | rfl <;> exact ⟨fun B L => rfl, by decide +kernel⟩
theorem deepI_ok {y : D} (hy : y ∈ [D.int 2, .int 3, .int 4]) : ∃ e, (∀ B L, F__law_deep_ifs [.d y] B L = .ok (.d e) L) ∧ gd 20 12 e = true := by
  refine ⟨val (F__law_deep_ifs [.d y] [] []), ?_⟩
  rcases mem3 hy with rfl | rfl | rfl <;> exact ⟨fun B L => rfl, by decide +kernel⟩
theorem name_ok {y : D} (hy : y ∈ [D.int 1, .int 5, .int 6, .int 7]) : ∃ s, opMul (.str [97]) y = some (.str s) ∧ okS s = true := by
  rcases mem4 hy with rfl | rfl | rfl | rfl <;> exact ⟨_, rfl, by decide +kernel⟩
theorem fails_ok {y : D} (hy : y ∈ [D.int 11, .int 12, .int 13]) : ∃ t, opMul (.tup [.tup [.str sFail]]) y = some (.tup t) ∧ gd 20 12 (.tup t) = true := by
  rcases mem3 hy with rfl | rfl | rfl <;> exact ⟨_, rfl, by decide +kernel⟩
theorem half_ok {y : D} (hy : y ∈ [D.int 5, .int 6]) : ∃ t, opMul (.tup [.tup [.str sSet, .str [97], .tup [.str sBody]]]) y = some (.tup t) ∧ gd 20 9 (.tup t) = true := by
  rcases mem2 hy with rfl | rfl <;> exact ⟨_, rfl, by decide +kernel⟩
theorem some_ok {q : Int} (h0 : 0 ≤ q) (h1 : q < 3) : ∃ t, opMul (.tup [.tup [.str sFail]]) (.int q) = some (.tup t) ∧ t.length ≤ 2 ∧ ∀ x ∈ t, gd 20 11 x = true := by
  have : q = 0 ∨ q = 1 ∨ q = 2 := by omega
  rcases this with rfl | rfl | rfl <;> exact ⟨_, rfl, by decide +kernel⟩
theorem nums_gd : ∀ y ∈ [D.int 99, .int 100, .int (-99), .int (-100), .bl true, .non], ∀ d, gd 20 d y = true := by
  intro y hy d
  rcases List.mem_cons.mp hy with rfl | hy
  · exact gd_int
  rcases List.mem_cons.mp hy with rfl | hy
  · exact gd_int
  rcases mem4 hy with rfl | rfl | rfl | rfl
  · exact gd_int
  · exact gd_int
  · cases d <;> rfl
  · exact gd_non
theorem limits_ok {N : Int} {L : Hs} (h : Pn N L) (hN : N ≤ 1099511600000) :
    ∃ (y : D) (L' : Hs), F__law_at_limits [.ref 0] [] L = .ok (.d y) L' ∧ Pn (N + 20) L' ∧ Fr L L' ∧ gd 20 12 y = true := by
  have lp := h.len
  obtain ⟨y1, L1, E1, t1, f1, m1⟩ := pick_ok h (by omega) (xs := [.int 5, .int 6, .int 7]) (by decide) (by decide)
  obtain ⟨y2, L2, E2, t2, f2, m2⟩ := pick_ok t1 (by omega) (xs := [.str [43], .str [45], .str [42]]) (by decide) (by decide)
  obtain ⟨y3, L3, E3, t3, f3, m3⟩ := pick_ok t2 (by omega) (xs := [.int 5, .int 6, .int 7]) (by decide) (by decide)
  obtain ⟨y4, L4, E4, t4, f4, m4⟩ := pick_ok t3 (by omega) (xs := [.str [110, 111, 116], .str [97, 110, 100], .str [111, 114]]) (by decide) (by decide)
  obtain ⟨y5, L5, E5, t5, f5, m5⟩ := pick_ok t4 (by omega) (xs := [.int 1, .int 5, .int 6, .int 7]) (by decide) (by decide)
  have g5 : Fr L L5 := (((f1.trans f2).trans f3).trans f4).trans f5
  obtain ⟨e, he, ge⟩ := deepE_ok m1 m2
  obtain ⟨c, hc, gc⟩ := deepC_ok m3 m4
  obtain ⟨nm, hn, gn⟩ := name_ok m5
  have hxs0 : ∃ xs0 : List D, xs0 = [.tup [.tup [.str sSet, .str nm, e]], .tup [.tup [.str sSend, .str nm, .non, e]], .tup [.tup [.str sSend, .str [97], .str nm, .tup [.str sVal, .int 0]]]] := ⟨_, rfl⟩
  obtain ⟨xs0, hx0⟩ := hxs0
  have hxs1 : ∃ xs1 : List D, xs1 = [.tup [.tup [.str sIfS, c, .tup [], .tup []]], .tup [.tup [.str sIfS, .tup [.str [60], e, .tup [.str sBody]], .tup [.tup [.str sFail]], .tup []]]] := ⟨_, rfl⟩
  obtain ⟨xs1, hx1⟩ := hxs1
  have l01 : xs0.length = 3 ∧ xs1.length = 2 := by rw [hx0, hx1]; exact ⟨rfl, rfl⟩
  have g0 : ∀ x ∈ xs0, gd 20 12 x = true := by
    rw [hx0]
    intro x hx
    rcases mem3 hx with rfl | rfl | rfl
    · exact gd1 (by decide) (gd3 (by decide) (gd_str rfl) (gd_str gn) (gd_mono (Nat.le_refl _) 8 10 _ (by decide) ge))
    · exact gd1 (by decide) (gd4 (by decide) (gd_str rfl) (gd_str gn) gd_non (gd_mono (Nat.le_refl _) 8 10 _ (by decide) ge))
    · exact gd1 (by decide) (gd4 (by decide) (gd_str rfl) (gd_str rfl) (gd_str gn) (gd2 (by decide) (gd_str rfl) gd_int))
  have g1 : ∀ x ∈ xs1, gd 20 12 x = true := by
    rw [hx1]
    intro x hx
    rcases mem2 hx with rfl | rfl
    · exact gd1 (by decide) (gd4 (by decide) (gd_str rfl) (gd_mono (Nat.le_refl _) 9 10 _ (by decide) gc) rfl rfl)
    · exact gd1 (by decide) (gd4 (by decide) (gd_str rfl) (gd3 (by decide) (gd_str rfl) (gd_mono (Nat.le_refl _) 8 9 _ (by decide) ge) rfl) rfl rfl)
  -- the first list
  have t6 := t5.add (Ob.lst (xs0.map .d))
  have f6 : Fr L5 (L5 ++ [Ob.lst (xs0.map .d)]) := Fr.add _
  have a6 : (L5 ++ [Ob.lst (xs0.map .d)])[0 + L5.length]? = some (.lst (xs0.map .d)) := last_at
  generalize hL6 : (L5 ++ [Ob.lst (xs0.map .d)]) = L6 at *
  have t7 := t6.add (Ob.lst ((xs0 ++ xs1).map .d))
  have f7 : Fr L6 (L6 ++ [Ob.lst ((xs0 ++ xs1).map .d)]) := Fr.add _
  have a7 : (L6 ++ [Ob.lst ((xs0 ++ xs1).map .d)])[0 + L6.length]? = some (.lst ((xs0 ++ xs1).map .d)) := last_at
  generalize hL7 : (L6 ++ [Ob.lst ((xs0 ++ xs1).map .d)]) = L7 at *
  obtain ⟨y8, L8, E8, t8, f8, m8⟩ := pick_ok t7 (by omega) (xs := [.int 2, .int 3, .int 4]) (by decide) (by decide)
  obtain ⟨y9, L9, E9, t9, f9, m9⟩ := pick_ok t8 (by omega) (xs := [.int 11, .int 12, .int 13]) (by decide) (by decide)
  obtain ⟨ifs, hi, gi⟩ := deepI_ok m8
  obtain ⟨fs, hf, gf⟩ := fails_ok m9
  have k5 := g5.1
  have k6 := f6.1
  have k7 := f7.1
  have a9 : L9[0 + L6.length]? = some (.lst ((xs0 ++ xs1).map .d)) := (f8.trans f9).at (by omega) a7
  have hxs2 : ∃ xs2 : List D, xs2 = (xs0 ++ xs1) ++ [ifs, .tup fs] := ⟨_, rfl⟩
  obtain ⟨xs2, hx2⟩ := hxs2
  have l2 : xs2.length = 7 := by rw [hx2, List.length_append, List.length_append, l01.1, l01.2]; rfl
  have g2 : ∀ x ∈ xs2, gd 20 12 x = true := by
    rw [hx2]
    intro x hx
    rcases List.mem_append.mp hx with hx | hx
    · rcases List.mem_append.mp hx with hx | hx
      · exact g0 x hx
      · exact g1 x hx
    · rcases mem2 hx with rfl | rfl
      · exact gi
      · exact gf
  have t10 := t9.add (Ob.lst (xs2.map .d))
  have f10 : Fr L9 (L9 ++ [Ob.lst (xs2.map .d)]) := Fr.add _
  have a10 : (L9 ++ [Ob.lst (xs2.map .d)])[0 + L9.length]? = some (.lst (xs2.map .d)) := last_at
  generalize hL10 : (L9 ++ [Ob.lst (xs2.map .d)]) = L10 at *
  have g9 : Fr L L9 := (((g5.trans f6).trans f7).trans f8).trans f9
  have k9 := g9.1
  obtain ⟨y11, L11, E11, t11, f11, m11⟩ := pick_ok t10 (by omega) (xs := [.int 5, .int 6]) (by decide) (by decide)
  obtain ⟨hf1, hh, gh⟩ := half_ok m11
  obtain ⟨q, L12, E12, t12, f12, q0, q1⟩ := draw_ok t11 (by omega) (m := 3) (by decide) (by decide +kernel)
  obtain ⟨ff, hff, lff, gff⟩ := some_ok q0 q1
  have a11 : L11[0 + L9.length]? = some (.lst (xs2.map .d)) := f11.at (by omega) a10
  have a12 : L12[0 + L9.length]? = some (.lst (xs2.map .d)) := f12.at (by omega) a11
  have hx3 : ∃ x3 : D, x3 = .tup ([.tup [.str sIfS, c, .tup hf1, .tup hf1]] ++ ff) := ⟨_, rfl⟩
  obtain ⟨x3, hx3⟩ := hx3
  have gx3 : gd 20 12 x3 = true := by
    rw [hx3]
    refine gd_tup.mpr ⟨?_, fun x hx => ?_⟩
    · rw [List.length_append]
      show 1 + _ ≤ 20
      omega
    · rcases List.mem_append.mp hx with hx | hx
      · rcases List.mem_cons.mp hx with rfl | hx
        · exact gd4 (by decide) (gd_str rfl) (gd_mono (Nat.le_refl _) 9 10 _ (by decide) gc) (gd_mono (Nat.le_refl _) 9 10 _ (by decide) gh) (gd_mono (Nat.le_refl _) 9 10 _ (by decide) gh)
        · cases hx
      · exact gff x hx
  have t13 : Pn (N + 1 + 1 + 1 + 1 + 1 + 1 + 1 + 1 + 1) (L12.set (0 + L9.length) (.lst ((xs2 ++ [x3]).map .d))) := t12.set (by omega)
  have a13 : (L12.set (0 + L9.length) (.lst ((xs2 ++ [x3]).map .d)))[0 + L9.length]? = some (.lst ((xs2 ++ [x3]).map .d)) := at_set a12
  have g12 : Fr L L12 := ((g9.trans f10).trans f11).trans f12
  have g13 : Fr L (L12.set (0 + L9.length) (.lst ((xs2 ++ [x3]).map .d))) := g12.setU (by omega)
  generalize hL13 : (L12.set (0 + L9.length) (.lst ((xs2 ++ [x3]).map .d))) = L13 at *
  obtain ⟨z, L14, E14, t14, f14, m14⟩ := pick_ok t13 (by omega) (xs := [.int 99, .int 100, .int (-99), .int (-100), .bl true, .non]) (by decide) (by decide)
  have a14 : L14[0 + L9.length]? = some (.lst ((xs2 ++ [x3]).map .d)) := f14.at (by omega) a13
  have hx4 : ∃ x4 : D, x4 = .tup [.tup [.str sSet, .str [97], .tup [.str sVal, z]]] := ⟨_, rfl⟩
  obtain ⟨x4, hx4⟩ := hx4
  have gx4 : gd 20 12 x4 = true := by
    rw [hx4]
    exact gd1 (by decide) (gd3 (by decide) (gd_str rfl) (gd_str rfl) (gd2 (by decide) (gd_str rfl) (nums_gd z m14 _)))
  have t15 : Pn (N + 1 + 1 + 1 + 1 + 1 + 1 + 1 + 1 + 1 + 1) (L14.set (0 + L9.length) (.lst (((xs2 ++ [x3]) ++ [x4]).map .d))) := t14.set (by omega)
  have a15 : (L14.set (0 + L9.length) (.lst (((xs2 ++ [x3]) ++ [x4]).map .d)))[0 + L9.length]? = some (.lst (((xs2 ++ [x3]) ++ [x4]).map .d)) := at_set a14
  have g15 : Fr L (L14.set (0 + L9.length) (.lst (((xs2 ++ [x3]) ++ [x4]).map .d))) := (g13.trans f14).setU (by omega)
  generalize hL15 : (L14.set (0 + L9.length) (.lst (((xs2 ++ [x3]) ++ [x4]).map .d))) = L15 at *
  have l4 : ((xs2 ++ [x3]) ++ [x4]).length = 9 := by rw [List.length_append, List.length_append, l2]; rfl
  obtain ⟨y, L16, E16, t16, f16, m16⟩ := pickW (w := .ref (0 + L9.length)) (xs := (xs2 ++ [x3]) ++ [x4]) t15 (by omega) (fun L' f => v_lst (f.at (by omega) a15)) (by omega) (by omega)
  refine ⟨y, L16, ?_, t16.mono (by omega), g15.trans f16, ?_⟩
  · unfold F__law_at_limits
    refine x_fn (r1 := .ret (.d y) L16) rfl ?_ rfl
    refine x_seq (x_par (x_cons (x_call (x_cons (x_var rfl) (x_cons (x_lst (x_cons x_c (x_cons x_c (x_cons x_c x_nil))) rfl (by decide)) x_nil)) rfl E1) (x_cons (x_call (x_cons (x_var rfl) (x_cons (x_lst (x_cons x_c (x_cons x_c (x_cons x_c x_nil))) rfl (by decide)) x_nil)) rfl E2) x_nil))) (x_thenN ?_)
    refine x_seq (x_par (x_cons (x_call (x_cons (x_var rfl) (x_cons (x_var rfl) x_nil)) rfl (he [] L2)) (x_cons (x_call (x_cons (x_call (x_cons (x_var rfl) (x_cons (x_lst (x_cons x_c (x_cons x_c (x_cons x_c x_nil))) rfl (by decide)) x_nil)) rfl E3) (x_cons (x_call (x_cons (x_var rfl) (x_cons (x_lst (x_cons x_c (x_cons x_c (x_cons x_c x_nil))) rfl (by decide)) x_nil)) rfl E4) x_nil)) rfl (hc [] L4)) x_nil))) (x_thenN ?_)
    refine x_seq (x_asg (x_2 x_c (x_call (x_cons (x_var rfl) (x_cons (x_lst (x_cons x_c (x_cons x_c (x_cons x_c (x_cons x_c x_nil)))) rfl (by decide)) x_nil)) rfl E5) rfl rfl hn) x_gvar) (x_thenN ?_)
    refine x_seq (x_asg (w := .ref (0 + L5.length)) (L1 := L6) ?A x_gvar) (x_thenN ?_)
    case A =>
      rw [← hL6, hx0]
      exact x_lstM (ws := [.d (.tup [.tup [.str sSet, .str nm, e]]), .d (.tup [.tup [.str sSend, .str nm, .non, e]]), .d (.tup [.tup [.str sSend, .str [97], .str nm, .tup [.str sVal, .int 0]]])]) rfl (Nat.le_of_ble_eq_true rfl)
    refine x_seq (x_asg (w := .ref (0 + L6.length)) (L1 := L7) ?A x_gvar) (x_thenN ?_)
    case A =>
      rw [← hL7]
      exact x_addM (xs := xs0) (ys := xs1) (y := .d (.lst xs1)) (L2 := L6) (x_var rfl) (by rw [hx1]; exact x_lst (xs := [.tup [.tup [.str sIfS, c, .tup [], .tup []]], .tup [.tup [.str sIfS, .tup [.str [60], e, .tup [.str sBody]], .tup [.tup [.str sFail]], .tup []]]]) (ws := [.d (.tup [.tup [.str sIfS, c, .tup [], .tup []]]), .d (.tup [.tup [.str sIfS, .tup [.str [60], e, .tup [.str sBody]], .tup [.tup [.str sFail]], .tup []]])]) (L1 := L6) rfl rfl (Nat.le_of_ble_eq_true rfl)) (v_lst a6) rfl (by rw [l01.1, l01.2]; decide)
    refine x_seq (x_asg (w := .ref (0 + L9.length)) (L1 := L10) ?A x_gvar) (x_thenN ?_)
    case A =>
      rw [← hL10, hx2]
      exact x_addM (xs := xs0 ++ xs1) (ys := [ifs, .tup fs]) (x_var rfl) (x_lst (x_cons (x_call (x_cons (x_call (x_cons (x_var rfl) (x_cons (x_lst (x_cons x_c (x_cons x_c (x_cons x_c x_nil))) rfl (by decide)) x_nil)) rfl E8) x_nil) rfl (hi [] L8)) (x_cons (x_2 (x_tup (x_cons (x_tup (x_cons x_c x_nil) rfl (by decide)) x_nil) rfl (by decide)) (x_call (x_cons (x_var rfl) (x_cons (x_lst (x_cons x_c (x_cons x_c (x_cons x_c x_nil))) rfl (by decide)) x_nil)) rfl E9) rfl rfl hf) x_nil)) rfl (Nat.le_of_ble_eq_true rfl)) (v_lst a9) rfl (by rw [List.length_append, l01.1, l01.2]; exact Nat.le_of_ble_eq_true rfl)
    refine x_seq (x_asg (x_2 (x_tup (x_cons (x_tup (x_cons x_c (x_cons x_c (x_cons (x_tup (x_cons x_c x_nil) rfl (by decide)) x_nil))) rfl (by decide)) x_nil) rfl (by decide)) (x_call (x_cons (x_var rfl) (x_cons (x_lst (x_cons x_c (x_cons x_c x_nil)) rfl (by decide)) x_nil)) rfl E11) rfl rfl hh) x_gvar) (x_thenN ?_)
    refine x_seq (x_expr (x_app (y := .d x3) (L2 := L12) (L3 := L13) (x_var rfl) (by rw [lst_of a11]; rfl) ?A (lst_of a12) (by rw [List.length_map, l2]; decide) (by rw [← hL13, List.map_append]; rfl))) (x_thenN ?_)
    case A =>
      rw [hx3]
      exact x_2 (x_tup (x_cons (x_tup (x_cons x_c (x_cons (x_var rfl) (x_cons (x_var rfl) (x_cons (x_var rfl) x_nil)))) rfl (Nat.le_of_ble_eq_true rfl)) x_nil) rfl (Nat.le_of_ble_eq_true rfl)) (x_2 (x_tup (x_cons (x_tup (x_cons x_c x_nil) rfl (by decide)) x_nil) rfl (by decide)) (x_call (x_cons (x_var rfl) (x_cons x_c x_nil)) rfl E12) rfl rfl hff) rfl rfl (a_tup (by show 1 + ff.length ≤ 16777216; omega))
    refine x_seq (x_expr (x_app (y := .d x4) (L2 := L14) (L3 := L15) (x_var rfl) (by rw [lst_of a13]; rfl) ?A (lst_of a14) (by rw [List.length_map, List.length_append, l2]; exact Nat.le_of_ble_eq_true rfl) (by rw [← hL15, List.map_append (l₂ := [x4])]; rfl))) (x_thenN ?_)
    case A =>
      rw [hx4]
      exact x_tup (x_cons (x_tup (x_cons x_c (x_cons x_c (x_cons (x_tup (x_cons x_c (x_cons (x_call (x_cons (x_var rfl) (x_cons (x_lst (ws := [.d (.int 99), .d (.int 100), .d (.int (-99)), .d (.int (-100)), .d (.bl true), .d .non]) rfl rfl (by decide)) x_nil)) rfl E14) x_nil)) rfl (Nat.le_of_ble_eq_true rfl)) x_nil))) rfl (Nat.le_of_ble_eq_true rfl)) x_nil) rfl (Nat.le_of_ble_eq_true rfl)
    exact x_ret (x_call (x_cons (x_var rfl) (x_cons (x_var rfl) x_nil)) rfl E16)
  · rcases List.mem_append.mp m16 with hx | hx
    · rcases List.mem_append.mp hx with hx | hx
      · exact g2 y hx
      · rcases List.mem_cons.mp hx with rfl | hx
        · exact gx3
        · cases hx
    · rcases List.mem_cons.mp hx with rfl | hx
      · exact gx4
      · cases hx
end K02
end Ev

set_option linter.all false
set_option maxRecDepth 100000
set_option maxHeartbeats 1000000
namespace Ev
namespace K02
theorem cut_mem {α : Type} {xs : List α} {lo hi : Option Int} {x : α} (h : x ∈ cut xs lo hi) : x ∈ xs := List.mem_of_mem_drop (List.mem_of_mem_take h)
theorem cut_len {α : Type} (xs : List α) (lo hi : Option Int) : (cut xs lo hi).length = min (sIx xs.length xs.length hi - sIx xs.length 0 lo) (xs.length - sIx xs.length 0 lo) := by
  unfold cut
  rw [List.length_take, List.length_drop]
theorem sIx_pos {n d : Nat} {a : Int} (h : 0 ≤ a) : sIx n d (some a) = min a.toNat n := by
  unfold sIx
  dsimp only
  rw [if_neg (by omega)]
theorem sIx_none {n d : Nat} : sIx n d none = d := rfl
theorem tIx {zs : List D} {j : Int} (h0 : 0 ≤ j) (h1 : j < (zs.length : Int)) : ∃ y ∈ zs, opIx (.tup zs) (.int j) = some y := ix_at (xs := zs) h0 h1
theorem gdA {l d : Nat} {A C : List D} (hl : A.length + C.length ≤ l) (hA : ∀ x ∈ A, gd l d x = true) (hC : ∀ x ∈ C, gd l d x = true) : gd l (d + 1) (.tup (A ++ C)) = true :=
  gd_tup.mpr ⟨by rw [List.length_append]; exact hl, fun x hx => by
    rcases List.mem_append.mp hx with hx | hx
    · exact hA x hx
    · exact hC x hx⟩
theorem bleaf {l d : Nat} (hl : 4 ≤ l) {v : D} {N : Int} {L : Hs} (hv : gd l d v = true) (h : Pn N L) (hN : N ≤ 1099511627000) {ρ : Sl} (r0 : ρ[0]? = some (some (.ref 0))) (r1 : ρ[1]? = some (some (.d v))) :
    ∃ (y : D) (L' : Hs), (eCall 2 F__law_pick (aCons (eVar 0) (aCons (eLst (aCons (eCall 1 F__law_odd (aCons (eVar 0) (aNil))) (aCons (eTup (aCons (eVar 1) (aNil))) (aCons (eCall 1 F__law_odd (aCons (eVar 0) (aNil))) (aNil))))) (aNil)))) [] ρ L = .ok (.d y) L' ∧ Pn (N + 3) L' ∧ Fr L L' ∧ gd (l + 1) (d + 2) y = true := by
  obtain ⟨o1, L1, E1, t1, f1, m1⟩ := odd_ok h (by omega)
  obtain ⟨o2, L2, E2, t2, f2, m2⟩ := odd_ok t1 (by omega)
  obtain ⟨y, L3, E3, t3, f3, m3⟩ := pick_ok t2 (by omega) (xs := [o1, .tup [v], o2]) (Nat.le_of_ble_eq_true rfl) (Nat.le_of_ble_eq_true rfl)
  refine ⟨y, L3, x_call (x_cons (x_var r0) (x_cons (x_lst (xs := [o1, .tup [v], o2]) (x_cons (x_call (x_cons (x_var r0) x_nil) rfl E1) (x_cons (x_tup (x_cons (x_var r1) x_nil) rfl (Nat.le_of_ble_eq_true rfl)) (x_cons (x_call (x_cons (x_var r0) x_nil) rfl E2) x_nil))) rfl (Nat.le_of_ble_eq_true rfl)) x_nil)) rfl E3, t3.mono (by omega), (f1.trans f2).trans f3, ?_⟩
  rcases mem3 m3 with rfl | rfl | rfl
  · exact gd_mono (by omega) 2 _ _ (by omega) (odd_gd _ m1)
  · exact gd1 (by omega) (gd_mono (by omega) d _ _ (by omega) hv)
  · exact gd_mono (by omega) 2 _ _ (by omega) (odd_gd _ m2)
theorem bent_ok {l : Nat} (hl : 4 ≤ l) (hl2 : l ≤ 900) : ∀ (d n : Nat) (v : D) (N : Int) (L : Hs), d < n → gd l d v = true → Pn N L → N + 4 * ((d : Int) + 1) ≤ 1099511620000 →
    ∃ (v' : D) (L' : Hs), R__law_bent n [.ref 0, .d v] [] L = .ok (.d v') L' ∧ Pn (N + 4 * ((d : Int) + 1)) L' ∧ Fr L L' ∧ gd (l + 1) (d + 2) v' = true := by
  intro d
  induction d with
  | zero =>
    intro n v N L hn hv h hN
    obtain ⟨n, rfl⟩ : ∃ m, n = m + 1 := ⟨n - 1, by omega⟩
    have ht : isTup v = false := by
      cases v with
      | tup xs => cases hv
      | _ => rfl
    obtain ⟨y, L', E, t, f, g⟩ := bleaf hl hv h (by omega) (ρ := [some (.ref 0), some (.d v), none, none]) rfl rfl
    refine ⟨y, L', ?_, t.mono (by omega), f, g⟩
    rw [R__law_bent]
    refine x_fn (r1 := .ret (.d y) L') rfl ?_ rfl
    exact x_seq (x_sif (k := true) (x_tOr (x_tNot (x_tE (x_1 (x_var rfl) rfl (isi_tup (gd_fine (by omega) _ _ hv))) rfl rfl)) (br1 (by rw [ht]; rfl) rfl)) (br1 rfl (x_ret E))) x_thenR
  | succ d ih =>
    intro n v N L hn hv h hN
    obtain ⟨n, rfl⟩ : ∃ m, n = m + 1 := ⟨n - 1, by omega⟩
    have fv := gd_fine (by omega) _ _ hv
    by_cases ht : isTup v = true
    · obtain ⟨zs, rfl⟩ : ∃ zs, v = .tup zs := by
        cases v with
        | tup xs => exact ⟨xs, rfl⟩
        | _ => cases ht
      by_cases hz : zs.length = 0
      · obtain ⟨y, L', E, t, f, g⟩ := bleaf hl hv h (by omega) (ρ := [some (.ref 0), some (.d (.tup zs)), none, none]) rfl rfl
        refine ⟨y, L', ?_, t.mono (by omega), f, g⟩
        rw [R__law_bent]
        refine x_fn (r1 := .ret (.d y) L') rfl ?_ rfl
        exact x_seq (x_sif (k := true) (x_tOr (x_tNot (x_tE (x_1 (x_var rfl) rfl (isi_tup fv)) rfl rfl)) (br0 rfl (x_tOr (x_tE (x_2 (x_B (x_cons (x_var rfl) x_nil) (x_vcons rfl x_vnil) rfl) x_c rfl rfl o_eqI) rfl rfl) (br1 (decide_eq_true (by rw [hz]; rfl)) rfl)))) (br1 rfl (x_ret E))) x_thenR
      · obtain ⟨q, L1, E1, t1, f1, q0, q1⟩ := draw_ok h (by omega) (m := 5) (by decide) (by decide +kernel)
        have T : (tOr (tNot (tE (e1 (bIsi .tuple) (eVar 1)))) (tOr (tE (e2 opEq (eB bLen (aCons (eVar 1) (aNil))) (eC (.int 0)))) (tE (e2 opEq (eCall 2 F__law_draw (aCons (eVar 0) (aCons (eC (.int 5)) (aNil)))) (eC (.int 0)))))) [] [some (.ref 0), some (.d (.tup zs)), none, none] L = .ok (decide (q = 0)) L1 :=
          x_tOr (x_tNot (x_tE (x_1 (x_var rfl) rfl (isi_tup fv)) rfl rfl)) (br0 rfl (x_tOr (x_tE (x_2 (x_B (x_cons (x_var rfl) x_nil) (x_vcons rfl x_vnil) rfl) x_c rfl rfl o_eqI) rfl rfl) (br0 (decide_eq_false (by omega)) (x_tE (x_2 (x_call (x_cons (x_var rfl) (x_cons x_c x_nil)) rfl E1) x_c rfl rfl o_eqI) rfl rfl))))
        by_cases hq : q = 0
        · obtain ⟨y, L', E, t, f, g⟩ := bleaf hl hv t1 (by omega) (ρ := [some (.ref 0), some (.d (.tup zs)), none, none]) rfl rfl
          refine ⟨y, L', ?_, t.mono (by omega), f1.trans f, g⟩
          rw [R__law_bent]
          refine x_fn (r1 := .ret (.d y) L') rfl ?_ rfl
          exact x_seq (x_sif T (br1 (decide_eq_true hq) (x_ret E))) x_thenR
        · have hg := gd_tup.mp hv
          have hlz := hg.1
          obtain ⟨a, L2, E2, t2, f2, a0, a1⟩ := draw_ok t1 (by omega) (m := (zs.length : Int)) (by omega) (log2_small (by omega) (by omega))
          obtain ⟨w, L3, E3, t3, f3, w0, w1⟩ := draw_ok t2 (by omega) (m := 9) (by decide) (by decide +kernel)
          have f := (f1.trans f2).trans f3
          have up : ∀ x ∈ zs, gd (l + 1) (d + 2) x = true := fun x hx => gd_mono (by omega) d _ _ (by omega) (hg.2 x hx)
          have u1 := cut_len zs none (some a)
          have u2 := cut_len zs (some (a + 1)) none
          have u3 := cut_len zs none (some (a + 1))
          have u4 := cut_len zs (some a) none
          have u5 := cut_len zs (some a) (some (a + 2))
          have u6 := cut_len zs (some (a + 2)) none
          rw [sIx_none, sIx_pos (by omega)] at u1 u2 u3 u4 u6
          rw [sIx_pos (by omega), sIx_pos (by omega)] at u5
          have go : ∀ {v' : D} {L' : Hs} {S : SS}, S [] [some (.ref 0), some (.d (.tup zs)), some (.d (.int a)), some (.d (.int w))] L3 = .ret (.d v') L' →
              fnBody 2 4 (sSeq (sIf (tOr (tNot (tE (e1 (bIsi .tuple) (eVar 1)))) (tOr (tE (e2 opEq (eB bLen (aCons (eVar 1) (aNil))) (eC (.int 0)))) (tE (e2 opEq (eCall 2 F__law_draw (aCons (eVar 0) (aCons (eC (.int 5)) (aNil)))) (eC (.int 0)))))) (sRet (eCall 2 F__law_pick (aCons (eVar 0) (aCons (eLst (aCons (eCall 1 F__law_odd (aCons (eVar 0) (aNil))) (aCons (eTup (aCons (eVar 1) (aNil))) (aCons (eCall 1 F__law_odd (aCons (eVar 0) (aNil))) (aNil))))) (aNil))))) (sNil)) (sSeq (sPar 2 3 (aCons (eCall 2 F__law_draw (aCons (eVar 0) (aCons (eB bLen (aCons (eVar 1) (aNil))) (aNil)))) (aCons (eCall 2 F__law_draw (aCons (eVar 0) (aCons (eC (.int 9)) (aNil)))) (aNil)))) S)) [.ref 0, .d (.tup zs)] [] L = .ok (.d v') L' := fun {v' L' S} hS =>
            x_fn (r1 := .ret (.d v') L') rfl (x_seq (x_sif T (br0 (decide_eq_false hq) x_snil)) (x_thenN (x_seq (x_par (x_cons (x_call (x_cons (x_var rfl) (x_cons (x_B (x_cons (x_var rfl) x_nil) (x_vcons rfl x_vnil) rfl) x_nil)) rfl E2) (x_cons (x_call (x_cons (x_var rfl) (x_cons x_c x_nil)) rfl E3) x_nil))) (x_thenN hS)))) rfl
          by_cases w6 : w < 6
          · obtain ⟨y, hy, hi⟩ := tIx a0 a1
            obtain ⟨v', L4, E4, t4, f4, g4⟩ := ih n y _ L3 (by omega) (hg.2 y hy) t3 (by omega)
            refine ⟨.tup ((cut zs none (some a) ++ [v']) ++ cut zs (some (a + 1)) none), L4, ?_, t4.mono (by omega), f.trans f4, ?_⟩
            · rw [R__law_bent]
              refine go ?_
              refine x_seq (x_sif (x_tE (x_2 (x_var rfl) x_c rfl rfl o_lt) rfl rfl) (br1 (decide_eq_true w6) (x_ret (x_2 (x_2 (x_sl (x_var rfl) x_oNone (x_oSome (x_var rfl) rfl rfl) rfl rfl) (x_tup (x_cons (x_call (x_cons (x_var rfl) (x_cons (x_2 (x_var rfl) (x_var rfl) rfl rfl hi) x_nil)) rfl E4) x_nil) rfl (Nat.le_of_ble_eq_true rfl)) rfl rfl (a_tup ?_)) (x_sl (x_var rfl) (x_oSome (x_2 (x_var rfl) x_c rfl rfl o_add) rfl rfl) x_oNone rfl rfl) rfl rfl (a_tup ?_))))) x_thenR
              · show _ + 1 ≤ 16777216
                omega
              · rw [List.length_append]
                show _ + 1 + _ ≤ 16777216
                omega
            · refine gdA ?_ (fun x hx => ?_) (fun x hx => up x (cut_mem hx))
              · rw [List.length_append]
                show _ + 1 + _ ≤ _
                omega
              · rcases List.mem_append.mp hx with hx | hx
                · exact up x (cut_mem hx)
                · rcases List.mem_cons.mp hx with rfl | hx
                  · exact g4
                  · cases hx
          by_cases w7 : w = 6
          · refine ⟨.tup (cut zs none (some a) ++ cut zs (some (a + 1)) none), L3, ?_, t3.mono (by omega), f, gdA (by omega) (fun x hx => up x (cut_mem hx)) (fun x hx => up x (cut_mem hx))⟩
            rw [R__law_bent]
            refine go ?_
            refine x_seq (x_sif (x_tE (x_2 (x_var rfl) x_c rfl rfl o_lt) rfl rfl) (br0 (decide_eq_false w6) x_snil)) (x_thenN ?_)
            exact x_seq (x_sif (x_tE (x_2 (x_var rfl) x_c rfl rfl o_eqI) rfl rfl) (br1 (decide_eq_true w7) (x_ret (x_2 (x_sl (x_var rfl) x_oNone (x_oSome (x_var rfl) rfl rfl) rfl rfl) (x_sl (x_var rfl) (x_oSome (x_2 (x_var rfl) x_c rfl rfl o_add) rfl rfl) x_oNone rfl rfl) rfl rfl (a_tup (by show _ ≤ 16777216; omega)))))) x_thenR
          by_cases w8 : w = 7
          · refine ⟨.tup (cut zs none (some (a + 1)) ++ cut zs (some a) none), L3, ?_, t3.mono (by omega), f, gdA (by omega) (fun x hx => up x (cut_mem hx)) (fun x hx => up x (cut_mem hx))⟩
            rw [R__law_bent]
            refine go ?_
            refine x_seq (x_sif (x_tE (x_2 (x_var rfl) x_c rfl rfl o_lt) rfl rfl) (br0 (decide_eq_false w6) x_snil)) (x_thenN ?_)
            refine x_seq (x_sif (x_tE (x_2 (x_var rfl) x_c rfl rfl o_eqI) rfl rfl) (br0 (decide_eq_false w7) x_snil)) (x_thenN ?_)
            exact x_seq (x_sif (x_tE (x_2 (x_var rfl) x_c rfl rfl o_eqI) rfl rfl) (br1 (decide_eq_true w8) (x_ret (x_2 (x_sl (x_var rfl) x_oNone (x_oSome (x_2 (x_var rfl) x_c rfl rfl o_add) rfl rfl) rfl rfl) (x_sl (x_var rfl) (x_oSome (x_var rfl) rfl rfl) x_oNone rfl rfl) rfl rfl (a_tup (by show _ ≤ 16777216; omega)))))) x_thenR
          · have rl : (cut zs (some a) (some (a + 2))).reverse.length = (cut zs (some a) (some (a + 2))).length := List.length_reverse
            refine ⟨.tup ((cut zs none (some a) ++ (cut zs (some a) (some (a + 2))).reverse) ++ cut zs (some (a + 2)) none), L3, ?_, t3.mono (by omega), f, gdA ?_ (fun x hx => ?_) (fun x hx => up x (cut_mem hx))⟩
            · rw [R__law_bent]
              refine go ?_
              refine x_seq (x_sif (x_tE (x_2 (x_var rfl) x_c rfl rfl o_lt) rfl rfl) (br0 (decide_eq_false w6) x_snil)) (x_thenN ?_)
              refine x_seq (x_sif (x_tE (x_2 (x_var rfl) x_c rfl rfl o_eqI) rfl rfl) (br0 (decide_eq_false w7) x_snil)) (x_thenN ?_)
              refine x_seq (x_sif (x_tE (x_2 (x_var rfl) x_c rfl rfl o_eqI) rfl rfl) (br0 (decide_eq_false w8) x_snil)) (x_thenN ?_)
              refine x_ret (x_2 (x_2 (x_sl (x_var rfl) x_oNone (x_oSome (x_var rfl) rfl rfl) rfl rfl) (x_1 (x_sl (x_var rfl) (x_oSome (x_var rfl) rfl rfl) (x_oSome (x_2 (x_var rfl) x_c rfl rfl o_add) rfl rfl) rfl rfl) rfl rfl) rfl rfl (a_tup ?_)) (x_sl (x_var rfl) (x_oSome (x_2 (x_var rfl) x_c rfl rfl o_add) rfl rfl) x_oNone rfl rfl) rfl rfl (a_tup ?_))
              · rw [rl]
                show _ ≤ 16777216
                omega
              · rw [List.length_append, rl]
                show _ ≤ 16777216
                omega
            · rw [List.length_append, rl]
              omega
            · rcases List.mem_append.mp hx with hx | hx
              · exact up x (cut_mem hx)
              · exact up x (cut_mem (List.mem_reverse.mp hx))
    · have ht : isTup v = false := by
        cases e : isTup v
        · rfl
        · exact absurd e ht
      obtain ⟨y, L', E, t, f, g⟩ := bleaf hl hv h (by omega) (ρ := [some (.ref 0), some (.d v), none, none]) rfl rfl
      refine ⟨y, L', ?_, t.mono (by omega), f, g⟩
      rw [R__law_bent]
      refine x_fn (r1 := .ret (.d y) L') rfl ?_ rfl
      exact x_seq (x_sif (k := true) (x_tOr (x_tNot (x_tE (x_1 (x_var rfl) rfl (isi_tup fv)) rfl rfl)) (br1 (by rw [ht]; rfl) rfl)) (br1 rfl (x_ret E))) x_thenR
end K02
end Ev

set_option linter.all false
set_option maxRecDepth 100000
set_option maxHeartbeats 1000000
namespace Ev
namespace K02
def lawI : SS := (sSeq (sAsg (eCall 2 F__law_bent (aCons (eVar 1) (aCons (eCall 2 F__law_pick (aCons (eVar 1) (aCons (eLst (aCons (eVar 3) (aCons (eVar 3) (aCons (eCall 1 F__law_at_limits (aCons (eVar 1) (aNil))) (aNil))))) (aNil)))) (aNil)))) (gVar 7))
  (sAsg (e2 opAdd (eVar 4) (eLst (aCons (eVar 7) (aCons (eCall 2 F__law_bent (aCons (eVar 1) (aCons (eVar 7) (aNil)))) (aNil))))) (gVar 4)))
def lawC : SS := (sIf (tE (e2 opNe (eB bRepr (aCons (eCall 1 F_is_handler (aCons (eVar 6) (aNil))) (aNil))) (eB bRepr (aCons (eCall 1 F__law_is_handler (aCons (eVar 6) (aNil))) (aNil))))) (sRet (eC (.bl false))) (sNil))
def lawT : SS := (sSeq (sAsg (eCall 5 F__law_handler (aCons (eVar 1) (aCons (eCall 2 F__law_words (aCons (eVar 1) (aCons (eC (.int 2)) (aNil)))) (aCons (eCall 2 F__law_words (aCons (eVar 1) (aCons (eC (.int 2)) (aNil)))) (aCons (eCall 2 F__law_words (aCons (eVar 1) (aCons (eC (.int 2)) (aNil)))) (aCons (eC (.int 12)) (aNil))))))) (gVar 3))
  (sSeq (sAsg (eLst (aCons (eVar 3) (aCons (eCall 1 F__law_odd (aCons (eVar 1) (aNil))) (aCons (eCall 1 F__law_at_limits (aCons (eVar 1) (aNil))) (aCons (eB bList (aCons (eVar 3) (aNil))) (aNil)))))) (gVar 4))
  (sSeq (sFor (iRange (eC (.int 6))) (gVar 5) lawI)
  (sFor (iE (eVar 4)) (gVar 6) lawC))))
/-- a bend of the whole -/
theorem Bent_ok {l d : Nat} (hl : 4 ≤ l) (hl2 : l ≤ 900) (hd : d < 40) {v : D} {N : Int} {L : Hs} (hv : gd l d v = true) (h : Pn N L) (hN : N ≤ 1099511610000) :
    ∃ (v' : D) (L' : Hs), F__law_bent [.ref 0, .d v] [] L = .ok (.d v') L' ∧ Pn (N + 160) L' ∧ Fr L L' ∧ gd (l + 1) (d + 2) v' = true := by
  obtain ⟨v', L', E, t, f, g⟩ := bent_ok hl hl2 d 40 v N L hd hv h (by omega)
  exact ⟨v', L', E, t.mono (by omega), f, g⟩
theorem inner_ok {hn : D} (hh : gd 20 20 hn = true) {sc o2 o6 : Option W} : ∀ (xs : List D) (N : Int) (L : Hs) (ts : List D) (o5 o7 : Option W), Pn N L → N + 400 * xs.length ≤ 1099511600000 → (∀ t ∈ ts, fine t = true) → ts.length + 2 * xs.length ≤ 1000 →
    ∃ (L' : Hs) (ts' : List D) (o5' o7' : Option W), forGo (gVar 5) lawI [] xs [sc, some (.ref 0), o2, some (.d hn), some (.d (.lst ts)), o5, o6, o7] L = .next [sc, some (.ref 0), o2, some (.d hn), some (.d (.lst ts')), o5', o6, o7'] L' ∧ Pn (N + 400 * xs.length) L' ∧ (∀ t ∈ ts', fine t = true)
  | [], N, L, ts, o5, o7, hp, hN, ht, hl => ⟨L, ts, o5, o7, rfl, hp.mono (by show N ≤ N + 400 * ((0 : Nat) : Int); omega), ht⟩
  | x :: xs, N, L, ts, o5, o7, hp, hN, ht, hl => by
    rw [List.length_cons] at hN hl ⊢
    obtain ⟨li, L1, E1, t1, f1, g1⟩ := limits_ok hp (by omega)
    obtain ⟨y, L2, E2, t2, f2, m2⟩ := pick_ok t1 (by omega) (xs := [hn, hn, li]) (Nat.le_of_ble_eq_true rfl) (Nat.le_of_ble_eq_true rfl)
    have gy : gd 20 20 y = true := by
      rcases mem3 m2 with rfl | rfl | rfl
      · exact hh
      · exact hh
      · exact gd_mono (Nat.le_refl _) 12 20 _ (by decide) g1
    obtain ⟨b1, L3, E3, t3, f3, g3⟩ := Bent_ok (by decide) (by decide) (by decide) gy t2 (by omega)
    obtain ⟨b2, L4, E4, t4, f4, g4⟩ := Bent_ok (by decide) (by decide) (by decide) g3 t3 (by omega)
    obtain ⟨L5, ts', o5', o7', E5, t5, h5⟩ := inner_ok hh (sc := sc) (o2 := o2) (o6 := o6) xs (N + 400) L4 (ts ++ [b1, b2]) (some (.d x)) (some (.d b1)) (t4.mono (by omega)) (by omega) (fun t h => by
      rcases List.mem_append.mp h with h | h
      · exact ht t h
      · rcases mem2 h with rfl | rfl
        · exact gd_fine (by decide) _ _ g3
        · exact gd_fine (by decide) _ _ g4) (by rw [List.length_append]; show _ + 2 + _ ≤ _; omega)
    refine ⟨L5, ts', o5', o7', x_forcons x_gvar ?_ (x_turnN E5), t5.mono (by omega), h5⟩
    unfold lawI
    refine x_seq (x_asg (x_call (x_cons (x_var rfl) (x_cons (x_call (x_cons (x_var rfl) (x_cons (x_lst (xs := [hn, hn, li]) (x_cons (x_var rfl) (x_cons (x_var rfl) (x_cons (x_call (x_cons (x_var rfl) x_nil) rfl E1) x_nil))) rfl (Nat.le_of_ble_eq_true rfl)) x_nil)) rfl E2) x_nil)) rfl E3) x_gvar) (x_thenN ?_)
    refine x_asg (x_2 (x_var rfl) (x_lst (xs := [b1, b2]) (x_cons (x_var rfl) (x_cons (x_call (x_cons (x_var rfl) (x_cons (x_var rfl) x_nil)) rfl E4) x_nil)) rfl (Nat.le_of_ble_eq_true rfl)) rfl rfl (a_lst ?_)) x_gvar
    show _ + 2 ≤ 16777216
    omega
theorem ne_s {s : List Nat} : opNe (.str s) (.str s) = some (.bl false) := by
  show some (D.bl (!decide (s = s))) = _
  rw [decide_eq_true rfl]
  rfl
theorem cmp_ok {L : Hs} {sc o1 o2 o3 o4 o5 o7 : Option W} : ∀ (ts : List D) (o6 : Option W), (∀ t ∈ ts, fine t = true) → ∃ o6' : Option W, forGo (gVar 6) lawC [] ts [sc, o1, o2, o3, o4, o5, o6, o7] L = .next [sc, o1, o2, o3, o4, o5, o6', o7] L
  | [], o6, _ => ⟨o6, rfl⟩
  | t :: ts, o6, h => by
    obtain ⟨o6', E⟩ := cmp_ok ts (some (.d t)) fun x hx => h x (List.mem_cons_of_mem _ hx)
    refine ⟨o6', x_forcons x_gvar ?_ (x_turnN E)⟩
    have ft := h t (List.mem_cons_self ..)
    unfold lawC
    exact x_sif (k := false) (x_tE (x_2 (x_B (x_cons (x_call (x_cons (x_var rfl) x_nil) rfl (handler_ok t ft [] L)) x_nil) (x_vcons rfl x_vnil) rfl) (x_B (x_cons (x_call (x_cons (x_var rfl) x_nil) rfl (lhandler_ok t ft [] L)) x_nil) (x_vcons rfl x_vnil) rfl) rfl rfl ne_s) rfl rfl) (br0 rfl x_snil)
def Sh (sc : Option W) (ρ : Sl) : Prop := ∃ o2 o3 o4 o5 o6 o7 : Option W, ρ = [sc, some (.ref 0), o2, o3, o4, o5, o6, o7]
theorem turn_ok {N : Int} {L : Hs} (h : Pn N L) (hN : N ≤ 1099500000000) (sc o2 o3 o4 o5 o6 o7 : Option W) :
    ∃ (ρ' : Sl) (L' : Hs), lawT [] [sc, some (.ref 0), o2, o3, o4, o5, o6, o7] L = .next ρ' L' ∧ Sh sc ρ' ∧ Pn (N + 600000) L' := by
  obtain ⟨w1, L1, E1, t1, f1, l1, k1⟩ := words_ok h (by omega) 2 (by decide)
  obtain ⟨w2, L2, E2, t2, f2, l2, k2⟩ := words_ok t1 (by omega) 2 (by decide)
  obtain ⟨w3, L3, E3, t3, f3, l3, k3⟩ := words_ok t2 (by omega) 2 (by decide)
  obtain ⟨xs, L4, E4, t4, f4, g4⟩ := handler_gd t3 (by omega) l1 l2 l3 k1 k2 k3 12
  obtain ⟨od, L5, E5, t5, f5, m5⟩ := odd_ok t4 (by omega)
  obtain ⟨li, L6, E6, t6, f6, g6⟩ := limits_ok t5 (by omega)
  have lr : ((List.range (6 : Int).toNat).map fun (i : Nat) => D.int i).length = 6 := rfl
  obtain ⟨L7, ts, o5', o7', E7, t7, k7⟩ := inner_ok g4 (sc := sc) (o2 := o2) (o6 := o6) ((List.range (6 : Int).toNat).map fun (i : Nat) => D.int i) _ L6 [.tup xs, od, li, .lst xs] o5 o7 t6 (by rw [lr]; omega) (fun t ht => by
    rcases mem4 ht with rfl | rfl | rfl | rfl
    · exact gd_fine (by decide) _ _ g4
    · exact gd_fine (by decide) _ _ (odd_gd _ m5)
    · exact gd_fine (by decide) _ _ g6
    · rfl) (by rw [lr]; exact Nat.le_of_ble_eq_true rfl)
  rw [lr] at t7
  obtain ⟨o6', E8⟩ := cmp_ok (L := L7) (sc := sc) (o1 := some (.ref 0)) (o2 := o2) (o3 := some (.d (.tup xs))) (o4 := some (.d (.lst ts))) (o5 := o5') (o7 := o7') ts o6 k7
  refine ⟨[sc, some (.ref 0), o2, some (.d (.tup xs)), some (.d (.lst ts)), o5', o6', o7'], L7, ?_, ⟨_, _, _, _, _, _, rfl⟩, t7.mono (by omega)⟩
  unfold lawT
  refine x_seq (x_asg (x_call (x_cons (x_var rfl) (x_cons (x_call (x_cons (x_var rfl) (x_cons x_c x_nil)) rfl E1) (x_cons (x_call (x_cons (x_var rfl) (x_cons x_c x_nil)) rfl E2) (x_cons (x_call (x_cons (x_var rfl) (x_cons x_c x_nil)) rfl E3) (x_cons x_c x_nil))))) rfl E4) x_gvar) (x_thenN ?_)
  refine x_seq (x_asg (x_lst (xs := [.tup xs, od, li, .lst xs]) (x_cons (x_var rfl) (x_cons (x_call (x_cons (x_var rfl) x_nil) rfl E5) (x_cons (x_call (x_cons (x_var rfl) x_nil) rfl E6) (x_cons (x_B (x_cons (x_var rfl) x_nil) (x_vcons rfl x_vnil) rfl) x_nil)))) rfl (Nat.le_of_ble_eq_true rfl)) x_gvar) (x_thenN ?_)
  refine x_seq (x_for (x_iRange x_c rfl rfl (by decide)) E7) (x_thenN ?_)
  exact x_for (x_iE (x_var rfl) rfl rfl) E8
theorem loop_ok (sc : Option W) : ∀ (xs : List D) (ρ : Sl) (L : Hs) (N : Int), Sh sc ρ → Pn N L → N + 600000 * xs.length ≤ 1099500000000 → ∃ (ρ' : Sl) (L' : Hs), forGo (gVar 2) lawT [] xs ρ L = .next ρ' L'
  | [], ρ, L, N, _, _, _ => ⟨ρ, L, rfl⟩
  | x :: xs, ρ, L, N, hs, ht, hN => by
    obtain ⟨o2, o3, o4, o5, o6, o7, rfl⟩ := hs
    rw [List.length_cons] at hN
    obtain ⟨ρ1, L1, e1, s1, t1⟩ := turn_ok ht (by omega) sc (some (.d x)) o3 o4 o5 o6 o7
    obtain ⟨ρ2, L2, e2⟩ := loop_ok sc xs ρ1 L1 (N + 600000) s1 t1 (by omega)
    exact ⟨ρ2, L2, x_forcons x_gvar e1 e2⟩
theorem law_true (ns : List Int) (hl : ns.length ≤ 63) : ∃ L, F_law [.d (.scr (ns.map D.int))] [] [] = .ok (.d (.bl true)) L := by
  have hcs : ∀ d ∈ cut (ns.map D.int) none (some 63), ∃ i, d = D.int i := fun d hd => by
    obtain ⟨i, _, rfl⟩ := List.mem_map.mp (cut_mem hd)
    exact ⟨i, rfl⟩
  have ht : F__law_pen [.d (.scr (ns.map D.int))] [] [] = .ok (.ref 0) [pen (cut (ns.map D.int) none (some 63)) 0 0] := rfl
  obtain ⟨ρ', L', e⟩ := loop_ok (some (.d (.scr (ns.map D.int)))) ((List.range (14 : Int).toNat).map fun (i : Nat) => D.int i) [some (.d (.scr (ns.map D.int))), some (.ref 0), none, none, none, none, none, none] [pen (cut (ns.map D.int) none (some 63)) 0 0] 0 ⟨_, _, _, _, _, _, rfl⟩ ⟨_, 0, 0, [], rfl, hcs, by omega, by omega⟩ (by rw [List.length_map, List.length_range]; decide)
  refine ⟨L', ?_⟩
  unfold F_law
  refine x_fn (r1 := .ret (.d (.bl true)) L') rfl ?_ rfl
  refine x_seq (x_asg (x_call (x_cons (x_var rfl) x_nil) rfl ht) x_gvar) (x_thenN ?_)
  refine x_seq (x_for (x_iRange x_c rfl rfl (by decide)) e) (x_thenN ?_)
  exact x_ret (x_2 (x_call (x_cons (x_tup x_nil rfl (Nat.zero_le _)) x_nil) rfl (handler_ok (.tup []) rfl [] L')) x_c rfl rfl rfl)
end K02
end Ev

set_option Elab.async false
set_option linter.all false
set_option maxRecDepth 100000
set_option maxHeartbeats 4000000
open PySem PySem.W PySem.Calls PyProof.Rows
theorem PySem.Challenge.cw_oncepost_k02_what_is_a_handler_holds : PySem.Challenge.rw_oncepost_k02_what_is_a_handler.Holds := by
  w_on; o_law
  refine HandSHeadRun.head_any (r := OpenLaw.row PySem.Challenge.rw_oncepost_k02_what_is_a_handler) (q := view (OpenLaw.row PySem.Challenge.rw_oncepost_k02_what_is_a_handler).prog [48]) (H := Ev.K02.hk) (ob := Ev.K02.ob) (M := 4000) (loose := Ev.K02.names) (d := HandSHeadRun.topDef (OpenLaw.row PySem.Challenge.rw_oncepost_k02_what_is_a_handler).prog 48) (kwd := []) Ev.K02.ob_eq
    (by kernel_rfl) (fun s => by kernel_rfl) Ev.K02.run (by kernel_rfl) (by kernel_rfl) (by kernel_rfl) (by rfl) (by first | assumption | decide +kernel) (by decide +kernel) ⟨rfl, rfl, rfl, rfl, rfl, by decide +kernel⟩ ?hw ?hc
  case hw => w_witness2
  case hc =>
    refine Ev.walkG (l := PySem.Challenge.rw_oncepost_k02_what_is_a_handler) (n := 63) (k := 45) (x := "_law_script") (CX := L2.CX0) rfl (by decide) (by kernel_rfl) ⟨rfl, by decide, by decide⟩ ?F (fun _ _ _ _ z => z)
    intro w mg fa h Y G hmg0
    obtain ⟨K, I, c⟩ := Y
    obtain ⟨fd, W⟩ := Ev.K02.facts (T := ⟨fun _ => 0, fun _ => 0, _, w⟩) rfl rfl I G c
    have hmg : mg ("law" : PySem.Str) = some (.ref fa) := by
      have e : (HandSHeadRun.topDef (OpenLaw.row PySem.Challenge.rw_oncepost_k02_what_is_a_handler).prog 48).name = ("law" : PySem.Str) := by kernel_rfl
      rw [← e]
      exact hmg0
    have e := hmg.symm.trans W.g_law
    cases e
    have b := L2.FunD.bindsA (ps := ["_law_script"]) W.f_law fun _ _ _ _ _ _ us hl => match us, hl with | [_], _ => rfl
    exact ⟨K, fd 36, _, I, fun s v => b s [v] rfl, fun H a ns hl hO hS => Ev.law_start hO hS (Ev.K02.law_true ns hl), fun base _ _ => Ev.K02.ok_law W⟩

