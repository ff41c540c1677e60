import PyProof.Rows.All
import Wide.All
import OpenK.AllK
import Wide.FinOn
import HandS.ForMost
import HandS.Flow
import HandS.Walk
import HandS.TupAny
import HandS.Star
import HandS.Deep
import HandS.IsInst
import HandS.Wide
import KE.KeyNested
import HandS.Defaults
import HandS.HeadEnd
import HandS.TupMul
import HandS.Style
import PyProof.StrOps2
import PyProof.CallFns
import HandS.TupLe
import HandS.ClsMeth
import HandS.ListItems
import PyProof.ReprRoads
import HandS.Small
import HandS.Codes
import HandS.Call
import HandS.Zip
import HandS.SortOrd
import HandS.SortRule
import KE.KDictCopyH
import KE.KDictSum
import HandS.ExcValue
import PyProof.Rows.SortStr
import KE.KDictKeyed
import HandS.Head0
import HandS.Head1
import HandS.Head2
import HandS.HeadHook1
import HandS.HeadHook2
import KE.KStateDown
import PyProof.StrLawsRepr
import PySem.Challenge.RW_oncepost_k01_runs_of_handlers
set_option linter.all false
set_option maxRecDepth 100000
/-! EvS: a small plain semantics of the part of Python that the program and its laws are written in.
    D: data by value (lists, dicts by value are those that nobody changes any more); W: a value: data, or a place of the heap (a list, a dict, an instance that may still be changed). -/
namespace Ev

inductive D where
  | non | bl (b : Bool) | int (i : Int) | str (s : List Nat)
  | tup (xs : List D) | lst (xs : List D) | dct (ks vs : List D) | set (xs : List D)
  | obj (c : Nat) (fs : List D) | fn (i : Nat)
  /-- the script as it is handed in -/
  | scr (xs : List D)
inductive W where
  | d (x : D) | ref (n : Nat)
/-- what stands at a place: frozen data, a list, a dict, an instance -/
inductive Ob where
  | frz (x : D) | lst (ws : List W) | dct (ks : List D) (ws : List W) | ins (c : Nat) (fs : List (List Nat × W))
  /-- a dict whose keys are tuples, nested -/
  | dcn (ks : List D) (ws : List W)
def Ob.live : Ob → Bool
  | .frz _ => false
  | _ => true
abbrev Hs := List Ob
abbrev Sl := List (Option W)
inductive Res (α : Type) where
  | ok (a : α) (L : Hs) | exc (c : Nat) (ds : List D) (L : Hs) | bad
/-- expressions, argument lists, tests; B: the heap of the callers (read only), L: the part of the heap that may change -/
abbrev SE := Hs → Sl → Hs → Res W
abbrev SA := Hs → Sl → Hs → Res (List W)
abbrev ST := Hs → Sl → Hs → Res Bool
inductive SR where
  | next (ρ : Sl) (L : Hs) | ret (w : W) (L : Hs) | brk (ρ : Sl) (L : Hs) | cnt (ρ : Sl) (L : Hs) | exc (c : Nat) (ds : List D) (ρ : Sl) (L : Hs) | bad
abbrev SS := Hs → Sl → Hs → SR
abbrev Fn := List W → Hs → Hs → Res W

def sizeL : Nat := 16777216
def look (B L : Hs) (n : Nat) : Option Ob := (B ++ L)[n]?
/-- all are data -/
def allD : List W → Option (List D)
  | [] => some []
  | .d x :: r => match allD r with
    | some xs => some (x :: xs)
    | none => none
  | .ref _ :: _ => none
/-- the data that a value is at this moment -/
def vw (B L : Hs) : W → Option D
  | .d x => some x
  | .ref n => match look B L n with
    | some (.frz x) => some x
    | some (.lst ws) => (allD ws).map .lst
    | some (.dct ks ws) => (allD ws).map (.dct ks)
    | _ => none
/-- data for good: what may still be changed is frozen -/
def own (B L : Hs) : W → Option (D × Hs)
  | .d x => some (x, L)
  | .ref n => match look B L n with
    | some (.frz x) => some (x, L)
    | some (.lst ws) => if n < B.length then none else match allD ws with
      | some xs => some (.lst xs, L.set (n - B.length) (.frz (.lst xs)))
      | none => none
    | some (.dct ks ws) => if n < B.length then none else match allD ws with
      | some xs => some (.dct ks xs, L.set (n - B.length) (.frz (.dct ks xs)))
      | none => none
    | _ => none
def ownAll (B : Hs) : Hs → List W → Option (List D × Hs)
  | L, [] => some ([], L)
  | L, w :: ws => match own B L w with
    | some (x, L1) => match ownAll B L1 ws with
      | some (xs, L2) => some (x :: xs, L2)
      | none => none
    | none => none

/-! ### binding -/
def Res.bind {α β : Type} (r : Res α) (k : α → Hs → Res β) : Res β := match r with
  | .ok a L => k a L
  | .exc c ds L => .exc c ds L
  | .bad => .bad
def ofOpt {α : Type} (o : Option α) (L : Hs) : Res α := match o with
  | some a => .ok a L
  | none => .bad

def vwR (B L : Hs) (w : W) : Res D := ofOpt (vw B L w) L
def ownR (B L : Hs) (w : W) : Res D := match own B L w with
  | some (x, L1) => .ok x L1
  | none => .bad
def ownsR (B L : Hs) (ws : List W) : Res (List D) := match ownAll B L ws with
  | some (x, L1) => .ok x L1
  | none => .bad
def guardR (c : Bool) (L : Hs) : Res Unit := match c with
  | true => .ok () L
  | false => .bad

/-! ### expressions -/
def eVar (i : Nat) : SE := fun _ ρ L => match ρ[i]? with
  | some (some w) => .ok w L
  | _ => .bad
def eC (x : D) : SE := fun _ _ L => .ok (.d x) L
def e1 (op : D → Option D) (a : SE) : SE := fun B ρ L => (a B ρ L).bind fun x L1 => (vwR B L1 x).bind fun p L1 => (ofOpt (op p) L1).bind fun r L2 => .ok (.d r) L2
def e2 (op : D → D → Option D) (a b : SE) : SE := fun B ρ L => (a B ρ L).bind fun x L1 => (b B ρ L1).bind fun y L2 => (vwR B L2 x).bind fun p L2 => (vwR B L2 y).bind fun q L2 => (ofOpt (op p q) L2).bind fun r L3 => .ok (.d r) L3
def aNil : SA := fun _ _ L => .ok [] L
def aCons (a : SE) (r : SA) : SA := fun B ρ L => (a B ρ L).bind fun x L1 => (r B ρ L1).bind fun xs L2 => .ok (x :: xs) L2
/-- the items of a tuple or a list -/
def seqD : D → Option (List D)
  | .tup xs => some xs
  | .lst xs => some xs
  | _ => none
/-- *a, .. -/
def aStar (a : SE) (r : SA) : SA := fun B ρ L => (a B ρ L).bind fun x L1 => (vwR B L1 x).bind fun p L1 => (ofOpt (seqD p) L1).bind fun ys L1 => (r B ρ L1).bind fun xs L2 => .ok (ys.map .d ++ xs) L2
def eTup (a : SA) : SE := fun B ρ L => (a B ρ L).bind fun ws L1 => (ownsR B L1 ws).bind fun xs L2 => (guardR (decide (xs.length ≤ sizeL)) L2).bind fun _ L2 => .ok (.d (.tup xs)) L2
/-- a list that is not changed any more -/
def eLst (a : SA) : SE := fun B ρ L => (a B ρ L).bind fun ws L1 => (ownsR B L1 ws).bind fun xs L2 => (guardR (decide (xs.length ≤ sizeL)) L2).bind fun _ L2 => .ok (.d (.lst xs)) L2
/-- a list that may be changed -/
def eLstM (a : SA) : SE := fun B ρ L => (a B ρ L).bind fun ws L1 => (guardR (decide (ws.length ≤ sizeL)) L1).bind fun _ L1 => .ok (.ref (B.length + L1.length)) (L1 ++ [.lst ws])
/-- a call of a def of np parameters -/
def eCall (np : Nat) (F : Fn) (a : SA) : SE := fun B ρ L => (a B ρ L).bind fun ws L1 => (guardR (decide (ws.length = np)) L1).bind fun _ L1 => F ws B L1
/-- a call with nk keywords alone, g puts their values in order -/
def eCallK (nk np : Nat) (F : Fn) (g : List W → List W) (a : SA) : SE := fun B ρ L => (a B ρ L).bind fun ws L1 => (guardR (decide (ws.length = nk)) L1).bind fun _ L1 => F (g ws) B L1
/-- tests -/
def tru : D → Option Bool
  | .non => some false
  | .bl b => some b
  | .int i => some (decide (i ≠ 0))
  | .str s => if s.length ≤ sizeL then some (!s.isEmpty) else none
  | .tup xs => some (!xs.isEmpty)
  | .lst xs => some (!xs.isEmpty)
  | _ => none
def tE (a : SE) : ST := fun B ρ L => (a B ρ L).bind fun x L1 => (vwR B L1 x).bind fun p L1 => ofOpt (tru p) L1
def tAnd (a b : ST) : ST := fun B ρ L => (a B ρ L).bind fun c L1 => if c = true then b B ρ L1 else .ok false L1
def tOr (a b : ST) : ST := fun B ρ L => (a B ρ L).bind fun c L1 => if c = true then .ok true L1 else b B ρ L1
def tNot (a : ST) : ST := fun B ρ L => (a B ρ L).bind fun c L1 => .ok (!c) L1
def tIfT (c a b : ST) : ST := fun B ρ L => (c B ρ L).bind fun k L1 => if k = true then a B ρ L1 else b B ρ L1
def eIf (c : ST) (a b : SE) : SE := fun B ρ L => (c B ρ L).bind fun k L1 => if k = true then a B ρ L1 else b B ρ L1
/-- x and y, x or y, not x as values -/
def eAnd (a b : SE) : SE := fun B ρ L => (a B ρ L).bind fun x L1 => (vwR B L1 x).bind fun p L1 => (ofOpt (tru p) L1).bind fun k L2 => if k = true then b B ρ L2 else .ok x L2
def eOr (a b : SE) : SE := fun B ρ L => (a B ρ L).bind fun x L1 => (vwR B L1 x).bind fun p L1 => (ofOpt (tru p) L1).bind fun k L2 => if k = true then .ok x L2 else b B ρ L2
def eNot (a : SE) : SE := fun B ρ L => (a B ρ L).bind fun x L1 => (vwR B L1 x).bind fun p L1 => (ofOpt (tru p) L1).bind fun k L2 => .ok (.d (.bl (!k))) L2

/-! ### statements -/
def SR.then (r : SR) (k : Sl → Hs → SR) : SR := match r with
  | .next ρ L => k ρ L
  | r => r
def Res.st {α : Type} (r : Res α) (ρ : Sl) (k : α → Hs → SR) : SR := match r with
  | .ok a L => k a L
  | .exc c ds L => .exc c ds ρ L
  | .bad => .bad
def sNil : SS := fun _ ρ L => .next ρ L
def sSeq (a b : SS) : SS := fun B ρ L => (a B ρ L).then fun ρ1 L1 => b B ρ1 L1
def sRet (a : SE) : SS := fun B ρ L => (a B ρ L).st ρ fun w L1 => .ret w L1
def sExpr (a : SE) : SS := fun B ρ L => (a B ρ L).st ρ fun _ L1 => .next ρ L1
def sIf (c : ST) (a b : SS) : SS := fun B ρ L => (c B ρ L).st ρ fun k L1 => if k = true then a B ρ L1 else b B ρ L1
def sBad : SS := fun _ _ _ => .bad
/-- targets: a value comes to its names -/
abbrev SG := W → Hs → Sl → Hs → Res Sl
def gVar (i : Nat) : SG := fun w _ ρ L => .ok (ρ.set i (some w)) L
def gAll : List SG → List D → Hs → Sl → Hs → Res Sl
  | [], [], _, ρ, L => .ok ρ L
  | g :: gs, x :: xs, B, ρ, L => (g (.d x) B ρ L).bind fun ρ1 L1 => gAll gs xs B ρ1 L1
  | _, _, _, _, _ => .bad
def tupD : D → Option (List D)
  | .tup xs => some xs
  | _ => none
def gTup (gs : List SG) : SG := fun w B ρ L => (vwR B L w).bind fun p L1 => (ofOpt (tupD p) L1).bind fun xs L1 => gAll gs xs B ρ L1
def sAsg (a : SE) (g : SG) : SS := fun B ρ L => (a B ρ L).st ρ fun w L1 => (g w B ρ L1).st ρ fun ρ' L2 => .next ρ' L2
/-- a, b = x, y: two plain names -/
def sPar (i j : Nat) (a : SA) : SS := fun B ρ L => (a B ρ L).st ρ fun ws L1 => match ws with
  | [v, w] => .next ((ρ.set i (some v)).set j (some w)) L1
  | _ => .bad
/-- a, b, c = x, y, z -/
def sPar3 (i j l : Nat) (a : SA) : SS := fun B ρ L => (a B ρ L).st ρ fun ws L1 => match ws with
  | [u, v, w] => .next (((ρ.set i (some u)).set j (some v)).set l (some w)) L1
  | _ => .bad
/-! ### loops -/
/-- what a turn leaves, and how it goes on -/
def SR.turn (r : SR) (k : Sl → Hs → SR) : SR := match r with
  | .next ρ L => k ρ L
  | .cnt ρ L => k ρ L
  | .brk ρ L => .next ρ L
  | .ret w L => .ret w L
  | .exc c ds ρ L => .exc c ds ρ L
  | .bad => .bad
def forGo (g : SG) (b : SS) (B : Hs) : List D → Sl → Hs → SR
  | [], ρ, L => .next ρ L
  | x :: xs, ρ, L => (g (.d x) B ρ L).st ρ fun ρ1 L1 => (b B ρ1 L1).turn fun ρ2 L2 => forGo g b B xs ρ2 L2
/-- what is walked: its items -/
abbrev SI := Hs → Sl → Hs → Res (List D)
def sFor (it : SI) (g : SG) (b : SS) : SS := fun B ρ L => (it B ρ L).st ρ fun xs L1 => forGo g b B xs ρ L1
def items : D → Option (List D)
  | .tup xs => some xs
  | .lst xs => some xs
  | .scr xs => some xs
  | .str s => some (s.map fun c => .str [c])
  | _ => none
/-- a place that is walked stands still: it is frozen, or the callers' -/
def still (B L : Hs) : W → Option D
  | .d p => some p
  | .ref n => match look B L n with
    | some (.frz p) => some p
    | some (.lst ws) => if n < B.length then (allD ws).map .lst else none
    | _ => none
def iE (a : SE) : SI := fun B ρ L => (a B ρ L).bind fun x L1 => (ofOpt (still B L1 x) L1).bind fun p L1 => ofOpt (items p) L1
def intD : D → Option Int
  | .int i => some i
  | _ => none
def iRange (a : SE) : SI := fun B ρ L => (a B ρ L).bind fun x L1 => (vwR B L1 x).bind fun p L1 => (ofOpt (intD p) L1).bind fun j L1 => (guardR (decide (-(2 ^ 62) ≤ j ∧ j < 2 ^ 62)) L1).bind fun _ L1 => .ok ((List.range j.toNat).map fun (i : Nat) => .int i) L1
def whileGo (c : ST) (b : SS) (B : Hs) : Nat → Sl → Hs → SR
  | 0, _, _ => .bad
  | n + 1, ρ, L => (c B ρ L).st ρ fun k L1 => if k = true then (b B ρ L1).turn fun ρ2 L2 => whileGo c b B n ρ2 L2 else .next ρ L1
def sWhile (n : Nat) (c : ST) (b : SS) : SS := fun B ρ L => whileGo c b B n ρ L
def wipe (ρ : Sl) : List Nat → Sl
  | [] => ρ
  | v :: vs => (wipe ρ vs).set v none
/-- a comprehension: the list of what comes, by value -/
def compGo (g : SG) (c : ST) (e : SE) (B : Hs) (ρ : Sl) : List D → List D → Hs → Res (List D)
  | [], acc, L => .ok acc L
  | x :: xs, acc, L => (g (.d x) B ρ L).bind fun ρ1 L1 => (c B ρ1 L1).bind fun k L2 => if k = true then
      (e B ρ1 L2).bind fun w L3 => (ownR B L3 w).bind fun y L4 => (guardR (decide (acc.length < sizeL)) L4).bind fun _ L4 => compGo g c e B ρ xs (acc ++ [y]) L4
    else compGo g c e B ρ xs acc L2
def tYes : ST := fun _ _ L => .ok true L
def eComp (it : SI) (g : SG) (c : ST) (e : SE) (vs : List Nat) : SE := fun B ρ L => (it B ρ L).bind fun xs L1 => (compGo g c e B (wipe ρ vs) xs [] L1).bind fun ys L2 => .ok (.d (.lst ys)) L2
/-- two fors -/
def compGo2 (g : SG) (c : ST) (it1 : SI) (g1 : SG) (c1 : ST) (e : SE) (B : Hs) (ρ : Sl) (vs1 : List Nat) : List D → List D → Hs → Res (List D)
  | [], acc, L => .ok acc L
  | x :: xs, acc, L => (g (.d x) B ρ L).bind fun ρ1 L1 => (c B ρ1 L1).bind fun k L2 => if k = true then (it1 B ρ1 L2).bind fun ys L3 =>
        (compGo g1 c1 e B (wipe ρ1 vs1) ys acc L3).bind fun acc' L4 => compGo2 g c it1 g1 c1 e B ρ vs1 xs acc' L4
    else compGo2 g c it1 g1 c1 e B ρ vs1 xs acc L2
def eComp2 (it : SI) (g : SG) (c : ST) (it1 : SI) (g1 : SG) (c1 : ST) (e : SE) (vs vs1 : List Nat) : SE := fun B ρ L => (it B ρ L).bind fun xs L1 => (compGo2 g c it1 g1 c1 e B (wipe ρ vs) vs1 xs [] L1).bind fun ys L2 => .ok (.d (.lst ys)) L2

/-! ### defs -/
/-- a def: its number of parameters, of names, its body -/
def fnBody (np ns : Nat) (b : SS) : Fn := fun ws B L => if ws.length = np then match b B (ws.map some ++ List.replicate (ns - np) none) L with
    | .next _ L1 => .ok (.d .non) L1
    | .ret w L1 => .ok w L1
    | .exc c ds _ L1 => .exc c ds L1
    | _ => .bad
  else .bad
/-- what a call hands out when its own part of the heap is dropped -/
def out (n : Nat) (L : Hs) : W → Option W
  | .d x => some (.d x)
  | .ref k => if k < n then some (.ref k) else match L[k - n]? with
    | some (.frz x) => some (.d x)
    | some (.lst ws) => (allD ws).map fun xs => .d (.lst xs)
    | some (.dct ks ws) => (allD ws).map fun xs => .d (.dct ks xs)
    | _ => none
/-- a call that changes nothing that stood before -/
def pureFn (F : Fn) : Fn := fun ws B L => match F ws (B ++ L) [] with
  | .ok w L' => match out (B ++ L).length L' w with
    | some w' => .ok w' L
    | none => .bad
  | .exc c ds _ => .exc c ds L
  | .bad => .bad

/-- a tuple that dict() may take, or an empty one: of such tuples it is known that they are plain -/
def rowy : List D → Bool
  | [] => true
  | .tup [.tup _, _] :: r => rowy r
  | _ => false

/-! ### operators by data -/
def opAdd : D → D → Option D
  | .int i, .int j => some (.int (i + j))
  | .str s, .str t => if s.length + t.length ≤ sizeL then some (.str (s ++ t)) else none
  | .tup xs, .tup ys => if xs.length + ys.length ≤ sizeL ∧ (xs.isEmpty || ys.isEmpty || !rowy (xs ++ ys)) = true then some (.tup (xs ++ ys)) else none
  | .lst xs, .lst ys => if xs.length + ys.length ≤ sizeL then some (.lst (xs ++ ys)) else none
  | _, _ => none
def opSub : D → D → Option D
  | .int i, .int j => some (.int (i - j))
  | _, _ => none
def mulOk (i j : Int) : Bool := decide (i.natAbs < 2 ^ 64) || decide (j.natAbs < 2 ^ 64) || decide (i.natAbs.log2 + j.natAbs.log2 < 1000000)
def opMul : D → D → Option D
  | .int i, .int j => if mulOk i j = true then some (.int (i * j)) else none
  | .tup xs, .int k => if xs.isEmpty = false ∧ 0 ≤ k ∧ k ≤ 1000 ∧ xs.length ≤ 1000 ∧ rowy (List.replicate k.toNat xs).flatten = false then some (.tup (List.replicate k.toNat xs).flatten) else none
  | .lst xs, .int k => if -(2 ^ 63) ≤ k ∧ k < 2 ^ 63 ∧ xs.length * k.toNat ≤ sizeL then some (.lst (List.replicate k.toNat xs).flatten) else none
  | .str s, .int k => if 0 ≤ k ∧ k ≤ 1000 ∧ s.length ≤ 1000 then some (.str (List.replicate k.toNat s).flatten) else none
  | _, _ => none
def opFdiv : D → D → Option D
  | .int i, .int j => if 0 < j ∧ j.natAbs.log2 < 9000 then some (.int (i / j)) else none
  | _, _ => none
def opMod : D → D → Option D
  | .int i, .int j => if 0 < j then some (.int (i % j)) else none
  | _, _ => none
def opPow : D → D → Option D
  | .int i, .int j => if 0 ≤ j ∧ j ≤ 1000000 ∧ i.natAbs < 2 ^ 64 then some (.int (i ^ j.toNat)) else none
  | _, _ => none
/-- texts and numbers by their order -/
def lexS : List (List Nat) → List (List Nat) → Bool
  | [], [] => false
  | [], _ :: _ => true
  | _ :: _, [] => false
  | x :: xs, y :: ys => if x = y then lexS xs ys else decide (x < y)
def strsD : List D → Option (List (List Nat))
  | [] => some []
  | .str s :: r => match strsD r with
    | some ss => some (s :: ss)
    | none => none
  | _ => none
def opLt : D → D → Option D
  | .int i, .int j => some (.bl (decide (i < j)))
  | .str s, .str t => some (.bl (decide (s < t)))
  | .tup xs, .tup ys => match strsD xs, strsD ys with
    | some ss, some ts => some (.bl (lexS ss ts))
    | _, _ => none
  | _, _ => none
def opLe : D → D → Option D
  | .int i, .int j => some (.bl (decide (i ≤ j)))
  | _, _ => none
def opGt : D → D → Option D
  | .int i, .int j => some (.bl (decide (j < i)))
  | _, _ => none
def opGe : D → D → Option D
  | .int i, .int j => some (.bl (decide (j ≤ i)))
  | _, _ => none
/-! == of data without dicts, sets, objects -/
mutual
def eqD : D → D → Bool
  | .non, .non => true
  | .bl a, .bl b => a == b
  | .bl a, .int j => (if a then 1 else 0) == j
  | .int i, .bl b => i == (if b then 1 else 0)
  | .int i, .int j => i == j
  | .str x, .str y => decide (x = y)
  | .lst xs, .lst ys => eqDs xs ys
  | .tup xs, .tup ys => eqDs xs ys
  | _, _ => false
def eqDs : List D → List D → Bool
  | [], [] => true
  | x :: xs, y :: ys => eqD x y && eqDs xs ys
  | _, _ => false
end
mutual
def dOk : D → Bool
  | .non => true
  | .bl _ => true
  | .int _ => true
  | .str s => s.all (· < 0x110000)
  | .tup xs => dOks xs
  | .lst xs => dOks xs
  | _ => false
def dOks : List D → Bool
  | [] => true
  | x :: xs => dOk x && dOks xs
end
mutual
def dep : D → Nat
  | .tup xs => deps xs + 1
  | .lst xs => deps xs + 1
  | _ => 0
def deps : List D → Nat
  | [] => 0
  | x :: xs => max (dep x) (deps xs)
end
def okD (d : D) : Bool := dOk d && decide (dep d ≤ 64)
def opEq : D → D → Option D
  | .str s, .str t => some (.bl (decide (s = t)))
  | .int i, .int j => some (.bl (decide (i = j)))
  | .lst xs, .lst [] => some (.bl xs.isEmpty)
  | p, q => if (okD p && okD q) = true then some (.bl (eqD p q)) else none
def opNe : D → D → Option D
  | .str s, .str t => some (.bl (!decide (s = t)))
  | .int i, .int j => some (.bl (!decide (i = j)))
  | .lst xs, .lst [] => some (.bl (!xs.isEmpty))
  | p, q => if (okD p && okD q) = true then some (.bl (!eqD p q)) else none
/-- the place of a key -/
def keyEq : D → D → Bool
  | .int i, .int j => decide (i = j)
  | .str s, .str t => decide (s = t)
  | _, _ => false
def isKey : D → Bool
  | .int _ => true
  | .str _ => true
  | _ => false
def findK (k : D) : List D → List W → Option W
  | a :: ks, w :: ws => if keyEq a k then some w else findK k ks ws
  | _, _ => none
def findD (k : D) : List D → List D → Option D
  | a :: ks, w :: ws => if keyEq a k then some w else findD k ks ws
  | _, _ => none
/-- in -/
def opIn : D → D → Option D
  | p, .lst ys => if (okD p && okD (.lst ys)) = true then some (.bl (ys.any fun y => eqD y p)) else none
  | p, .tup ys => if (okD p && okD (.tup ys)) = true then some (.bl (ys.any fun y => eqD y p)) else none
  | .str [c], .str t => some (.bl (decide (c ∈ t)))
  | p, .dct ks vs => if isKey p = true then some (.bl (findD p ks vs).isSome) else none
  | _, _ => none
def opNotIn (p q : D) : Option D := match opIn p q with
  | some (.bl b) => some (.bl (!b))
  | _ => none
/-- calls by data -/
def bLen : List D → Option D
  | [.str s] => if s.length ≤ sizeL then some (.int s.length) else none
  | [.tup xs] => some (.int xs.length)
  | [.lst xs] => some (.int xs.length)
  | [.scr xs] => some (.int xs.length)
  | [.dct ks _] => some (.int ks.length)
  | _ => none
def bAbs : List D → Option D
  | [.int i] => some (.int (if i < 0 then -i else i))
  | _ => none
def allI : List D → Option (List Int)
  | [] => some []
  | .int i :: r => match allI r with
    | some is => some (i :: is)
    | none => none
  | _ => none
def maxI : List Int → Option Int
  | [] => none
  | i :: r => some (r.foldl (fun a b => if b > a then b else a) i)
def minI : List Int → Option Int
  | [] => none
  | i :: r => some (r.foldl (fun a b => if b < a then b else a) i)
def bMax : List D → Option D
  | [.int i, .int j] => some (.int (if j > i then j else i))
  | [.lst xs] => match allI xs with
    | some is => (maxI is).map .int
    | none => none
  | _ => none
def bMin : List D → Option D
  | [.int i, .int j] => some (.int (if j < i then j else i))
  | [.lst xs] => match allI xs with
    | some is => (minI is).map .int
    | none => none
  | _ => none
def bInt : List D → Option D
  | [.int i] => some (.int i)
  | [.bl b] => some (.int (if b then 1 else 0))
  | _ => none
def bList : List D → Option D
  | [.lst xs] => some (.lst xs)
  | [.tup xs] => some (.lst xs)
  | [.scr xs] => some (.lst xs)
  | _ => none
def bTuple : List D → Option D
  | [.lst xs] => some (.tup xs)
  | [.tup xs] => some (.tup xs)
  | [.scr xs] => some (.tup xs)
  | _ => none
def allB : List D → Option (List Bool)
  | [] => some []
  | .bl b :: r => match allB r with
    | some bs => some (b :: bs)
    | none => none
  | _ => none
def bAll : List D → Option D
  | [.lst xs] => match allB xs with
    | some bs => some (.bl (bs.all id))
    | none => none
  | _ => none
def bAny : List D → Option D
  | [.lst xs] => match allB xs with
    | some bs => some (.bl (bs.any id))
    | none => none
  | _ => none
def vwsR (B L : Hs) : List W → Res (List D)
  | [] => .ok [] L
  | w :: ws => (vwR B L w).bind fun p L => (vwsR B L ws).bind fun ps L => .ok (p :: ps) L
/-- a call of a builtin by data -/
def eB (op : List D → Option D) (a : SA) : SE := fun B ρ L => (a B ρ L).bind fun ws L1 => (vwsR B L1 ws).bind fun ps L1 => (ofOpt (op ps) L1).bind fun r L2 => .ok (.d r) L2
/-- isinstance with built-in classes: their names -/
inductive Ty where
  | int | str | bool | tuple | list | dict
  deriving DecidableEq
def isTy (t : Ty) : D → Option Bool
  | .non => some false
  | .bl _ => some (t == .bool || t == .int)
  | .int _ => some (t == .int)
  | .str _ => some (t == .str)
  | .tup _ => some (t == .tuple)
  | .lst _ => some (t == .list)
  | .dct _ _ => some (t == .dict)
  | _ => none
def bIsi (t : Ty) (p : D) : Option D := (isTy t p).map .bl
/-- is None -/
def isN : W → Bool
  | .d .non => true
  | _ => false
def eIsN (a : SE) : SE := fun B ρ L => (a B ρ L).bind fun x L1 => .ok (.d (.bl (isN x))) L1
def eNotN (a : SE) : SE := fun B ρ L => (a B ρ L).bind fun x L1 => .ok (.d (.bl (!isN x))) L1
/-- an index -/
def ixN (n : Nat) (i : Int) : Option Nat := if 0 ≤ i then (if i < n then some i.toNat else none) else if -(n : Int) ≤ i then some (i + n).toNat else none
def atI {α : Type} (xs : List α) (i : Int) : Option α := (ixN xs.length i).bind fun j => xs[j]?
def opIx : D → D → Option D
  | .lst xs, .int i => atI xs i
  | .scr xs, .int i => atI xs i
  | .tup xs, .int i => atI xs i
  | .str s, .int i => if s.length ≤ sizeL then (atI s i).map fun c => .str [c] else none
  | .dct ks vs, k => if isKey k = true then findD k ks vs else none
  | _, _ => none
/-- slices -/
def sIx (n d : Nat) : Option Int → Nat
  | none => d
  | some v => if v < 0 then (v + n).toNat else min v.toNat n
def cut {α : Type} (xs : List α) (lo hi : Option Int) : List α := (xs.drop (sIx xs.length 0 lo)).take (sIx xs.length xs.length hi - sIx xs.length 0 lo)
def opSl : D → Option Int → Option Int → Option D
  | .lst xs, lo, hi => some (.lst (cut xs lo hi))
  | .scr xs, lo, hi => some (.lst (cut xs lo hi))
  | .tup xs, lo, hi => if rowy (cut xs lo hi) = false then some (.tup (cut xs lo hi)) else none
  | .str s, lo, hi => if s.length ≤ sizeL then some (.str (cut s lo hi)) else none
  | _, _, _ => none
abbrev SO := Hs → Sl → Hs → Res (Option Int)
def oNone : SO := fun _ _ L => .ok none L
def oSome (a : SE) : SO := fun B ρ L => (a B ρ L).bind fun x L1 => (vwR B L1 x).bind fun p L1 => (ofOpt (intD p) L1).bind fun i L1 => .ok (some i) L1
def eSl (a : SE) (lo hi : SO) : SE := fun B ρ L => (a B ρ L).bind fun x L1 => (lo B ρ L1).bind fun l L2 => (hi B ρ L2).bind fun h L3 => (vwR B L3 x).bind fun p L3 => (ofOpt (opSl p l h) L3).bind fun r L4 => .ok (.d r) L4
/-- a chain a < b < c -/
def boolD : D → Option Bool
  | .bl b => some b
  | _ => none
def eChain (op op' : D → D → Option D) (a b c : SE) : SE := fun B ρ L => (a B ρ L).bind fun x L1 => (b B ρ L1).bind fun y L2 => (vwR B L2 x).bind fun p L2 => (vwR B L2 y).bind fun q L2 => (ofOpt (op p q) L2).bind fun r L2 => (ofOpt (boolD r) L2).bind fun k L2 =>
  if k = true then (c B ρ L2).bind fun z L3 => (vwR B L3 y).bind fun q L3 => (vwR B L3 z).bind fun s L3 => (ofOpt (op' q s) L3).bind fun r L4 => .ok (.d r) L4 else .ok (.d (.bl false)) L2

/-! ### dicts -/
def pairsGo (B : Hs) (ρ : Sl) : List (SE × SE) → Hs → Res (List W × List W)
  | [], L => .ok ([], []) L
  | (k, v) :: r, L => (k B ρ L).bind fun x L1 => (v B ρ L1).bind fun y L2 => (pairsGo B ρ r L2).bind fun ps L3 => .ok (x :: ps.1, y :: ps.2) L3
def putKs (k : D) (ks : List D) : List D := if ks.any (fun a => keyEq a k) then ks else ks ++ [k]
def putVs {α : Type} (k : D) (x : α) (ks : List D) (ys : List α) : List α := if ks.any (fun a => keyEq a k) then List.zipWith (fun a y => if keyEq a k then x else y) ks ys else ys ++ [x]
def mergeKV {α : Type} : List D → List α → List D → List α → List D × List α
  | ks, xs, k :: ks', x :: xs' => mergeKV (putKs k ks) (putVs k x ks xs) ks' xs'
  | ks, xs, _, _ => (ks, xs)
/-- {k: v, ..}, not changed any more -/
def eDct (ps : List (SE × SE)) : SE := fun B ρ L => (pairsGo B ρ ps L).bind fun ww L1 => (ownsR B L1 ww.2).bind fun xs L2 => (vwsR B L2 ww.1).bind fun ks L2 => (guardR (ks.all isKey && decide (ks.length ≤ 15)) L2).bind fun _ L2 =>
  .ok (.d (.dct (mergeKV [] [] ks xs).1 (mergeKV [] [] ks xs).2)) L2
/-- {k: v, ..}, that may be changed -/
def eDctM (ps : List (SE × SE)) : SE := fun B ρ L => (pairsGo B ρ ps L).bind fun ww L1 => (vwsR B L1 ww.1).bind fun ks L1 => (guardR (ks.all isKey && decide (ks.length ≤ 15)) L1).bind fun _ L1 =>
  .ok (.ref (B.length + L1.length)) (L1 ++ [.dct (mergeKV [] [] ks ww.2).1 (mergeKV [] [] ks ww.2).2])
/-- d[k] = v -/
def putAt (B L : Hs) (w : W) (k : D) (v : W) : Option Hs := match w with
  | .ref n => if n < B.length then none else match L[n - B.length]? with
    | some (.dct ks ws) => if isKey k = true ∧ ks.length < sizeL then some (L.set (n - B.length) (.dct (putKs k ks) (putVs k v ks ws))) else none
    | _ => none
  | _ => none
def sDPut (o i v : SE) : SS := fun B ρ L => (v B ρ L).st ρ fun z L1 => (o B ρ L1).st ρ fun x L2 => (i B ρ L2).st ρ fun y L3 => (vwR B L3 y).st ρ fun k L3 => match putAt B L3 x k z with
  | some L4 => .next ρ L4
  | none => .bad

/-! ### places that change -/
def lstD : D → Option (List D)
  | .lst xs => some xs
  | _ => none
def seqS : D → Option (List D)
  | .lst xs => some xs
  | .tup xs => some xs
  | .scr xs => some xs
  | _ => none
/-- list(x), that may be changed -/
def eListM (a : SE) : SE := fun B ρ L => (a B ρ L).bind fun x L1 => (vwR B L1 x).bind fun p L1 => (ofOpt (seqS p) L1).bind fun xs L1 => .ok (.ref (B.length + L1.length)) (L1 ++ [.lst (xs.map .d)])
/-- {}, of nested tuples as keys -/
def eDctN : SE := fun B _ L => .ok (.ref (B.length + L.length)) (L ++ [.dcn [] []])
/-- a place of one's own that is a list -/
def lstAt (B L : Hs) : W → Option (Nat × List W)
  | .ref n => if n < B.length then none else match L[n - B.length]? with
    | some (.lst ws) => some (n - B.length, ws)
    | _ => none
  | _ => none
def eApp (o a : SE) : SE := fun B ρ L => (o B ρ L).bind fun x L1 => (guardR (lstAt B L1 x).isSome L1).bind fun _ L1 => (a B ρ L1).bind fun y L2 => match lstAt B L2 x with
  | some (n, ws) => if ws.length < sizeL then .ok (.d .non) (L2.set n (.lst (ws ++ [y]))) else .bad
  | none => .bad
def eExt (o a : SE) : SE := fun B ρ L => (o B ρ L).bind fun x L1 => (guardR (lstAt B L1 x).isSome L1).bind fun _ L1 => (a B ρ L1).bind fun y L2 => (vwR B L2 y).bind fun p L2 => (ofOpt (lstD p) L2).bind fun ys L2 => match lstAt B L2 x with
  | some (n, ws) => if ws.length + ys.length ≤ sizeL then .ok (.d .non) (L2.set n (.lst (ws ++ ys.map .d))) else .bad
  | none => .bad
def ePop (o : SE) : SE := fun B ρ L => (o B ρ L).bind fun x L1 => match lstAt B L1 x with
  | some (n, ws) => match ws[ws.length - 1]? with
    | some y => .ok y (L1.set n (.lst ws.dropLast))
    | none => .bad
  | none => .bad
/-! keys that are tuples, nested -/
mutual
def nkOk : D → Bool
  | .non => true
  | .bl _ => true
  | .int _ => true
  | .str _ => true
  | .tup xs => nkOks xs
  | _ => false
def nkOks : List D → Bool
  | [] => true
  | x :: xs => nkOk x && nkOks xs
end
def isNK : D → Bool
  | .tup xs => nkOks xs && decide (dep (.tup xs) ≤ 8)
  | _ => false
def nkIn (k : D) (ks : List D) : Bool := ks.any fun a => eqD a k
def nkKs (k : D) (ks : List D) : List D := if nkIn k ks = true then ks else ks ++ [k]
def nkVs {α : Type} (k : D) (x : α) (ks : List D) (ys : List α) : List α := if nkIn k ks = true then List.zipWith (fun a y => if eqD a k = true then x else y) ks ys else ys ++ [x]
/-- x in d, x not in d: d such a dict -/
def eInN (neg : Bool) (k d : SE) : SE := fun B ρ L => (k B ρ L).bind fun x L1 => (d B ρ L1).bind fun y L2 => (vwR B L2 x).bind fun p L2 => match y with
  | .ref n => match look B L2 n with
    | some (.dcn ks _) => if isNK p = true then .ok (.d (.bl (if neg = true then !nkIn p ks else nkIn p ks))) L2 else .bad
    | _ => .bad
  | _ => .bad
/-- o[k] = v -/
def putIn (B L : Hs) (w : W) (k : D) (v : W) : Option Hs := match w with
  | .ref n => if n < B.length then none else match L[n - B.length]? with
    | some (.lst ws) => match k with
      | .int i => match ixN ws.length i with
        | some j => some (L.set (n - B.length) (.lst (ws.set j v)))
        | none => none
      | _ => none
    | some (.dct ks ws) => if isKey k = true ∧ ks.length < sizeL then some (L.set (n - B.length) (.dct (putKs k ks) (putVs k v ks ws))) else none
    | some (.dcn ks ws) => if isNK k = true ∧ ks.length < sizeL then some (L.set (n - B.length) (.dcn (nkKs k ks) (nkVs k v ks ws))) else none
    | _ => none
  | _ => none
def gItem (o i : SE) : SG := fun w B ρ L => (o B ρ L).bind fun x L1 => (i B ρ L1).bind fun y L2 => (vwR B L2 y).bind fun k L2 => match putIn B L2 x k w with
  | some L3 => .ok ρ L3
  | none => .bad
/-- a, b, c, .. = x, y, z, ..: names -/
def setAll : List Nat → List W → Sl → Option Sl
  | [], [], ρ => some ρ
  | i :: is, w :: ws, ρ => setAll is ws (ρ.set i (some w))
  | _, _, _ => none
def sParN (is : List Nat) (a : SA) : SS := fun B ρ L => (a B ρ L).st ρ fun ws L1 => match setAll is ws ρ with
  | some ρ' => if ws.length ≤ sizeL then .next ρ' L1 else .bad
  | none => .bad
/-! ### more operators -/
def opRev : D → Option D
  | .tup xs => if rowy xs.reverse = false then some (.tup xs.reverse) else none
  | .lst xs => some (.lst xs.reverse)
  | _ => none
def opNeg : D → Option D
  | .int i => some (.int (-i))
  | _ => none
def opIsB : D → D → Option D
  | .bl a, .bl b => some (.bl (a == b))
  | _, _ => none
def allS : List D → Option (List (List Nat))
  | [] => some []
  | .str s :: r => match allS r with
    | some ss => some (s :: ss)
    | none => none
  | _ => none
def joinS (sep : List Nat) : List (List Nat) → List Nat
  | [] => []
  | [s] => s
  | s :: t :: r => s ++ (sep ++ joinS sep (t :: r))
def opJoin : D → D → Option D
  | .str a, .lst xs => match allS xs with
    | some ss => if (ss.map List.length).sum + ss.length * a.length ≤ sizeL then some (.str (joinS a ss)) else none
    | none => none
  | _, _ => none
def bSum : List D → Option D
  | [.lst xs] => match allI xs with
    | some is => some (.int is.sum)
    | none => none
  | _ => none
/-- a + b of lists, that may be changed -/
def eAddM (a b : SE) : SE := fun B ρ L => (a B ρ L).bind fun x L1 => (b B ρ L1).bind fun y L2 => (vwR B L2 x).bind fun p L2 => (vwR B L2 y).bind fun q L2 => (ofOpt (lstD p) L2).bind fun xs L2 => (ofOpt (lstD q) L2).bind fun ys L2 =>
  (guardR (decide (xs.length + ys.length ≤ sizeL)) L2).bind fun _ L2 => .ok (.ref (B.length + L2.length)) (L2 ++ [.lst ((xs ++ ys).map .d)])
/-! ### instances -/
def getF (f : List Nat) : List (List Nat × W) → Option W
  | [] => none
  | (g, w) :: r => if g = f then some w else getF f r
def putFs (f : List Nat) (w : W) : List (List Nat × W) → List (List Nat × W)
  | [] => [(f, w)]
  | (g, x) :: r => if g = f then (g, w) :: r else (g, x) :: putFs f w r
def insAt (B L : Hs) : W → Option (Nat × Nat × List (List Nat × W))
  | .ref n => match look B L n with
    | some (.ins c fs) => some (n, c, fs)
    | _ => none
  | _ => none
/-- o.f of an instance of the class c -/
def eFld (c : Nat) (f : List Nat) (o : SE) : SE := fun B ρ L => (o B ρ L).bind fun x L1 => (ofOpt (insAt B L1 x) L1).bind fun i L1 => (guardR (decide (i.2.1 = c)) L1).bind fun _ L1 => (ofOpt (getF f i.2.2) L1).bind fun w L1 => .ok w L1
/-- o.f = v -/
def sFld (c : Nat) (f : List Nat) (o v : SE) : SS := fun B ρ L => (v B ρ L).st ρ fun y L1 => (o B ρ L1).st ρ fun x L2 => (ofOpt (insAt B L2 x) L2).st ρ fun i L2 => (guardR (decide (i.2.1 = c ∧ B.length ≤ i.1 ∧ i.2.2.length < 1000)) L2).st ρ fun _ L2 =>
  .next ρ (L2.set (i.1 - B.length) (.ins c (putFs f y i.2.2)))
/-- o.m(..): np with self -/
def eMeth (c : Nat) (m : List Nat) (np : Nat) (F : Fn) (o : SE) (a : SA) : SE := fun B ρ L => (o B ρ L).bind fun x L1 => (ofOpt (insAt B L1 x) L1).bind fun i L1 => (guardR (decide (i.2.1 = c) && (getF m i.2.2).isNone) L1).bind fun _ L1 => (a B ρ L1).bind fun ws L2 =>
  (guardR (decide (ws.length + 1 = np)) L2).bind fun _ L2 => F (x :: ws) B L2
def nonW : W → Bool
  | .d .non => true
  | _ => false
/-- C(..): np with self -/
def eMake (c np : Nat) (F : Fn) (a : SA) : SE := fun B ρ L => (a B ρ L).bind fun ws L1 => (guardR (decide (ws.length + 1 = np)) L1).bind fun _ L1 => (F (.ref (B.length + L1.length) :: ws) B (L1 ++ [.ins c []])).bind fun z L2 => (guardR (nonW z) L2).bind fun _ L2 => .ok (.ref (B.length + L1.length)) L2
/-- a def that calls itself, at the end of its room -/
def badFn : Fn := fun _ _ _ => .bad
end Ev

set_option Elab.async false
set_option linter.all false
set_option maxRecDepth 100000
set_option maxHeartbeats 1000000
set_option autoImplicit false
/-! EvR: the plain semantics EvS over the hand layer: what a value, a place, the heap stand for; judgements; calls. -/
namespace Ev
open PySem PySem.Spec PyProof.Rows L2

structure Tb where
  cls : Nat → Addr
  fns : Nat → Addr
  P : Program
  w : World
/-! keys that are tuples, nested -/
mutual
def nk : D → Option NestedKey
  | .non => some .none
  | .bl b => some (.num (if b = true then 1 else 0))
  | .int i => some (.num i)
  | .str s => some (.text ⟨s.toArray⟩)
  | .tup xs => match nks xs with
    | some ks => some (.tup ks)
    | none => none
  | _ => none
def nks : List D → Option (List NestedKey)
  | [] => some []
  | x :: xs => match nk x, nks xs with
    | some k, some ks => some (k :: ks)
    | _, _ => none
end
abbrev NV := NestedKey × Addr × V
def NR (p : NV) (q : NestedKey × Addr × Value) : Prop := p.1 = q.1 ∧ p.2.1 = q.2.1 ∧ RelV p.2.2 q.2.2
/-- a dict with such keys: its object, with its entries -/
def DNp (P : Program) (w : World) (a : Addr) (kvs : List NV) (h : Heap) : Prop := kvs.length ≤ sizeLine ∧ (a == sysModules) = false ∧ ∃ xs : List (NestedKey × Addr × Value), Paired NR kvs xs ∧
  ∃ o es ep, h.get? a = some o ∧ o.ExactDict ∧ o.data = .dict es ep ∧ es.toList = xs.map (entryOfKey (nestedKind P w)) ∧ (xs.map (·.1)).Nodup
def DN (P : Program) (w : World) (a : Addr) (kvs : List NV) : HO := .ext (DNp P w a kvs)
structure Mem where
  m : Nat → Addr
  A : Hs
  H : Hp
  S : List Addr
def liveAt (A : Hs) (n : Nat) : Prop := ∃ o, A[n]? = some o ∧ o.live = true
/-- a is no place that may be changed -/
def NP (M : Mem) (a : Addr) : Prop := ∀ n, liveAt M.A n → M.m n ≠ a
/-- .. and no object in the making -/
def Sep (M : Mem) (a : Addr) : Prop := NP M a ∧ a ∉ M.S
def keyD : D → Option Key
  | .int i => some (.inl i)
  | .str s => some (.inr ⟨s.toArray⟩)
  | _ => none
/-- a list of the written part -/
def KL (K : PySem.W.Frag) (a : Addr) (xs : List V) : Prop := ∃ (o : Obj) (its : Array Value) (n : Nat), K.lookup a = some o ∧ o.cls = .type "list" ∧ o.dict = none ∧ o.data = .seq its n ∧ its.size ≤ sizeLine ∧ Vals xs its.toList
/-- a tuple of which it is known that it has no dict -/
def PlT (K : PySem.W.Frag) (H : Hp) (a : Addr) : Prop := (∃ (o : Obj) (vs : List V), H a = some (.frz o (.tup vs)) ∧ o.dict = none) ∨ ∃ o : Obj, K.lookup a = some o ∧ o.dict = none
def SqP (K : PySem.W.Frag) (H : Hp) (xs : List D) (a : Addr) (vs : List V) : Prop := SqT K H a vs ∧ (rowy xs = true → PlT K H a)
section
variable (K : PySem.W.Frag) (T : Tb)
mutual
def RV (M : Mem) : D → V → Prop
  | .non, v => v = .non
  | .bl b, v => v = .bl b
  | .int i, v => v = .int i
  | .str s, v => v = .str ⟨s.toArray⟩
  | .tup xs, v => ∃ a vs, v = .ref a ∧ SqP K M.H xs a vs ∧ RVs M xs vs
  | .lst xs, v => ∃ a vs, v = .ref a ∧ Sep M a ∧ M.H a = some (.lst vs) ∧ RVs M xs vs
  | .scr xs, v => ∃ a vs, v = .ref a ∧ ((Sep M a ∧ Rd M.H a (.lst vs)) ∨ KL K a vs) ∧ RVs M xs vs
  | .dct ks xs, v => ∃ a kvs, v = .ref a ∧ Sep M a ∧ M.H a = some (.dK kvs) ∧ ks.map keyD = kvs.map (fun p => some p.1) ∧ RVs M xs (kvs.map (·.2))
  | .set _, _ => False
  | .obj _ _, _ => False
  | .fn i, v => v = .ref (T.fns i)
def RVs (M : Mem) : List D → List V → Prop
  | [], vs => vs = []
  | x :: xs, vs => ∃ v r, vs = v :: r ∧ RV M x v ∧ RVs M xs r
end
def RW (M : Mem) : W → V → Prop
  | .d x, v => RV K T M x v
  | .ref n, v => n < M.A.length ∧ v = .ref (M.m n)
def RWs (M : Mem) : List W → List V → Prop
  | [], vs => vs = []
  | x :: xs, vs => ∃ v r, vs = v :: r ∧ RW K T M x v ∧ RWs M xs r
def RO (M : Mem) (a : Addr) : Ob → Prop
  | .frz x => RV K T M x (.ref a)
  | .lst ws => ∃ vs, M.H a = some (.lst vs) ∧ RWs K T M ws vs
  | .dct ks ws => ∃ kvs, M.H a = some (.dK kvs) ∧ ks.map keyD = kvs.map (fun p => some p.1) ∧ RWs K T M ws (kvs.map (·.2))
  | .ins c fs => ∃ dx gs, M.H a = some (.ins (T.cls c) dx gs) ∧ gs.map (·.1) = fs.map (fun p => (⟨p.1.toArray⟩ : Str)) ∧ RWs K T M (fs.map (·.2)) (gs.map (·.2))
  | .dcn ks ws => ∃ kvs : List NV, M.H a = some (DN T.P T.w a kvs) ∧ ks.all isNK = true ∧ ks.map nk = kvs.map (fun p => some p.1) ∧ RVs K T M ks (kvs.map fun p => V.ref p.2.1) ∧ RWs K T M ws (kvs.map (·.2.2))
structure Rep (M : Mem) : Prop where
  inj : ∀ i j, liveAt M.A i → liveAt M.A j → M.m i = M.m j → i = j
  at_ : ∀ (n : Nat) (o : Ob), M.A[n]? = some o → RO K T M (M.m n) o
  sc : ∀ a ∈ M.S, (∃ o, M.H a = some o ∧ (∀ xs, o ≠ .tup xs) ∧ (∀ q u, o ≠ .frz q u)) ∧ ∀ n, liveAt M.A n → M.m n ≠ a
/-- a later moment: objects in the making may have begun -/
structure Ext0 (M M' : Mem) : Prop where
  len : M.A.length ≤ M'.A.length
  same : ∀ (n : Nat), n < M.A.length → M'.m n = M.m n
  fz : ∀ (n : Nat) (x : D), M.A[n]? = some (Ob.frz x) → M'.A[n]? = some (Ob.frz x)
  new : ∀ n, M.A.length ≤ n → liveAt M'.A n → M.H (M'.m n) = none
  keep : ∀ a o, M.H a = some o → Sep M a → M'.H a = some o
  there : ∀ a, M.H a ≠ none → M'.H a ≠ none
  scr : ∀ a, a ∈ M'.S → a ∈ M.S ∨ M.H a = none
/-- a later moment of the same run -/
structure Ext (M M' : Mem) : Prop extends Ext0 M M' where
  sq : M'.S = M.S
  ks : ∀ a, a ∈ M.S → M'.H a = M.H a
def RS (M : Mem) (ρ : Sl) (σ : L2.St) : Prop := ρ.length = σ.length ∧ ∀ (i : Nat) (w : W), ρ[i]? = some (some w) → ∃ v : V, σ[i]? = some (some v) ∧ RW K T M w v
end

section
variable {K : PySem.W.Frag} {T : Tb} {M M1 M2 M' : Mem}
theorem Ext0.refl (M : Mem) : Ext0 M M := ⟨Nat.le_refl _, fun _ _ => rfl, fun _ _ h => h, fun n h ⟨o, e, _⟩ => absurd (List.getElem?_eq_some_iff.mp e).1 (by omega), fun _ _ h _ => h, fun _ h => h, fun _ h => .inl h⟩
theorem Ext.refl (M : Mem) : Ext M M := ⟨Ext0.refl M, rfl, fun _ _ => rfl⟩
theorem Ext0.live (e : Ext0 M M') {n : Nat} (hn : n < M.A.length) (l : liveAt M'.A n) : liveAt M.A n := by
  cases q : M.A[n]? with
  | none => exact absurd (List.getElem?_eq_none_iff.mp q) (by omega)
  | some o =>
    refine ⟨o, q, ?_⟩
    cases o with
    | frz x =>
      obtain ⟨o', e1, e2⟩ := l
      rw [e.fz n x q] at e1
      cases e1
      exact e2
    | _ => rfl
theorem NP.ext (e : Ext0 M M') {a : Addr} (s : NP M a) (h : M.H a ≠ none) : NP M' a := fun n l q => by
  by_cases hn : n < M.A.length
  · rw [e.same n hn] at q
    exact s n (e.live hn l) q
  · have := e.new n (by omega) l
    rw [q] at this
    exact h this
theorem Sep.ext (e : Ext0 M M') {a : Addr} (s : Sep M a) (h : M.H a ≠ none) : Sep M' a := ⟨s.1.ext e h, fun z => (e.scr a z).elim s.2 h⟩
theorem Ext0.trans (e : Ext0 M M1) (f : Ext0 M1 M2) : Ext0 M M2 where
  len := Nat.le_trans e.len f.len
  same := fun n hn => (f.same n (Nat.lt_of_lt_of_le hn e.len)).trans (e.same n hn)
  fz := fun n x h => f.fz n x (e.fz n x h)
  new := fun n hn l => by
    by_cases h1 : n < M1.A.length
    · rw [f.same n h1]
      exact e.new n hn (f.live h1 l)
    · have h2 := f.new n (by omega) l
      cases q : M.H (M2.m n) with
      | none => rfl
      | some o => exact absurd h2 (e.there _ (by rw [q]; intro z; cases z))
  keep := fun a o h s => f.keep a o (e.keep a o h s) (s.ext e (by rw [h]; intro z; cases z))
  there := fun a h => f.there a (e.there a h)
  scr := fun a h => (f.scr a h).elim (e.scr a) fun z => .inr (by
    cases q : M.H a with
    | none => rfl
    | some o => exact absurd z (e.there a (by rw [q]; intro y; cases y)))
theorem Ext.trans (e : Ext M M1) (f : Ext M1 M2) : Ext M M2 := ⟨e.toExt0.trans f.toExt0, f.sq.trans e.sq, fun a h => (f.ks a (by rw [e.sq]; exact h)).trans (e.ks a h)⟩
theorem Rep.live_kind (R : Rep K T M) {n : Nat} (l : liveAt M.A n) : ∃ o, M.H (M.m n) = some o ∧ (∀ xs, o ≠ .tup xs) ∧ (∀ q u, o ≠ .frz q u) := by
  obtain ⟨o, e, h⟩ := l
  have r := R.at_ n o e
  cases o with
  | frz x => cases h
  | lst ws => obtain ⟨vs, e1, _⟩ := r; exact ⟨_, e1, (fun _ z => by cases z), (fun _ _ z => by cases z)⟩
  | dct ks ws => obtain ⟨vs, e1, _⟩ := r; exact ⟨_, e1, (fun _ z => by cases z), (fun _ _ z => by cases z)⟩
  | ins c fs => obtain ⟨dx, gs, e1, _⟩ := r; exact ⟨_, e1, (fun _ z => by cases z), (fun _ _ z => by cases z)⟩
  | dcn ks ws => obtain ⟨kvs, e1, _⟩ := r; exact ⟨_, e1, (fun _ z => by unfold DN at z; cases z), (fun _ _ z => by unfold DN at z; cases z)⟩
theorem rd_tup {H : Hp} {a : Addr} {xs : List V} (h : Rd H a (.tup xs)) {o : HO} (e : H a = some o) (h1 : ∀ xs, o ≠ .tup xs) (h2 : ∀ q u, o ≠ .frz q u) : False := by
  rcases h with h | ⟨u, h⟩
  · rw [h] at e; cases e; exact h1 xs rfl
  · rw [h] at e; cases e; exact h2 _ _ rfl
theorem Rep.sep_tup (R : Rep K T M) {a : Addr} {xs : List V} (h : Rd M.H a (.tup xs)) : Sep M a := ⟨fun n l q => by
  obtain ⟨o, e, h1, h2⟩ := R.live_kind l
  rw [q] at e
  exact rd_tup h e h1 h2, fun hs => by
  obtain ⟨⟨o, e, h1, h2⟩, _⟩ := R.sc a hs
  exact rd_tup h e h1 h2⟩
theorem Ext0.rd (e : Ext0 M M') {a : Addr} {u : HO} (h : Rd M.H a u) (s : Sep M a) : Rd M'.H a u := by
  rcases h with h | ⟨o, h⟩
  · exact .inl (e.keep _ _ h s)
  · exact .inr ⟨o, e.keep _ _ h s⟩
theorem rd_ne {H : Hp} {a : Addr} {u : HO} (h : Rd H a u) : H a ≠ none := by
  rcases h with h | ⟨o, h⟩ <;> (rw [h]; intro z; cases z)
theorem Ext0.sqT (e : Ext0 M M') (R : Rep K T M) {a : Addr} {xs : List V} (h : SqT K M.H a xs) : SqT K M'.H a xs := by
  rcases h with h | h
  · exact .inl (e.rd h (R.sep_tup h))
  · exact .inr h
theorem Ext0.plT (e : Ext0 M M') (R : Rep K T M) {a : Addr} (h : PlT K M.H a) : PlT K M'.H a := by
  rcases h with ⟨o, vs, h, hd⟩ | h
  · exact .inl ⟨o, vs, e.keep _ _ h (R.sep_tup (.inr ⟨o, h⟩)), hd⟩
  · exact .inr h
theorem Ext0.sqP (e : Ext0 M M') (R : Rep K T M) {ds : List D} {a : Addr} {xs : List V} (h : SqP K M.H ds a xs) : SqP K M'.H ds a xs := ⟨e.sqT R h.1, fun r => e.plT R (h.2 r)⟩
mutual
theorem RV.ext0 (R : Rep K T M) (e : Ext0 M M') : ∀ (d : D) (v : V), RV K T M d v → RV K T M' d v
  | .non, v, h => h
  | .bl b, v, h => h
  | .int i, v, h => h
  | .str s, v, h => h
  | .tup xs, v, h => by
    obtain ⟨a, vs, q, s, r⟩ := h
    exact ⟨a, vs, q, e.sqP R s, RVs.ext0 R e xs vs r⟩
  | .lst xs, v, h => by
    obtain ⟨a, vs, q, s, l, r⟩ := h
    exact ⟨a, vs, q, s.ext e (by rw [l]; intro z; cases z), e.keep _ _ l s, RVs.ext0 R e xs vs r⟩
  | .scr xs, v, h => by
    obtain ⟨a, vs, q, sl, r⟩ := h
    refine ⟨a, vs, q, ?_, RVs.ext0 R e xs vs r⟩
    rcases sl with ⟨s, l⟩ | k
    · exact .inl ⟨s.ext e (rd_ne l), e.rd l s⟩
    · exact .inr k
  | .dct ks xs, v, h => by
    obtain ⟨a, kvs, q, s, l, k, r⟩ := h
    exact ⟨a, kvs, q, s.ext e (by rw [l]; intro z; cases z), e.keep _ _ l s, k, RVs.ext0 R e xs _ r⟩
  | .set _, v, h => h
  | .obj _ _, v, h => h
  | .fn i, v, h => h
theorem RVs.ext0 (R : Rep K T M) (e : Ext0 M M') : ∀ (ds : List D) (vs : List V), RVs K T M ds vs → RVs K T M' ds vs
  | [], vs, h => h
  | x :: xs, vs, h => by
    obtain ⟨v, r, q, h1, h2⟩ := h
    exact ⟨v, r, q, RV.ext0 R e x v h1, RVs.ext0 R e xs r h2⟩
end
theorem RW.ext0 (R : Rep K T M) (e : Ext0 M M') : ∀ {w : W} {v : V}, RW K T M w v → RW K T M' w v
  | .d x, v, h => RV.ext0 R e x v h
  | .ref n, v, h => ⟨Nat.lt_of_lt_of_le h.1 e.len, by rw [e.same n h.1]; exact h.2⟩
theorem RWs.ext0 (R : Rep K T M) (e : Ext0 M M') : ∀ {ws : List W} {vs : List V}, RWs K T M ws vs → RWs K T M' ws vs
  | [], vs, h => h
  | x :: xs, vs, h => by
    obtain ⟨v, r, q, h1, h2⟩ := h
    exact ⟨v, r, q, h1.ext0 R e, RWs.ext0 R e h2⟩
theorem RS.ext0 (R : Rep K T M) (e : Ext0 M M') {ρ : Sl} {σ : L2.St} (h : RS K T M ρ σ) : RS K T M' ρ σ :=
  ⟨h.1, fun i w q => let ⟨v, e1, r⟩ := h.2 i w q; ⟨v, e1, r.ext0 R e⟩⟩
theorem RV.ext (R : Rep K T M) (e : Ext M M') (d : D) (v : V) (h : RV K T M d v) : RV K T M' d v := RV.ext0 R e.toExt0 d v h
theorem RVs.ext (R : Rep K T M) (e : Ext M M') (ds : List D) (vs : List V) (h : RVs K T M ds vs) : RVs K T M' ds vs := RVs.ext0 R e.toExt0 ds vs h
theorem RW.ext (R : Rep K T M) (e : Ext M M') {w : W} {v : V} (h : RW K T M w v) : RW K T M' w v := h.ext0 R e.toExt0
theorem RWs.ext (R : Rep K T M) (e : Ext M M') {ws : List W} {vs : List V} (h : RWs K T M ws vs) : RWs K T M' ws vs := h.ext0 R e.toExt0
theorem RS.ext (R : Rep K T M) (e : Ext M M') {ρ : Sl} {σ : L2.St} (h : RS K T M ρ σ) : RS K T M' ρ σ := h.ext0 R e.toExt0
theorem RVs.length : ∀ {ds : List D} {vs : List V}, RVs K T M ds vs → ds.length = vs.length
  | [], vs, h => by rw [show vs = [] from h]; rfl
  | x :: xs, vs, h => by
    obtain ⟨v, r, q, _, h2⟩ := h
    rw [q, List.length_cons, List.length_cons, RVs.length h2]
theorem RWs.length : ∀ {ds : List W} {vs : List V}, RWs K T M ds vs → ds.length = vs.length
  | [], vs, h => by rw [show vs = [] from h]; rfl
  | x :: xs, vs, h => by
    obtain ⟨v, r, q, _, h2⟩ := h
    rw [q, List.length_cons, List.length_cons, RWs.length h2]
theorem RVs.get : ∀ {ds : List D} {vs : List V} {i : Nat} {d : D}, RVs K T M ds vs → ds[i]? = some d → ∃ v, vs[i]? = some v ∧ RV K T M d v
  | [], vs, _, _, h, e => by simp at e
  | x :: xs, vs, 0, d, h, e => by
    obtain ⟨v, r, rfl, h1, h2⟩ := h
    simp at e; subst e
    exact ⟨v, rfl, h1⟩
  | x :: xs, vs, i + 1, d, h, e => by
    obtain ⟨v, r, rfl, h1, h2⟩ := h
    obtain ⟨u, e1, r1⟩ := RVs.get (i := i) (d := d) h2 (by simpa using e)
    exact ⟨u, by simpa using e1, r1⟩
theorem RVs.get' : ∀ {ds : List D} {vs : List V} {i : Nat} {v : V}, RVs K T M ds vs → vs[i]? = some v → ∃ d, ds[i]? = some d ∧ RV K T M d v := fun {ds vs i v} h e => by
  have hl := h.length
  have hi : i < ds.length := by rw [hl]; exact (List.getElem?_eq_some_iff.mp e).1
  obtain ⟨u, e1, r1⟩ := h.get (List.getElem?_eq_getElem hi)
  rw [e] at e1; cases e1
  exact ⟨_, List.getElem?_eq_getElem hi, r1⟩
theorem RVs.append : ∀ {ds es : List D} {vs us : List V}, RVs K T M ds vs → RVs K T M es us → RVs K T M (ds ++ es) (vs ++ us)
  | [], es, vs, us, h, h' => by rw [show vs = [] from h]; exact h'
  | x :: xs, es, vs, us, h, h' => by
    obtain ⟨v, r, rfl, h1, h2⟩ := h
    exact ⟨v, r ++ us, rfl, h1, RVs.append h2 h'⟩
theorem RVs.drop : ∀ (n : Nat) {ds : List D} {vs : List V}, RVs K T M ds vs → RVs K T M (ds.drop n) (vs.drop n)
  | 0, ds, vs, h => h
  | n + 1, [], vs, h => by rw [show vs = [] from h]; exact rfl
  | n + 1, x :: xs, vs, h => by
    obtain ⟨v, r, rfl, h1, h2⟩ := h
    exact RVs.drop n h2
theorem RVs.take : ∀ (n : Nat) {ds : List D} {vs : List V}, RVs K T M ds vs → RVs K T M (ds.take n) (vs.take n)
  | 0, ds, vs, h => by rw [List.take_zero, List.take_zero]; exact rfl
  | n + 1, [], vs, h => by rw [show vs = [] from h]; exact rfl
  | n + 1, x :: xs, vs, h => by
    obtain ⟨v, r, rfl, h1, h2⟩ := h
    exact ⟨v, r.take n, rfl, h1, RVs.take n h2⟩
theorem RWs.ofD : ∀ {ds : List D} {vs : List V}, RVs K T M ds vs → RWs K T M (ds.map .d) vs
  | [], vs, h => h
  | x :: xs, vs, h => by
    obtain ⟨v, r, rfl, h1, h2⟩ := h
    exact ⟨v, r, rfl, h1, RWs.ofD h2⟩
theorem RWs.toD : ∀ {ws : List W} {ds : List D} {vs : List V}, allD ws = some ds → RWs K T M ws vs → RVs K T M ds vs
  | [], ds, vs, e, h => by
    cases e
    exact h
  | .d x :: xs, ds, vs, e, h => by
    obtain ⟨v, r, rfl, h1, h2⟩ := h
    unfold allD at e
    cases q : allD xs with
    | none => rw [q] at e; cases e
    | some ys =>
      rw [q] at e
      cases e
      exact ⟨v, r, rfl, h1, RWs.toD q h2⟩
  | .ref _ :: xs, ds, vs, e, h => by cases e
theorem RWs.append : ∀ {ds es : List W} {vs us : List V}, RWs K T M ds vs → RWs K T M es us → RWs K T M (ds ++ es) (vs ++ us)
  | [], es, vs, us, h, h' => by rw [show vs = [] from h]; exact h'
  | x :: xs, es, vs, us, h, h' => by
    obtain ⟨v, r, rfl, h1, h2⟩ := h
    exact ⟨v, r ++ us, rfl, h1, RWs.append h2 h'⟩
end

/-! ### the wish behind a run -/
section
variable (K : PySem.W.Frag) (T : Tb)
def post {α : Type} (M : Mem) (B : Hs) (r : Res α) (Q : α → Hs → Mem → Prop) : Prop := match r with
  | .ok a L' => ∀ M', M'.A = B ++ L' → Rep K T M' → Ext M M' → Q a L' M'
  | .exc _ _ _ => False
  | .bad => False
/-- at the point: a heap that is told, slots that are told -/
structure Pt (M : Mem) (B L : Hs) (ρ : Sl) (σ : L2.St) (H : Hp) : Prop where
  eH : M.H = H
  eA : M.A = B ++ L
  rep : Rep K T M
  rs : RS K T M ρ σ
def rE (f : SE) : TE := fun σ H Q => ∃ M B L ρ, Pt K T M B L ρ σ H ∧ post K T M B (f B ρ L) fun w _ M' => ∀ v, RW K T M' w v → Q v M'.H
def rT (f : ST) : TT := fun σ H Q => ∃ M B L ρ, Pt K T M B L ρ σ H ∧ post K T M B (f B ρ L) fun k _ M' => Q k M'.H
def rA (f : SA) : TA := fun σ H Q => ∃ M B L ρ, Pt K T M B L ρ σ H ∧ post K T M B (f B ρ L) fun ws _ M' => ∀ vs, RWs K T M' ws vs → Q vs M'.H
def postS (M : Mem) (B : Hs) (r : SR) (Dn : Ends) : Prop := match r with
  | .next ρ' L' => ∀ M' σ', M'.A = B ++ L' → Rep K T M' → Ext M M' → RS K T M' ρ' σ' → Dn.nx σ' M'.H
  | .brk ρ' L' => ∀ M' σ', M'.A = B ++ L' → Rep K T M' → Ext M M' → RS K T M' ρ' σ' → Dn.bk σ' M'.H
  | .cnt ρ' L' => ∀ M' σ', M'.A = B ++ L' → Rep K T M' → Ext M M' → RS K T M' ρ' σ' → Dn.ct σ' M'.H
  | .ret w L' => ∀ M' v, M'.A = B ++ L' → Rep K T M' → Ext M M' → RW K T M' w v → Dn.rt v M'.H
  | .exc _ _ _ _ => False
  | .bad => False
def rS (f : SS) : TS := fun Dn σ H => ∃ M B L ρ, Pt K T M B L ρ σ H ∧ postS K T M B (f B ρ L) Dn
end
section
variable {K : PySem.W.Frag} {T : Tb} {M M1 : Mem} {B L : Hs}
theorem post.later {α : Type} {r : Res α} {Q : α → Hs → Mem → Prop} (h : post K T M B r Q) (e : Ext M M1) : post K T M1 B r Q := by
  cases r with
  | ok a L' => exact fun M' eA R x => h M' eA R (e.trans x)
  | exc _ _ _ => exact h
  | bad => exact h
theorem post.mono {α : Type} {r : Res α} {Q Q' : α → Hs → Mem → Prop} (h : post K T M B r Q) (f : ∀ a L' M', M'.A = B ++ L' → Rep K T M' → Ext M M' → Q a L' M' → Q' a L' M') : post K T M B r Q' := by
  cases r with
  | ok a L' => exact fun M' eA R x => f a L' M' eA R x (h M' eA R x)
  | exc _ _ _ => exact h
  | bad => exact h
theorem post.bind {α β : Type} {r : Res α} {k : α → Hs → Res β} {Q : β → Hs → Mem → Prop} (h : post K T M B (r.bind k) Q) : post K T M B r fun a L1 M1 => post K T M1 B (k a L1) Q := by
  cases r with
  | ok a L' => exact fun M' eA R x => post.later h x
  | exc _ _ _ => exact h
  | bad => exact h
theorem postS.later {r : SR} {Dn : Ends} (h : postS K T M B r Dn) (e : Ext M M1) : postS K T M1 B r Dn := by
  cases r with
  | next ρ' L' => exact fun M' σ' eA R x rs => h M' σ' eA R (e.trans x) rs
  | brk ρ' L' => exact fun M' σ' eA R x rs => h M' σ' eA R (e.trans x) rs
  | cnt ρ' L' => exact fun M' σ' eA R x rs => h M' σ' eA R (e.trans x) rs
  | ret w L' => exact fun M' v eA R x rs => h M' v eA R (e.trans x) rs
  | exc _ _ _ _ => exact h
  | bad => exact h
theorem post.st {α : Type} {r : Res α} {ρ : Sl} {k : α → Hs → SR} {Dn : Ends} (h : postS K T M B (r.st ρ k) Dn) : post K T M B r fun a L1 M1 => postS K T M1 B (k a L1) Dn := by
  cases r with
  | ok a L' => exact fun M' eA R x => postS.later h x
  | exc _ _ _ => exact h
  | bad => exact h
theorem Pt.next {ρ : Sl} {σ : L2.St} {H : Hp} {L1 : Hs} (p : Pt K T M B L ρ σ H) (eA : M1.A = B ++ L1) (R : Rep K T M1) (e : Ext M M1) : Pt K T M1 B L1 ρ σ M1.H := ⟨rfl, eA, R, p.rs.ext p.rep e⟩
end

/-! ### judgements -/
abbrev JE (X : Cx) (T : Tb) (e : Expr) (f : SE) : Prop := PE X e (rE X.K T f)
abbrev JT (X : Cx) (T : Tb) (e : Expr) (f : ST) : Prop := PT X e (rT X.K T f)
abbrev JW (X : Cx) (T : Tb) (e : Expr) (f : ST) : Prop := PW X e (rT X.K T f)
abbrev JA (X : Cx) (T : Tb) (es : List Expr) (f : SA) : Prop := PA X es (rA X.K T f)
abbrev JS (X : Cx) (T : Tb) (st : Stmt) (f : SS) : Prop := PS X st (rS X.K T f)
abbrev JSs (X : Cx) (T : Tb) (sts : List Stmt) (f : SS) : Prop := PSs X sts (rS X.K T f)
/-- weaker readings -/
theorem PE.weak {X : Cx} {e : Expr} {t u : TE} (h : PE X e t) (w : ∀ σ H Q, u σ H Q → t σ H Q) : PE X e u := ⟨fun pins s σ H Q I q => h.run pins s σ H Q I (w σ H Q q)⟩
theorem PT.weak {X : Cx} {e : Expr} {t u : TT} (h : PT X e t) (w : ∀ σ H Q, u σ H Q → t σ H Q) : PT X e u := ⟨fun pins s σ H Q I q => h.run pins s σ H Q I (w σ H Q q)⟩
theorem PW.weak {X : Cx} {e : Expr} {t u : TT} (h : PW X e t) (w : ∀ σ H Q, u σ H Q → t σ H Q) : PW X e u := ⟨fun wh pins s σ H Q I q => h.run wh pins s σ H Q I (w σ H Q q)⟩
theorem PA.weak {X : Cx} {es : List Expr} {t u : TA} (h : PA X es t) (w : ∀ σ H Q, u σ H Q → t σ H Q) : PA X es u := ⟨fun pos pins s σ H Q I q => h.run pos pins s σ H Q I (w σ H Q q)⟩
theorem PS.weak {X : Cx} {e : Stmt} {t u : TS} (h : PS X e t) (w : ∀ D σ H, u D σ H → t D σ H) : PS X e u := ⟨fun pins s σ H D I q => h.run pins s σ H D I (w D σ H q)⟩
theorem PSs.weak {X : Cx} {e : List Stmt} {t u : TS} (h : PSs X e t) (w : ∀ D σ H, u D σ H → t D σ H) : PSs X e u := ⟨fun pins s σ H D I q => h.run pins s σ H D I (w D σ H q)⟩

section
variable {X : Cx} {T : Tb}
/-- an expression's reading from its post -/
theorem rE.of {K : PySem.W.Frag} {f : SE} {σ : L2.St} {H : Hp} {Q : VK} {M : Mem} {B L : Hs} {ρ : Sl} (p : Pt K T M B L ρ σ H) {R : W → Hs → Mem → Prop} (h : post K T M B (f B ρ L) R) (k : ∀ w L' M', M'.A = B ++ L' → Rep K T M' → Ext M M' → R w L' M' → ∀ v, RW K T M' w v → Q v M'.H) : rE K T f σ H Q :=
  ⟨M, B, L, ρ, p, h.mono fun w L' M' eA Rp x r v rv => k w L' M' eA Rp x r v rv⟩
theorem je_var {i : Nat} {x : Str} {pos : Pos} (hN : X.N[i]? = some x := by rfl) (hv : Vis X.env.scope x := by first | exact Or.inl rfl | exact Or.inr (Or.inl rfl) | exact Or.inr (Or.inr rfl)) (hd : (x == ("__debug__" : Str)) = false := by decide)
    (hcd : (x == ("__classdict__" : Str)) = false := by decide) : JE X T (.Name x pos) (eVar i) := by
  refine PE.weak (pe_var hN hv hd hcd) fun σ H Q h => ?_
  obtain ⟨M, B, L, ρ, p, h⟩ := h
  unfold eVar at h
  split at h
  · rename_i w e
    obtain ⟨v, e1, r⟩ := p.rs.2 i w e
    refine ⟨v, e1, ?_⟩
    have := h M p.eA p.rep (Ext.refl M) v r
    rw [p.eH] at this
    exact this
  · exact h.elim
theorem je_c {e : Expr} {v : V} {d : D} (h : PE X e (tC v)) (r : ∀ M, Rep X.K T M → RV X.K T M d v) : JE X T e (eC d) := by
  refine PE.weak h fun σ H Q h => ?_
  obtain ⟨M, B, L, ρ, p, h⟩ := h
  have := h M p.eA p.rep (Ext.refl M) v (r M p.rep)
  rw [p.eH] at this
  exact this
theorem je_int {i : Int} {j pos} : JE X T (.Constant (.int i) j pos) (eC (.int i)) := je_c pe_int fun _ _ => rfl
theorem je_bl {b : Bool} {j pos} : JE X T (.Constant (.bool b) j pos) (eC (.bl b)) := je_c pe_bl fun _ _ => rfl
theorem je_non {j pos} : JE X T (.Constant .none j pos) (eC .non) := je_c pe_non fun _ _ => rfl
theorem je_str {x : Str} {s : List Nat} {j pos} (hs : x = ⟨s.toArray⟩ := by decide) : JE X T (.Constant (.str x) j pos) (eC (.str s)) := je_c pe_str fun _ _ => by rw [hs]; exact rfl
end
end Ev

set_option Elab.async false
set_option linter.all false
set_option maxRecDepth 100000
set_option maxHeartbeats 1000000
set_option autoImplicit false
/-! EvC: views, frozen places, calls of defs, statements, loops. -/
namespace Ev
open PySem PySem.Spec PyProof.Rows L2

/-! ### the data that a value is at a moment -/
def DV (K : PySem.W.Frag) (T : Tb) (M : Mem) (p : D) (x : V) : Prop := RV K T M p x ∨ (∃ xs a vs, p = .lst xs ∧ x = .ref a ∧ M.H a = some (.lst vs) ∧ RVs K T M xs vs) ∨
  (∃ ks xs a kvs, p = .dct ks xs ∧ x = .ref a ∧ M.H a = some (.dK kvs) ∧ ks.map keyD = kvs.map (fun p => some p.1) ∧ RVs K T M xs (kvs.map (·.2)))
def DVs (K : PySem.W.Frag) (T : Tb) (M : Mem) : List D → List V → Prop
  | [], vs => vs = []
  | x :: xs, vs => ∃ v r, vs = v :: r ∧ DV K T M x v ∧ DVs K T M xs r
section
variable {K : PySem.W.Frag} {T : Tb} {M M1 M2 M' : Mem} {B L : Hs}
theorem RV.dv {p : D} {x : V} (h : RV K T M p x) : DV K T M p x := .inl h
theorem vw_dv (R : Rep K T M) (eA : M.A = B ++ L) {w : W} {v : V} {p : D} (h : vw B L w = some p) (r : RW K T M w v) : DV K T M p v := by
  cases w with
  | d x =>
    have e : x = p := Option.some.inj h
    subst e
    exact .inl r
  | ref n =>
    obtain ⟨hn, rfl⟩ := r
    unfold vw look at h
    rw [← eA] at h
    dsimp only at h
    split at h
    · rename_i x e
      have q := R.at_ n _ e
      cases h
      exact .inl q
    · rename_i ws e
      obtain ⟨vs, q, rw⟩ := R.at_ n _ e
      cases ea : allD ws with
      | none => rw [ea] at h; cases h
      | some xs =>
        rw [ea] at h
        cases h
        exact .inr (.inl ⟨xs, _, vs, rfl, rfl, q, RWs.toD ea rw⟩)
    · rename_i ks ws e
      obtain ⟨kvs, q, kk, rw⟩ := R.at_ n _ e
      cases ea : allD ws with
      | none => rw [ea] at h; cases h
      | some xs =>
        rw [ea] at h
        cases h
        exact .inr (.inr ⟨ks, xs, _, kvs, rfl, rfl, q, kk, RWs.toD ea rw⟩)
    · cases h
/-- a frozen place -/
theorem sep_of (R : Rep K T M) {n : Nat} {x : D} {A' : Hs} (hA : A' = M.A.set n (.frz x)) (hl : liveAt M.A n) : Sep { M with A := A' } (M.m n) := ⟨fun k l q => by
  have lk : liveAt M.A k ∧ k ≠ n := by
    obtain ⟨o, e, h⟩ := l
    rw [hA] at e
    by_cases hk : n = k
    · subst hk
      rw [List.getElem?_set_self' ] at e
      cases z : M.A[n]? with
      | none => rw [z] at e; cases e
      | some o' => rw [z] at e; cases e; cases h
    · rw [List.getElem?_set_ne hk] at e
      exact ⟨⟨o, e, h⟩, fun z => hk z.symm⟩
  exact lk.2 (R.inj k n lk.1 hl q), fun hs => (R.sc _ hs).2 n hl rfl⟩
theorem sep_less {A' : Hs} (hA : ∀ n, liveAt A' n → liveAt M.A n) {a : Addr} (s : Sep M a) : Sep { M with A := A' } a := ⟨fun n l q => s.1 n (hA n l) q, s.2⟩
mutual
theorem RV.less {A' : Hs} {H : Hp} {m : Nat → Addr} (hA : ∀ n, liveAt A' n → liveAt M.A n) : ∀ (d : D) (v : V), RV K T M d v → RV K T { M with A := A' } d v
  | .non, v, h => h
  | .bl b, v, h => h
  | .int i, v, h => h
  | .str s, v, h => h
  | .tup xs, v, h => by
    obtain ⟨a, vs, q, s, r⟩ := h
    exact ⟨a, vs, q, s, RVs.less (H := H) (m := m) hA xs vs r⟩
  | .lst xs, v, h => by
    obtain ⟨a, vs, q, s, l, r⟩ := h
    exact ⟨a, vs, q, sep_less hA s, l, RVs.less (H := H) (m := m) hA xs vs r⟩
  | .scr xs, v, h => by
    obtain ⟨a, vs, q, s, r⟩ := h
    refine ⟨a, vs, q, ?_, RVs.less (H := H) (m := m) hA xs vs r⟩
    rcases s with ⟨s, l⟩ | k
    · exact .inl ⟨sep_less hA s, l⟩
    · exact .inr k
  | .dct ks xs, v, h => by
    obtain ⟨a, kvs, q, s, l, k, r⟩ := h
    exact ⟨a, kvs, q, sep_less hA s, l, k, RVs.less (H := H) (m := m) hA xs _ r⟩
  | .set _, v, h => h
  | .obj _ _, v, h => h
  | .fn i, v, h => h
theorem RVs.less {A' : Hs} {H : Hp} {m : Nat → Addr} (hA : ∀ n, liveAt A' n → liveAt M.A n) : ∀ (ds : List D) (vs : List V), RVs K T M ds vs → RVs K T { M with A := A' } ds vs
  | [], vs, h => h
  | x :: xs, vs, h => by
    obtain ⟨v, r, q, h1, h2⟩ := h
    exact ⟨v, r, q, RV.less (H := H) (m := m) hA x v h1, RVs.less (H := H) (m := m) hA xs r h2⟩
end
theorem live_set {A : Hs} {n k : Nat} {x : D} (l : liveAt (A.set n (.frz x)) k) : liveAt A k := by
  obtain ⟨o, e, h⟩ := l
  by_cases hk : n = k
  · subst hk
    rw [List.getElem?_set_self'] at e
    cases z : A[n]? with
    | none => rw [z] at e; cases e
    | some o' => rw [z] at e; cases e; cases h
  · rw [List.getElem?_set_ne hk] at e
    exact ⟨o, e, h⟩
theorem RW.set {n : Nat} {x : D} : ∀ {w : W} {v : V}, RW K T M w v → RW K T { M with A := M.A.set n (.frz x) } w v
  | .d y, v, h => RV.less (H := M.H) (m := M.m) (fun _ l => live_set l) y v h
  | .ref k, v, h => ⟨by rw [List.length_set]; exact h.1, h.2⟩
theorem RWs.set {n : Nat} {x : D} : ∀ {ws : List W} {vs : List V}, RWs K T M ws vs → RWs K T { M with A := M.A.set n (.frz x) } ws vs
  | [], vs, h => h
  | w :: ws, vs, h => by
    obtain ⟨v, r, q, h1, h2⟩ := h
    exact ⟨v, r, q, h1.set, RWs.set h2⟩
/-- freezing -/
theorem freeze (R : Rep K T M) {n : Nat} {x : D} (hl : liveAt M.A n) (hx : RV K T { M with A := M.A.set n (.frz x) } x (.ref (M.m n))) : Rep K T { M with A := M.A.set n (.frz x) } ∧ Ext M { M with A := M.A.set n (.frz x) } := by
  have hn : n < M.A.length := let ⟨o, e, _⟩ := hl; (List.getElem?_eq_some_iff.mp e).1
  refine ⟨⟨fun i j li lj q => R.inj i j (live_set li) (live_set lj) q, fun k o e => ?_, fun a ha => ⟨(R.sc a ha).1, fun k l => (R.sc a ha).2 k (live_set l)⟩⟩, ⟨⟨by rw [List.length_set]; exact Nat.le_refl _, fun _ _ => rfl, fun k y e => ?_, fun k hk l => ?_, fun _ _ h _ => h, fun _ h => h, fun _ h => .inl h⟩, rfl, fun _ _ => rfl⟩⟩
  · have e' : (M.A.set n (.frz x))[k]? = some o := e
    by_cases hk : n = k
    · subst hk
      rw [List.getElem?_set_self hn] at e'
      cases e'
      exact hx
    · rw [List.getElem?_set_ne hk] at e'
      have r := R.at_ k o e'
      cases o with
      | frz y => exact RV.less (H := M.H) (m := M.m) (fun _ l => live_set l) y _ r
      | lst ws => obtain ⟨vs, h1, h2⟩ := r; exact ⟨vs, h1, h2.set⟩
      | dct ks ws => obtain ⟨kvs, h1, h2, h3⟩ := r; exact ⟨kvs, h1, h2, h3.set⟩
      | ins c fs => obtain ⟨dx, gs, h1, h2, h3⟩ := r; exact ⟨dx, gs, h1, h2, h3.set⟩
      | dcn ks ws => obtain ⟨kvs, h1, h2, h3, h4, h5⟩ := r; exact ⟨kvs, h1, h2, h3, RVs.less (H := M.H) (m := M.m) (fun _ l => live_set l) _ _ h4, h5.set⟩
  · show (M.A.set n (.frz x))[k]? = _
    by_cases hk : n = k
    · subst hk
      obtain ⟨o, e1, e2⟩ := hl
      rw [e] at e1
      cases e1
      cases e2
    · rw [List.getElem?_set_ne hk]
      exact e
  · obtain ⟨o, e, _⟩ := live_set l
    exact absurd (List.getElem?_eq_some_iff.mp e).1 (by omega)
theorem own_ok (R : Rep K T M) (eA : M.A = B ++ L) {w : W} {v : V} {x : D} {L1 : Hs} (h : own B L w = some (x, L1)) (r : RW K T M w v) :
    ∃ M', M'.A = B ++ L1 ∧ M'.H = M.H ∧ Rep K T M' ∧ Ext M M' ∧ RV K T M' x v := by
  cases w with
  | d y =>
    have e : (y, L) = (x, L1) := Option.some.inj h
    cases e
    exact ⟨M, eA, rfl, R, Ext.refl M, r⟩
  | ref n =>
    obtain ⟨hn, rfl⟩ := r
    unfold own look at h
    rw [← eA] at h
    dsimp only at h
    have fzn : ∀ y : D, ¬ n < B.length → { M with A := M.A.set n (.frz y) }.A = B ++ L.set (n - B.length) (.frz y) := fun y hb => by
      show M.A.set n (.frz y) = _
      rw [eA, List.set_append_right _ _ (by omega)]
    split at h
    · rename_i y e
      have q := R.at_ n _ e
      cases h
      exact ⟨M, eA, rfl, R, Ext.refl M, q⟩
    · rename_i ws e
      split at h
      · cases h
      · rename_i hb
        obtain ⟨vs, q, rw⟩ := R.at_ n _ e
        split at h
        · rename_i xs ea
          cases h
          have hx : RV K T { M with A := M.A.set n (.frz (.lst xs)) } (.lst xs) (.ref (M.m n)) :=
            ⟨M.m n, vs, rfl, sep_of R rfl ⟨_, e, rfl⟩, q, RVs.less (H := M.H) (m := M.m) (fun _ l => live_set l) xs vs (RWs.toD ea rw)⟩
          obtain ⟨R', E'⟩ := freeze R ⟨_, e, rfl⟩ hx
          exact ⟨_, fzn _ hb, rfl, R', E', hx⟩
        · cases h
    · rename_i ks ws e
      split at h
      · cases h
      · rename_i hb
        obtain ⟨kvs, q, kk, rw⟩ := R.at_ n _ e
        split at h
        · rename_i xs ea
          cases h
          have hx : RV K T { M with A := M.A.set n (.frz (.dct ks xs)) } (.dct ks xs) (.ref (M.m n)) :=
            ⟨M.m n, kvs, rfl, sep_of R rfl ⟨_, e, rfl⟩, q, kk, RVs.less (H := M.H) (m := M.m) (fun _ l => live_set l) xs _ (RWs.toD ea rw)⟩
          obtain ⟨R', E'⟩ := freeze R ⟨_, e, rfl⟩ hx
          exact ⟨_, fzn _ hb, rfl, R', E', hx⟩
        · cases h
    · cases h
theorem ownAll_ok : ∀ {ws : List W} {vs : List V} {xs : List D} {L L1 : Hs} {M : Mem}, Rep K T M → M.A = B ++ L → ownAll B L ws = some (xs, L1) → RWs K T M ws vs →
    ∃ M', M'.A = B ++ L1 ∧ M'.H = M.H ∧ Rep K T M' ∧ Ext M M' ∧ RVs K T M' xs vs
  | [], vs, xs, L, L1, M, R, eA, h, r => by
    cases h
    exact ⟨M, eA, rfl, R, Ext.refl M, r⟩
  | w :: ws, vs, xs, L, L1, M, R, eA, h, r => by
    obtain ⟨v, vr, rfl, r1, r2⟩ := r
    unfold ownAll at h
    split at h
    · rename_i x L2 e1
      split at h
      · rename_i ys L3 e2
        cases h
        obtain ⟨M1, a1, h1, R1, E1, x1⟩ := own_ok R eA e1 r1
        obtain ⟨M2, a2, h2, R2, E2, x2⟩ := ownAll_ok R1 a1 e2 (r2.ext R E1)
        exact ⟨M2, a2, h2.trans h1, R2, E1.trans E2, v, vr, rfl, RV.ext R1 E2 x v x1, x2⟩
      · cases h
    · cases h
/-- an object more that no place names -/
theorem garb (R : Rep K T M) {p : Addr} {o : HO} (hp : M.H p = none) : Rep K T { M with H := upd M.H p o } ∧ Ext M { M with H := upd M.H p o } := by
  have e : Ext M { M with H := upd M.H p o } := ⟨⟨Nat.le_refl _, fun _ _ => rfl, fun _ _ h => h, fun n h ⟨o, e, _⟩ => absurd (List.getElem?_eq_some_iff.mp e).1 (Nat.not_lt.mpr h),
    fun a u h _ => (upd_ne (ne_of_none h hp)).trans h, fun a h => by
      show upd M.H p o a ≠ none
      unfold upd
      split
      · intro z; cases z
      · exact h, fun _ h => .inl h⟩, rfl, fun a ha => by
      obtain ⟨⟨u, h1, _⟩, _⟩ := R.sc a ha
      exact upd_ne (ne_of_none h1 hp)⟩
  refine ⟨⟨R.inj, fun n ob q => ?_, fun a ha => ⟨?_, (R.sc a ha).2⟩⟩, e⟩
  rotate_left
  · obtain ⟨⟨u, h1, h2⟩, _⟩ := R.sc a ha
    exact ⟨u, (upd_ne (ne_of_none h1 hp)).trans h1, h2⟩
  have r := R.at_ n ob q
  cases ob with
  | frz x => exact RV.ext R e x _ r
  | lst ws => obtain ⟨vs, h1, h2⟩ := r; exact ⟨vs, (upd_ne (ne_of_none h1 hp)).trans h1, h2.ext R e⟩
  | dct ks ws => obtain ⟨kvs, h1, h2, h3⟩ := r; exact ⟨kvs, (upd_ne (ne_of_none h1 hp)).trans h1, h2, h3.ext R e⟩
  | ins c fs => obtain ⟨dx, gs, h1, h2, h3⟩ := r; exact ⟨dx, gs, (upd_ne (ne_of_none h1 hp)).trans h1, h2, h3.ext R e⟩
  | dcn ks ws => obtain ⟨kvs, h1, h2, h3, h4, h5⟩ := r; exact ⟨kvs, (upd_ne (ne_of_none h1 hp)).trans h1, h2, h3, RVs.ext R e _ _ h4, h5.ext R e⟩
/-- it stands apart from all places -/
theorem sep_new (R : Rep K T M) {p : Addr} {o : HO} (hp : M.H p = none) : Sep { M with H := upd M.H p o } p := by
  refine ⟨fun n l q => ?_, fun hs => ?_⟩
  · obtain ⟨u, e, _⟩ := R.live_kind l
    have q' : M.m n = p := q
    rw [q', hp] at e
    cases e
  · obtain ⟨⟨u, e, _⟩, _⟩ := R.sc p hs
    rw [hp] at e
    cases e
end

/-! ### what a post says of the small steps -/
section
variable {K : PySem.W.Frag} {T : Tb} {M : Mem} {B L : Hs} {β : Type} {Q : β → Hs → Mem → Prop}
theorem post.opt {α : Type} {o : Option α} {k : α → Hs → Res β} (h : post K T M B ((ofOpt o L).bind k) Q) : ∃ z, o = some z ∧ post K T M B (k z L) Q := by
  cases o with
  | none => exact h.elim
  | some z => exact ⟨z, rfl, h⟩
theorem post.opt1 {α : Type} {o : Option α} {Q : α → Hs → Mem → Prop} (h : post K T M B (ofOpt o L) Q) : ∃ z, o = some z ∧ post K T M B (.ok z L) Q := by
  cases o with
  | none => exact h.elim
  | some z => exact ⟨z, rfl, h⟩
theorem post.guard {c : Bool} {k : Unit → Hs → Res β} (h : post K T M B ((guardR c L).bind k) Q) : c = true ∧ post K T M B (k () L) Q := by
  cases c with
  | false => exact h.elim
  | true => exact ⟨rfl, h⟩
theorem post.view {w : W} {v : V} {k : D → Hs → Res β} (h : post K T M B ((vwR B L w).bind k) Q) (R : Rep K T M) (eA : M.A = B ++ L) (r : RW K T M w v) : ∃ p, vw B L w = some p ∧ DV K T M p v ∧ post K T M B (k p L) Q := by
  obtain ⟨p, e, q⟩ := post.opt h
  exact ⟨p, e, vw_dv R eA e r, q⟩
theorem post.own {w : W} {v : V} {k : D → Hs → Res β} (h : post K T M B ((ownR B L w).bind k) Q) (R : Rep K T M) (eA : M.A = B ++ L) (r : RW K T M w v) :
    ∃ x L1 M1, M1.A = B ++ L1 ∧ M1.H = M.H ∧ Rep K T M1 ∧ Ext M M1 ∧ RV K T M1 x v ∧ post K T M1 B (k x L1) Q := by
  unfold ownR at h
  cases e : Ev.own B L w with
  | none => rw [e] at h; exact h.elim
  | some y =>
    obtain ⟨x, L1⟩ := y
    rw [e] at h
    obtain ⟨M1, a, hh, R1, E1, rx⟩ := own_ok R eA e r
    exact ⟨x, L1, M1, a, hh, R1, E1, rx, post.later h E1⟩
theorem post.owns {ws : List W} {vs : List V} {k : List D → Hs → Res β} (h : post K T M B ((ownsR B L ws).bind k) Q) (R : Rep K T M) (eA : M.A = B ++ L) (r : RWs K T M ws vs) :
    ∃ xs L1 M1, M1.A = B ++ L1 ∧ M1.H = M.H ∧ Rep K T M1 ∧ Ext M M1 ∧ RVs K T M1 xs vs ∧ post K T M1 B (k xs L1) Q := by
  unfold ownsR at h
  cases e : ownAll B L ws with
  | none => rw [e] at h; exact h.elim
  | some y =>
    obtain ⟨x, L1⟩ := y
    rw [e] at h
    obtain ⟨M1, a, hh, R1, E1, rx⟩ := ownAll_ok R eA e r
    exact ⟨x, L1, M1, a, hh, R1, E1, rx, post.later h E1⟩
/-- the end of a run -/
theorem post.here {a : β} (h : post K T M B (.ok a L) Q) (eA : M.A = B ++ L) (R : Rep K T M) : Q a L M := h M eA R (Ext.refl M)
end
/-- a sequence that is read -/
theorem seq_dv {K : PySem.W.Frag} {T : Tb} {M : Mem} {p : D} {v : V} {ys : List D} (h : seqD p = some ys) (d : DV K T M p v) : ∃ a vs, v = .ref a ∧ (SqT K M.H a vs ∨ SqL K M.H a vs) ∧ RVs K T M ys vs := by
  cases p with
  | tup xs =>
    cases h
    rcases d with ⟨a, vs, e1, e2, e3⟩ | ⟨xs, _, _, e, _⟩ | ⟨_, _, _, _, e, _⟩
    · exact ⟨a, vs, e1, .inl e2.1, e3⟩
    · cases e
    · cases e
  | lst xs =>
    cases h
    rcases d with ⟨a, vs, e1, _, e2, e3⟩ | ⟨xs, a, vs, e, e1, e2, e3⟩ | ⟨_, _, _, _, e, _⟩
    · exact ⟨a, vs, e1, .inr (.inl (.inl e2)), e3⟩
    · cases e
      exact ⟨a, vs, e1, .inr (.inl (.inl e2)), e3⟩
    · cases e
  | _ => cases h

/-! ### argument lists -/
section
variable {X : Cx} {T : Tb}
theorem ja_nil : JA X T [] aNil := PA.weak pa_nil fun σ H Q h => by
  obtain ⟨M, B, L, ρ, p, h⟩ := h
  have := h M p.eA p.rep (Ext.refl M) [] rfl
  rw [p.eH] at this
  exact this
theorem ja_cons {e : Expr} {es : List Expr} {f : SE} {g : SA} (ha : JE X T e f) (hr : JA X T es g) (hs : starEach (e :: es) X.env = (false, eval e X.env) :: starEach es X.env := by rfl) : JA X T (e :: es) (aCons f g) :=
  PA.weak (pa_cons ha hr hs) fun σ H Q h => by
    obtain ⟨M, B, L, ρ, p, h⟩ := h
    refine ⟨M, B, L, ρ, p, (post.bind h).mono fun w L1 M1 eA R x q v rv => ?_⟩
    refine ⟨M1, B, L1, ρ, p.next eA R x, (post.bind q).mono fun ws L2 M2 eA2 R2 x2 q2 vs rvs => ?_⟩
    exact q2.here eA2 R2 (v :: vs) ⟨v, vs, rfl, rv.ext R x2, rvs⟩
theorem ja_star {e : Expr} {p : Pos} {es : List Expr} {f : SE} {g : SA} (ha : JE X T e f) (hr : JA X T es g) (hs : starEach (.Starred e p :: es) X.env = (true, eval e X.env) :: starEach es X.env := by rfl) : JA X T (.Starred e p :: es) (aStar f g) :=
  PA.weak (StX.pa_star ha hr hs) fun σ H Q h => by
    obtain ⟨M, B, L, ρ, p, h⟩ := h
    refine ⟨M, B, L, ρ, p, (post.bind h).mono fun w L1 M1 eA R x q v rv => ?_⟩
    obtain ⟨pd, ev, dv, q⟩ := q.view R eA rv
    obtain ⟨ys, es, q⟩ := q.opt
    obtain ⟨a, vs, e1, e2, e3⟩ := seq_dv es dv
    refine ⟨a, vs, e1, e2, M1, B, L1, ρ, p.next eA R x, (post.bind q).mono fun ws L2 M2 eA2 R2 x2 q2 us rus => ?_⟩
    exact q2.here eA2 R2 (vs ++ us) ((RWs.ofD (RVs.ext R x2 ys vs e3)).append rus)

/-! ### displays -/
theorem sizeL_eq : sizeL = sizeLine := by rw [sizeLine_eq]; rfl
theorem pe_tupF {es : List Expr} {t : TA} {x1 : Nat} {pos : Pos} (h : PA X es t) : PE X (.Tuple es x1 pos) (fun σ H Q => t σ H fun xs H1 => xs.length ≤ sizeLine ∧ ∀ (p : Addr) (o : Obj), H1 p = none → o.dict = none → Q (.ref p) (upd H1 p (.frz o (.tup xs)))) := by
  refine ⟨fun pins s σ H Q I hq => ?_⟩
  refine wpAny_Tuple_spliced (thn (h.run pos pins s σ H _ I hq) fun us s1 ⟨xs, H1, I1, r, z, q⟩ => ⟨by rw [← r.length]; exact z, ?_⟩)
  have hf : H1 s1.heap.objs.size = none := I1.hok.fresh (Nat.le_refl _)
  refine ⟨.ref s1.heap.objs.size, upd H1 s1.heap.objs.size (.frz _ (.tup xs)), I1.laid (t' := s1.toks) (fun b u e => Heap.get?_push_of_some _ e) (Nat.le_refl _) ⟨Heap.get?_push_size _ rfl, z, us, r, ⟨_, Heap.get?_push_size _ rfl, rfl, _, rfl⟩⟩, rfl, q _ _ hf rfl⟩
theorem je_tup {es : List Expr} {g : SA} {n : Nat} {pos : Pos} (h : JA X T es g) : JE X T (.Tuple es n pos) (eTup g) :=
  PE.weak (pe_tupF h) fun σ H Q h => by
    obtain ⟨M, B, L, ρ, p, h⟩ := h
    refine ⟨M, B, L, ρ, p, (post.bind h).mono fun ws L1 M1 eA R x q vs rvs => ?_⟩
    obtain ⟨xs, L2, M2, a2, h2, R2, E2, x2, q⟩ := q.owns R eA rvs
    obtain ⟨hl, q⟩ := q.guard
    have hl := of_decide_eq_true hl
    refine ⟨by rw [← x2.length, ← sizeL_eq]; exact hl, fun a o ha ho => ?_⟩
    rw [← h2] at ha ⊢
    obtain ⟨R3, E3⟩ := garb (o := .frz o (.tup vs)) R2 ha
    exact q { M2 with H := upd M2.H a (.frz o (.tup vs)) } a2 R3 E3 (.ref a) ⟨a, vs, rfl, ⟨.inl (.inr ⟨o, upd_same⟩), fun _ => .inl ⟨o, vs, upd_same, ho⟩⟩, RVs.ext R2 E3 xs vs x2⟩
theorem je_lst {es : List Expr} {g : SA} {pos : Pos} (h : JA X T es g) : JE X T (.List es pos) (eLst g) :=
  PE.weak (pe_lst h) fun σ H Q h => by
    obtain ⟨M, B, L, ρ, p, h⟩ := h
    refine ⟨M, B, L, ρ, p, (post.bind h).mono fun ws L1 M1 eA R x q vs rvs => ?_⟩
    obtain ⟨xs, L2, M2, a2, h2, R2, E2, x2, q⟩ := q.owns R eA rvs
    obtain ⟨hl, q⟩ := q.guard
    have hl := of_decide_eq_true hl
    refine ⟨by rw [← x2.length, ← sizeL_eq]; exact hl, fun a ha => ?_⟩
    rw [← h2] at ha ⊢
    obtain ⟨R3, E3⟩ := garb (o := .lst vs) R2 ha
    exact q { M2 with H := upd M2.H a (.lst vs) } a2 R3 E3 (.ref a) ⟨a, vs, rfl, sep_new R2 ha, upd_same, RVs.ext R2 E3 xs vs x2⟩

/-! ### operators by values -/
def Ok2 (K : PySem.W.Frag) (T : Tb) (g : D → D → Option D) (r : R2) : Prop := ∀ (M : Mem) (p q z : D) (x y : V) (Q : VK), Rep K T M → DV K T M p x → DV K T M q y → g p q = some z →
  (∀ M' v, M'.A = M.A → Rep K T M' → Ext M M' → RV K T M' z v → Q v M'.H) → r x y M.H Q
def OkN (K : PySem.W.Frag) (T : Tb) (g : List D → Option D) (r : List V → Hp → VK → Prop) : Prop := ∀ (M : Mem) (ps : List D) (z : D) (xs : List V) (Q : VK), Rep K T M → DVs K T M ps xs → g ps = some z →
  (∀ M' v, M'.A = M.A → Rep K T M' → Ext M M' → RV K T M' z v → Q v M'.H) → r xs M.H Q
theorem rd_op {K : PySem.W.Frag} {g : D → D → Option D} {r : R2} {fa fb : SE} (ok : Ok2 K T g r) {σ : L2.St} {H : Hp} {Q : VK} (h : rE K T (e2 g fa fb) σ H Q) : tOp r (rE K T fa) (rE K T fb) σ H Q := by
  obtain ⟨M, B, L, ρ, p, h⟩ := h
  refine ⟨M, B, L, ρ, p, (post.bind h).mono fun w L1 M1 eA R x q v rv => ?_⟩
  refine ⟨M1, B, L1, ρ, p.next eA R x, (post.bind q).mono fun w2 L2 M2 eA2 R2 x2 q2 v2 rv2 => ?_⟩
  obtain ⟨pd, e1, d1, q3⟩ := q2.view R2 eA2 (rv.ext R x2)
  obtain ⟨qd, e2', d2, q3⟩ := q3.view R2 eA2 rv2
  obtain ⟨z, ez, q3⟩ := q3.opt
  exact ok M2 pd qd z v v2 Q R2 d1 d2 ez fun M' u a' R' x' ru => q3 M' (a'.trans eA2) R' x' u ru
theorem je_op {op : Operator} {g : D → D → Option D} {r : R2} {a b : Expr} {fa fb : SE} {pos : Pos} (ho : OpR X (binaryOp op) r) (ok : Ok2 X.K T g r) (ha : JE X T a fa) (hb : JE X T b fb) : JE X T (.BinOp a op b pos) (e2 g fa fb) :=
  PE.weak (pe_op ho ha hb) fun σ H Q h => rd_op ok h
theorem je_cmp {op : CmpOp} {g : D → D → Option D} {r : R2} {a b : Expr} {fa fb : SE} {pos : Pos} (ho : OpR X (compareOp op) r) (ok : Ok2 X.K T g r) (ha : JE X T a fa) (hb : JE X T b fb) (hm : behindInMarks op b = false := by first | exact nomark _ | rfl) :
    JE X T (.Compare a [op] [b] pos) (e2 g fa fb) := PE.weak (pe_cmpR ho ha hb hm) fun σ H Q h => rd_op ok h
/-- a test whose value is a bool -/
theorem rd_test {K : PySem.W.Frag} {f : SE} {t : TE} (h : ∀ σ H Q, rE K T f σ H Q → t σ H Q) {σ : L2.St} {H : Hp} {Q : Bool → Hp → Prop} (hq : rT K T (tE f) σ H Q)
    (hb : ∀ B ρ L w L', f B ρ L = .ok w L' → ∃ k, w = .d (.bl k)) : tTest t σ H Q := by
  obtain ⟨M, B, L, ρ, p, hq⟩ := hq
  refine h σ H _ ⟨M, B, L, ρ, p, ?_⟩
  unfold tE at hq
  have hq := post.bind hq
  cases e : f B ρ L with
  | ok w L' =>
    rw [e] at hq
    obtain ⟨k, rfl⟩ := hb _ _ _ _ _ e
    intro M' eA R x v rv
    refine ⟨k, rv, ?_⟩
    have := hq M' eA R x
    exact (post.here this eA R)
  | exc _ _ _ => rw [e] at hq; exact hq.elim
  | bad => rw [e] at hq; exact hq.elim
theorem e2_bool {g : D → D → Option D} {fa fb : SE} (hg : ∀ p q z, g p q = some z → ∃ k, z = .bl k) : ∀ B ρ L w L', e2 g fa fb B ρ L = .ok w L' → ∃ k, w = .d (.bl k) := fun B ρ L w L' h => by
  unfold e2 at h
  cases e1 : fa B ρ L with
  | exc _ _ _ => rw [e1] at h; cases h
  | bad => rw [e1] at h; cases h
  | ok x L1 =>
    rw [e1] at h
    have h : (fb B ρ L1).bind _ = _ := h
    cases e2' : fb B ρ L1 with
    | exc _ _ _ => rw [e2'] at h; cases h
    | bad => rw [e2'] at h; cases h
    | ok y L2 =>
      rw [e2'] at h
      unfold vwR at h
      have h : (ofOpt (vw B L2 x) L2).bind _ = _ := h
      cases e3 : vw B L2 x with
      | none => rw [e3] at h; cases h
      | some p =>
        rw [e3] at h
        have h : (ofOpt (vw B L2 y) L2).bind _ = _ := h
        cases e4 : vw B L2 y with
        | none => rw [e4] at h; cases h
        | some q =>
          rw [e4] at h
          have h : (ofOpt (g p q) L2).bind _ = _ := h
          cases e5 : g p q with
          | none => rw [e5] at h; cases h
          | some z =>
            rw [e5] at h
            obtain ⟨k, rfl⟩ := hg p q z e5
            have h : Res.ok (W.d (D.bl k)) L2 = Res.ok w L' := h
            cases h
            exact ⟨k, rfl⟩
theorem jt_cmp {op : CmpOp} {g : D → D → Option D} {r : R2} {a b : Expr} {fa fb : SE} {pos : Pos} (ho : OpR X (compareOp op) r) (ok : Ok2 X.K T g r) (hg : ∀ p q z, g p q = some z → ∃ k, z = .bl k) (ha : JE X T a fa) (hb : JE X T b fb) (hm : behindInMarks op b = false := by first | exact nomark _ | rfl) :
    JT X T (.Compare a [op] [b] pos) (tE (e2 g fa fb)) := PT.weak (pt_cmpR ho ha hb hm) fun σ H Q h => rd_test (fun σ H Q h => rd_op ok h) h (e2_bool hg)

/-! ### truth -/
theorem tru_dv {K : PySem.W.Frag} {M : Mem} {p : D} {v : V} {k : Bool} (h : tru p = some k) (d : DV K T M p v) : TruV K v M.H k := by
  cases p with
  | non =>
    rcases d with rfl | ⟨_, _, _, e, _⟩ | ⟨_, _, _, _, e, _⟩
    · cases h; rfl
    · cases e
    · cases e
  | bl b =>
    rcases d with rfl | ⟨_, _, _, e, _⟩ | ⟨_, _, _, _, e, _⟩
    · cases h; rfl
    · cases e
    · cases e
  | int i =>
    rcases d with rfl | ⟨_, _, _, e, _⟩ | ⟨_, _, _, _, e, _⟩
    · cases h
      show decide (i ≠ 0) = (i != 0)
      by_cases hi : i = 0 <;> simp [hi]
    · cases e
    · cases e
  | str s =>
    rcases d with rfl | ⟨_, _, _, e, _⟩ | ⟨_, _, _, _, e, _⟩
    · have h : (if s.length ≤ sizeL then some (!s.isEmpty) else none) = some k := h
      split at h
      · rename_i hl
        cases h
        have el : (⟨s.toArray⟩ : Str).length = s.length := by show s.toArray.size = _; simp
        refine ⟨by rw [el, ← sizeL_eq]; exact hl, ?_⟩
        rw [el]
        cases s with
        | nil => rfl
        | cons c r =>
          show true = ((((c :: r).length : Nat) : Int) != 0)
          have h1 : (((c :: r).length : Nat) : Int) ≠ 0 := by rw [List.length_cons]; omega
          exact (bne_iff_ne.mpr h1).symm
      · cases h
    · cases e
    · cases e
  | tup xs =>
    rcases d with ⟨a, vs, rfl, e2, e3⟩ | ⟨_, _, _, e, _⟩ | ⟨_, _, _, _, e, _⟩
    · cases h
      refine .inr (.inl ⟨vs, e2.1, ?_⟩)
      have := e3.length
      cases xs <;> cases vs <;> simp_all
    · cases e
    · cases e
  | lst xs =>
    obtain ⟨a, vs, rfl, e2, e3⟩ := seq_dv (ys := xs) rfl d
    cases h
    have := e3.length
    rcases e2 with e2 | e2
    · refine .inr (.inl ⟨vs, e2, ?_⟩)
      cases xs <;> cases vs <;> simp_all
    · refine .inl ⟨vs, e2, ?_⟩
      cases xs <;> cases vs <;> simp_all
  | _ => cases h
theorem jt_plain {a : Expr} {fa : SE} (ha : JE X T a fa) (he : ∀ whole, isTrue a X.env whole = (do let v ← whole; standAt a.pos; holding [v] (truthy v)) := by intro _; rfl) : JT X T a (tE fa) :=
  PT.weak (pt_truth ha he) fun σ H Q h => by
    obtain ⟨M, B, L, ρ, p, h⟩ := h
    refine ⟨M, B, L, ρ, p, (post.bind h).mono fun w L1 M1 eA R x q v rv => ?_⟩
    obtain ⟨pd, e1, d1, q⟩ := q.view R eA rv
    obtain ⟨k, ek, q⟩ := q.opt1
    exact ⟨k, tru_dv ek d1, q.here eA R⟩
theorem rd_and {K : PySem.W.Frag} {f g : ST} {σ : L2.St} {H : Hp} {Q : Bool → Hp → Prop} (h : rT K T (tAnd f g) σ H Q) : L2.tAnd (rT K T f) (rT K T g) σ H Q := by
  obtain ⟨M, B, L, ρ, p, h⟩ := h
  refine ⟨M, B, L, ρ, p, (post.bind h).mono fun c L1 M1 eA R x q => ?_⟩
  cases c with
  | true => rw [if_pos rfl] at q; rw [if_pos rfl]; exact ⟨M1, B, L1, ρ, p.next eA R x, q⟩
  | false => rw [if_neg Bool.false_ne_true] at q; rw [if_neg Bool.false_ne_true]; exact q.here eA R
theorem rd_or {K : PySem.W.Frag} {f g : ST} {σ : L2.St} {H : Hp} {Q : Bool → Hp → Prop} (h : rT K T (tOr f g) σ H Q) : L2.tOr (rT K T f) (rT K T g) σ H Q := by
  obtain ⟨M, B, L, ρ, p, h⟩ := h
  refine ⟨M, B, L, ρ, p, (post.bind h).mono fun c L1 M1 eA R x q => ?_⟩
  cases c with
  | true => rw [if_pos rfl] at q; rw [if_pos rfl]; exact q.here eA R
  | false => rw [if_neg Bool.false_ne_true] at q; rw [if_neg Bool.false_ne_true]; exact ⟨M1, B, L1, ρ, p.next eA R x, q⟩
theorem jw_and1 {a : Expr} {f : ST} {pos : Pos} (ha : JT X T a f) : JW X T (.BoolOp .And [a] pos) f := pw_and1 ha
theorem jw_or1 {a : Expr} {f : ST} {pos : Pos} (ha : JT X T a f) : JW X T (.BoolOp .Or [a] pos) f := pw_or1 ha
theorem jw_and {a b : Expr} {rest : List Expr} {f g : ST} {pos : Pos} (ha : JT X T a f) (hb : JW X T (.BoolOp .And (b :: rest) pos) g) : JW X T (.BoolOp .And (a :: b :: rest) pos) (tAnd f g) := PW.weak (pw_and ha hb) fun σ H Q h => rd_and h
theorem jw_or {a b : Expr} {rest : List Expr} {f g : ST} {pos : Pos} (ha : JT X T a f) (hb : JW X T (.BoolOp .Or (b :: rest) pos) g) : JW X T (.BoolOp .Or (a :: b :: rest) pos) (tOr f g) := PW.weak (pw_or ha hb) fun σ H Q h => rd_or h
theorem JW.t {e : Expr} {f : ST} (h : JW X T e f) : JT X T e f := h.pt
theorem jt_not {a : Expr} {f : ST} {pos : Pos} (ha : JT X T a f) : JT X T (.UnaryOp .Not a pos) (tNot f) := PT.weak (pt_not ha) fun σ H Q h => by
  obtain ⟨M, B, L, ρ, p, h⟩ := h
  exact ⟨M, B, L, ρ, p, (post.bind h).mono fun c L1 M1 eA R x q => q.here eA R⟩
theorem jt_ifExp {c a b : Expr} {f fa fb : ST} {pos : Pos} (hc : JT X T c f) (ha : JT X T a fa) (hb : JT X T b fb) : JT X T (.IfExp c a b pos) (tIfT f fa fb) := ⟨fun pins s σ H Q I h => by
  obtain ⟨M, B, L, ρ, p, h⟩ := h
  refine isTrue_IfExp (thn (hc.run pins s σ H (fun c H1 => if c = true then rT X.K T fa σ H1 Q else rT X.K T fb σ H1 Q) I ⟨M, B, L, ρ, p, (post.bind h).mono fun c L1 M1 eA R x q => ?_⟩) fun d s1 ⟨H1, I1, q1⟩ => ?_)
  · cases c with
    | true => rw [if_pos rfl] at q; rw [if_pos rfl]; exact ⟨M1, B, L1, ρ, p.next eA R x, q⟩
    | false => rw [if_neg Bool.false_ne_true] at q; rw [if_neg Bool.false_ne_true]; exact ⟨M1, B, L1, ρ, p.next eA R x, q⟩
  · cases d with
    | true => rw [if_pos rfl] at q1 ⊢; exact ha.run pins s1 σ H1 Q I1 q1
    | false => rw [if_neg Bool.false_ne_true] at q1 ⊢; exact hb.run pins s1 σ H1 Q I1 q1⟩
theorem je_if {c a b : Expr} {f : ST} {fa fb : SE} {pos : Pos} (hc : JT X T c f) (ha : JE X T a fa) (hb : JE X T b fb) : JE X T (.IfExp c a b pos) (eIf f fa fb) := PE.weak (pe_ifExp hc ha hb) fun σ H Q h => by
  obtain ⟨M, B, L, ρ, p, h⟩ := h
  refine ⟨M, B, L, ρ, p, (post.bind h).mono fun c L1 M1 eA R x q => ?_⟩
  cases c with
  | true => rw [if_pos rfl] at q; rw [if_pos rfl]; exact ⟨M1, B, L1, ρ, p.next eA R x, q⟩
  | false => rw [if_neg Bool.false_ne_true] at q; rw [if_neg Bool.false_ne_true]; exact ⟨M1, B, L1, ρ, p.next eA R x, q⟩
theorem je_one {op : BoolOp} {a : Expr} {f : SE} {pos : Pos} (h : JE X T a f) : JE X T (.BoolOp op [a] pos) f := pe_one h
theorem je_and {a b : Expr} {rest : List Expr} {f g : SE} {pos : Pos} (ha : JE X T a f) (hb : JE X T (.BoolOp .And (b :: rest) pos) g) : JE X T (.BoolOp .And (a :: b :: rest) pos) (eAnd f g) := PE.weak (pe_andT ha hb) fun σ H Q h => by
  obtain ⟨M, B, L, ρ, p, h⟩ := h
  refine ⟨M, B, L, ρ, p, (post.bind h).mono fun w L1 M1 eA R x q v rv => ?_⟩
  obtain ⟨pd, e1, d1, q⟩ := q.view R eA rv
  obtain ⟨k, ek, q⟩ := q.opt
  refine ⟨k, tru_dv ek d1, ?_⟩
  cases k with
  | true => rw [if_pos rfl] at q; rw [if_pos rfl]; exact ⟨M1, B, L1, ρ, p.next eA R x, q⟩
  | false => rw [if_neg Bool.false_ne_true] at q; rw [if_neg Bool.false_ne_true]; exact q.here eA R v rv
theorem je_or {a b : Expr} {rest : List Expr} {f g : SE} {pos : Pos} (ha : JE X T a f) (hb : JE X T (.BoolOp .Or (b :: rest) pos) g) : JE X T (.BoolOp .Or (a :: b :: rest) pos) (eOr f g) := PE.weak (pe_orT ha hb) fun σ H Q h => by
  obtain ⟨M, B, L, ρ, p, h⟩ := h
  refine ⟨M, B, L, ρ, p, (post.bind h).mono fun w L1 M1 eA R x q v rv => ?_⟩
  obtain ⟨pd, e1, d1, q⟩ := q.view R eA rv
  obtain ⟨k, ek, q⟩ := q.opt
  refine ⟨k, tru_dv ek d1, ?_⟩
  cases k with
  | true => rw [if_pos rfl] at q; rw [if_pos rfl]; exact q.here eA R v rv
  | false => rw [if_neg Bool.false_ne_true] at q; rw [if_neg Bool.false_ne_true]; exact ⟨M1, B, L1, ρ, p.next eA R x, q⟩
theorem je_not {a : Expr} {f : SE} {pos : Pos} (ha : JE X T a f) : JE X T (.UnaryOp .Not a pos) (eNot f) := PE.weak (pe_notT ha) fun σ H Q h => by
  obtain ⟨M, B, L, ρ, p, h⟩ := h
  refine ⟨M, B, L, ρ, p, (post.bind h).mono fun w L1 M1 eA R x q v rv => ?_⟩
  obtain ⟨pd, e1, d1, q⟩ := q.view R eA rv
  obtain ⟨k, ek, q⟩ := q.opt
  exact ⟨k, tru_dv ek d1, q.here eA R (.bl (!k)) rfl⟩
end
end Ev

set_option Elab.async false
set_option linter.all false
set_option maxRecDepth 100000
set_option maxHeartbeats 1000000
set_option autoImplicit false
/-! EvG: the promise of a def where no repr is under way; its call; the end of a law over it. -/
namespace Ev
open PySem PySem.Spec PyProof.Rows L2
section
variable {P : Program} {w : World} {K : PySem.W.Frag} {mg : Str → Option Value} {base : Heap} {CX : CXT} {k : Nat} {f : Addr} {fd : FuncData} {ps : List Str} {sp : Sp}
/-- FnOk where no repr is under way -/
structure FnG (P : Program) (w : World) (K : PySem.W.Frag) (mg : Str → Option Value) (base : Heap) (CX : CXT) (k : Nat) (f : Addr) (fd : FuncData) (ps : List Str) (sp : Sp) : Prop where
  ln : ∀ vs H Q E, sp vs H Q E → vs.length = ps.length
  go : ∀ (A : Around) (ou : List Env) (s : Shared) (H : Hp) (args : Args) (us : List Value) (vs : List V) (Q : VK) (E : XK), A.guards = some [] → Room k A → Env0 P w K mg base A ou s H →
    BindsTo s fd args (ps.zip us) → Vals vs us → sp vs H Q E → codeAny (model P w) A (.call (.ref f) args) (CR CX ou P w H s Q E) s
theorem FnG.imp {sp' : Sp} (F : FnG P w K mg base CX k f fd ps sp) (h : ∀ vs H Q E, sp' vs H Q E → sp vs H Q E) : FnG P w K mg base CX k f fd ps sp' :=
  ⟨fun vs H Q E q => F.ln vs H Q E (h _ _ _ _ q), fun A ou s H args us vs Q E hg hr he hb hv q => F.go A ou s H args us vs Q E hg hr he hb hv (h _ _ _ _ q)⟩
theorem FnG.mono {j : Nat} (F : FnG P w K mg base CX j f fd ps sp) (h : j ≤ k) : FnG P w K mg base CX k f fd ps sp :=
  ⟨F.ln, fun A ou s H args us vs Q E hg hr => F.go A ou s H args us vs Q E hg (hr.mono h)⟩
/-- the rule for a def -/
theorem fnG_of {x qual : Str} {params : Arguments} {body : List Stmt} {scope : Scope} {dvs : List V} {kws : List (Str × V)} {N : List Str} (F : FunD K x qual params body scope dvs kws f fd) (S : FnScope N ps scope) (ln : ∀ vs H Q E, sp vs H Q E → vs.length = ps.length)
    (hB : ∀ (cdv : Value) (A : Around) (ou : List Env) (s : Shared) (H : Hp) (vs : List V) (Q : VK) (E : XK), A.guards = some [] → Room k (A.deeper (envOfC qual scope s.heap.objs.size f cdv)) → sp vs H Q E →
      ∃ t, PSs (cxOf CX P w K mg base N qual scope f cdv A ou s H E) body t ∧ t { nx := fun _ H' => Q .non H', rt := Q } (start N vs) H) : FnG P w K mg base CX (k + 1) f fd ps sp := by
  obtain ⟨oc, od, dV, kV, doc, pm, an, cdv, ct, osl, rfl, lk, hcd, _, _⟩ := F.ex
  refine ⟨ln, fun A ou s H args us vs Q E hg hr e0 hb rl q => ?_⟩
  have kin : K.In s.heap := e0.mod.kin.keeps fun b o z => (e0.bs b o z).1
  have nol : s.heap.NoLimit := e0.mod.nolimit.keeps fun b o z => (e0.bs b o z).1
  refine codeAny_call_function hr.depth (kin _ _ lk) rfl S.co S.gen rfl (PySem.W.codeRec_of kin hcd) (hb _ _ _ _ ?_)
  refine wpAny_newFunctionEnv_cells S.kind (fun y hy => ?_) fun env he s1 x1 => ?_
  · rcases S.par y.1 (List.of_mem_zip (show (y.1, y.2) ∈ ps.zip us from hy)).1 with z | z
    · exact .inl z
    · exact .inr ⟨z, PySem.W.cellsFrom_some _ _ _ (.inl z)⟩
  · subst he
    refine ⟨nol.keeps x1.toInCall.keep, codeAny_func ?_⟩
    obtain ⟨t, ht, hq⟩ := hB cdv A ou s H vs Q E hg (hr.deeper _) q
    have I : Inv (cxOf CX P w K mg base N qual scope f cdv A ou s H E) [] (start N vs) H s1 := inv_start S hr.hd e0 (ln _ _ _ _ q) rl x1
    have fin : ∀ {s' : Shared} {σ' : L2.St} {H' : Hp} {v : V} {u : Value}, Inv (cxOf CX P w K mg base N qual scope f cdv A ou s H E) [] σ' H' s' → RelV v u → Q v H' → CE ou P w H s Q u s' :=
      fun {s' σ' H' v u} J rv q' => ⟨v, H', J.os, J.bare, J.base, J.hok, rv, q'⟩
    refine wpAny_mono (ht.run [] s1 (start N vs) H _ I hq) (fun fl s' hs => ?_) fun _ _ z => z
    cases fl with
    | next => obtain ⟨σ', H', J, z⟩ := hs; exact fin (v := V.non) (u := Value.none) J rfl z
    | ret u => obtain ⟨v, σ', H', J, rv, z⟩ := hs; exact fin J rv z
    | brk => obtain ⟨_, _, _, z⟩ := hs; exact z.elim
    | cont => obtain ⟨_, _, _, z⟩ := hs; exact z.elim
end
section
variable {X : Cx} {CX : CXT} {k : Nat} {f : Addr} {fd : FuncData} {ps : List Str} {sp : Sp} {E : XK}
/-- the call: args, what they bind -/
theorem FnG.call {pins : List (Addr × Obj)} {σ : L2.St} {H : Hp} {s : Shared} {Q : VK} {us : List Value} {kws : List (Str × Value)} {vs : List V} {zs : List Value} (F : FnG X.prog X.w X.K X.mg X.base CX k f fd ps sp) (hg : X.A.guards = some []) (hr : Room k X.A) (hx : Passes CX X E) (I : Inv X pins σ H s)
    (hb : BindsTo s fd ⟨us, kws⟩ (ps.zip zs)) (r : Vals vs zs) (h : sp vs H Q E) : wpAny (model X.prog X.w) X.A (PySem.call (.ref f) us kws) (EP X pins σ Q) X.xe s :=
  wpAny_call (codeAny_mono (F.go X.A X.stack s H ⟨us, kws⟩ zs vs Q E hg hr I.env0 hb r h) fun r s' z => match r, z with
    | .error e, z => hx pins σ H s e s' I z
    | .ok (.ret u), z => I.after z
    | .ok .next, z => False.elim z
    | .ok .brk, z => False.elim z
    | .ok .cont, z => False.elim z)
theorem pe_callG {x : Str} {p pos : Pos} {e : Expr} {es : List Expr} {t : TA} (F : FnG X.prog X.w X.K X.mg X.base CX k f fd ps sp) (hgu : X.A.guards = some []) (hr : Room k X.A) (hg : Gl X x) (hm : X.mg x = some (.ref f)) (hk : PySem.W.keepIn X.K (.ref f) = true) (hb : Binds X.K fd ps []) (hx : Passes CX X E)
    (ha : PA X (e :: es) t) (hdb : (x == ("__debug__" : Str)) = false) (he : starEach (e :: es) X.env = (false, eval e X.env) :: starEach es X.env) (hpl : (backTo pos (starEach es X.env)).any (·.1) = false) : PE X (.Call (.Name x p) (e :: es) [] pos) (fun σ H Q => t σ H fun vs H1 => sp vs H1 Q E) :=
  ⟨fun pins s σ H Q I h => wpAny_Call_Name_kw (ld_glob I hg hm (PySem.W.callWith_K (h₀ := X.base) I.ok.mod.kin hk (thn (ha.run pos pins s σ H _ I h) fun us s1 ⟨vs, H1, I1, r, q⟩ => ⟨I1.kIn, by
    have l : (us ++ ([] : List Value)).length = ps.length := by rw [List.append_nil, ← r.length]; exact F.ln _ _ _ _ q
    have b := hb s1 us I1.kIn l
    rw [List.append_nil] at b
    exact F.call hgu hr hx I1 b r q⟩) he hpl) hdb)⟩
theorem pe_callG0 {x : Str} {p pos : Pos} (F : FnG X.prog X.w X.K X.mg X.base CX k f fd ps sp) (hgu : X.A.guards = some []) (hr : Room k X.A) (hg : Gl X x) (hm : X.mg x = some (.ref f)) (hk : PySem.W.keepIn X.K (.ref f) = true) (hb : Binds X.K fd ps []) (hx : Passes CX X E)
    (hdb : (x == ("__debug__" : Str)) = false) : PE X (.Call (.Name x p) [] [] pos) (fun σ H Q => sp [] H Q E) :=
  ⟨fun pins s σ H Q I h => wpAny_Call_Name_kw (ld_glob I hg hm (PySem.W.callWith_K0 I.kIn hk (by
    have l : (([] : List Value) ++ ([] : List Value)).length = ps.length := by rw [← F.ln _ _ _ _ h]; rfl
    have b := hb s [] I.kIn l
    exact F.call hgu hr hx I b .nil h)) hdb)⟩
/-- f(k = e, ..): keywords alone; g puts their values in the parameters' order -/
theorem pe_callGK {x : Str} {p pos : Pos} {kws : List Keyword} {ks : List Str} {t : TA} {g : {α : Type} → List α → List α} (F : FnG X.prog X.w X.K X.mg X.base CX k f fd ps sp) (hgu : X.A.guards = some []) (hr : Room k X.A) (hg : Gl X x) (hm : X.mg x = some (.ref f)) (hk : PySem.W.keepIn X.K (.ref f) = true)
    (hb : ∀ (s : Shared) (ws : List Value), ws.length = ks.length → BindsTo s fd ⟨[], ks.zip ws⟩ (ps.zip (g ws))) (hrel : ∀ {zs : List V} {ws : List Value}, Vals zs ws → Vals (g zs) (g ws)) (hx : Passes CX X E)
    (ha : PK X kws t) (hall : (backToKw pos (keywordEach kws X.env)).all (·.1.isSome) = true) (hks : (backToKw pos (keywordEach kws X.env)).filterMap (·.1) = ks) (hdb : (x == ("__debug__" : Str)) = false)
    (hpl : ((backTo pos (starEach [] X.env)).any (·.1) || (backToKw pos (keywordEach kws X.env)).any (·.1.isNone)) = false) :
    PE X (.Call (.Name x p) [] kws pos) (fun σ H Q => t σ H fun zs H1 => zs.length = ks.length ∧ sp (g zs) H1 Q E) :=
  ⟨fun pins s σ H Q I h => wpAny_Call_Name_kw (ld_glob I hg hm (PySem.W.callWith_KW0 (h₀ := X.base) I.ok.mod.kin hk hall (thn (ha.run pos pins s σ H _ I h) fun ws s1 ⟨zs, H1, I1, r, hl, q⟩ => ⟨I1.kIn, by
    rw [hks]
    exact F.call hgu hr hx I1 (hb s1 ws (by rw [← r.length]; exact hl)) (hrel r) q⟩) hpl) hdb)⟩
end
/-- the end of a law -/
theorem lawG {P : Program} {w : World} {K : PySem.W.Frag} {mg mb : Str → Option Value} {CX : CXT} {k : Nat} {fa a : Addr} {fd : FuncData} {x : Str} {sp : Sp} {s1 : Shared} {vs : List Value} {ns : List Int} (kin : K.In s1.heap) (hns : s1.heap.Ns mainGlobals mg) (hb : s1.heap.Ns builtinsNs mb)
    (hbb : ∀ x : Str, x ≠ "__name__" → mb x = bootBuiltins x) (nol : s1.heap.NoLimit) (hg : s1.gens = #[]) (ha : s1.heap.get? a = some { cls := .type "list", data := .seq vs.toArray }) (hi : IntsAre vs ns) (hl : ns.length ≤ sizeLine) (hr : Room k callerA)
    (F : ∀ base : Heap, K.In base → base.Ns mainGlobals mg → FnG P w K mg base CX k fa fd [x] sp) (hbind : ∀ (s : Shared) (u : Value), BindsTo s fd ⟨[u], []⟩ [(x, u)])
    (hsp : ∀ H : Hp, Only H → SqL K H a (ns.map V.int) → sp [.ref a] H (fun v _ => v = .bl true) fun _ _ _ => False) (hCX : ∀ H e s', CX [] H s1 (fun _ _ _ => False) e s' → False) :
    codeAny (model P w) callerA (.call (.ref fa) ⟨[.ref a], []⟩) (fun r s' => r = .ok (.ret (.bool true)) ∧ OldK s1.heap s'.heap ∧ s'.os = s1.os ∧ AllBare s'.gens) s1 := by
  have rv := vals_ints hi
  have main : ∀ H : Hp, Only H → SqL K H a (ns.map V.int) → HOk P w H s1.heap → (∀ b, H b ≠ none → b = a ∧ K.lookup a = none) →
      codeAny (model P w) callerA (.call (.ref fa) ⟨[.ref a], []⟩) (fun r s' => r = .ok (.ret (.bool true)) ∧ OldK s1.heap s'.heap ∧ s'.os = s1.os ∧ AllBare s'.gens) s1 := by
    intro H hO hS hok hA
    have nsk : ∀ {b : Addr} {m : Str → Option Value}, s1.heap.Ns b m → (hidT s1.heap H).Ns b m := fun {b m} ⟨o, es, ep, e, d, r⟩ => ⟨o, es, ep, hidT_get e (by
      cases q : H b with
      | none => rfl
      | some u =>
        have z := (hA b (by rw [q]; exact fun y => nomatch y)).1
        rw [z, ha] at e
        cases e
        exact nomatch d), d, r⟩
    have kb : K.In (hidT s1.heap H) := fun b o e => hidT_get (kin b o e) (by
      cases q : H b with
      | none => rfl
      | some u =>
        obtain ⟨z, y⟩ := hA b (by rw [q]; exact fun y => nomatch y)
        rw [z, y] at e
        exact nomatch e)
    have hM : Mod K mg (hidT s1.heap H) := ⟨kb, nsk hns, ⟨mb, nsk hb, hbb⟩, let ⟨mc, h1, h2⟩ := nol; ⟨mc, nsk h1, h2⟩⟩
    have e0 : Env0 P w K mg (hidT s1.heap H) callerA [] s1 H := ⟨rfl, hM, fun _ _ e => of_hidT e, Nat.le_of_eq (hidT_size _ _), trivial, fun b z => absurd (show b ∈ ([] : List Addr) from z) (by simp), hok, .of_eq hg⟩
    refine codeAny_mono ((F _ kb (nsk hns)).go callerA [] s1 H ⟨[.ref a], []⟩ [.ref a] [.ref a] _ _ rfl hr e0 (hbind s1 (.ref a)) (.cons rfl .nil) (hsp H hO hS)) fun r s' h => ?_
    match r, h with
    | .error e, h => exact (hCX H e s' h).elim
    | .ok .next, h => exact False.elim h
    | .ok .brk, h => exact False.elim h
    | .ok .cont, h => exact False.elim h
    | .ok (.ret u), h =>
      obtain ⟨v, H', os, bare, un, hok', r', q⟩ := h
      have q : v = .bl true := q
      subst q
      obtain rfl : u = Value.bool true := r'
      refine ⟨rfl, OldK.of_keep fun b o e => ?_, os, bare⟩
      rcases hO b with z | ⟨ob, xs, z⟩
      · exact un.keep b o e z (fun y => absurd (show b ∈ ([] : List Addr) from y) (by simp)) (by simp)
      · have e1 := (hok b _ z).1
        have e2 := (hok' b _ (un.frzs b ob _ z)).1
        rw [e] at e1
        cases e1
        exact e2
  cases hk : K.lookup a with
  | none =>
    refine main (fun b => if b = a then some (.frz { cls := .type "list", data := .seq vs.toArray } (.lst (ns.map V.int))) else none) (fun b => ?_) (.inl (.inr ⟨{ cls := .type "list", data := .seq vs.toArray }, if_pos rfl⟩)) (fun b u z => ?_) fun b z => ?_
    · by_cases q : b = a
      · exact .inr ⟨_, _, if_pos q⟩
      · exact .inl (if_neg q)
    · by_cases q : b = a
      · have y := (if_pos q).symm.trans z
        cases y
        subst q
        exact ⟨ha, by rw [List.length_map]; exact hl, vs, _, rv, ha⟩
      · exact nomatch (if_neg q).symm.trans z
    · by_cases q : b = a
      · exact ⟨q, hk⟩
      · exact absurd (if_neg q) z
  | some o =>
    have e := kin a o hk
    rw [ha] at e
    cases e
    exact main (fun _ => none) (fun _ => .inl rfl) (.inr ⟨_, vs.toArray, _, hk, rfl, rfl, rfl, by rw [List.size_toArray, hi.length]; exact hl, by simpa using rv⟩) (fun b u z => nomatch (show (none : Option HO) = some u from z)) fun b z => absurd rfl z
theorem walkG {l : PySem.W.OpenLaw} {n k : Nat} {q : Program} {loose : List Str} {XP : (Str → Option Value) → Heap → Prop} {YP : World → Heap → Prop} {d : DefRec} {CX : CXT} {x : Str} (hn : l.most = some n) (hn2 : n ≤ sizeLine) (hdf : d.params.defaults = []) (hr : Room k callerA)
    (F : ∀ (w : World) (mg : Str → Option Value) (fa : Addr) (h : Heap), YP w h → h.Ns mainGlobals mg → mg d.name = some (.ref fa) → ∃ (K : PySem.W.Frag) (fd : FuncData) (sp : Sp), K.In h ∧ (∀ (s : Shared) (u : Value), BindsTo s fd ⟨[u], []⟩ [(x, u)]) ∧
      (∀ (H : Hp) (a : Addr) (ns : List Int), ns.length ≤ n → Only H → SqL K H a (ns.map V.int) → sp [.ref a] H (fun v _ => v = .bl true) fun _ _ _ => False) ∧ ∀ base : Heap, K.In base → base.Ns mainGlobals mg → FnG l.prog w K mg base CX k fa fd [x] sp)
    (hCX : ∀ (H : Hp) (s : Shared) (e : Value) (s' : Shared), CX [] H s (fun _ _ _ => False) e s' → False) : PySem.W.WalkO q loose XP YP l.row.toRowW d [] (fun f vs => PySem.call f vs) :=
  Att.attach_call hn hdf fun w s0 s1 mg mb fa o pm cd doc a vs ns G Y ho hd hcd hmg hobj hints hlen hg => by
    obtain ⟨K, fd, sp, kin, hb, hsp, hF⟩ := F w mg fa _ Y G.T.g hmg
    exact lawG kin G.T.g G.T.b G.T.builtins G.T.nolimit hg hobj hints (Nat.le_trans hlen hn2) hr hF hb (fun H hO hS => hsp H a ns hlen hO hS) fun H e s' => hCX H s1 e s'
end Ev

set_option Elab.async false
set_option linter.all false
set_option maxRecDepth 100000
set_option maxHeartbeats 1000000
set_option autoImplicit false
/-! EvD: statements, defs, calls. -/
namespace Ev
open PySem PySem.Spec PyProof.Rows L2
/-! ### statements -/
section
variable {X : Cx} {T : Tb}
theorem postS.ext_next {K : PySem.W.Frag} {M : Mem} {B L : Hs} {ρ : Sl} {σ : L2.St} {Dn : Ends} (h : postS K T M B (.next ρ L) Dn) (eA : M.A = B ++ L) (R : Rep K T M) (rs : RS K T M ρ σ) : Dn.nx σ M.H := h M σ eA R (Ext.refl M) rs
theorem js_nil : JSs X T [] sNil := PSs.weak pss_nil fun Dn σ H h => by
  obtain ⟨M, B, L, ρ, p, h⟩ := h
  have := h.ext_next p.eA p.rep p.rs
  rw [p.eH] at this
  exact this
theorem js_cons {st : Stmt} {rest : List Stmt} {f g : SS} (h1 : JS X T st f) (h2 : JSs X T rest g) : JSs X T (st :: rest) (sSeq f g) := PSs.weak (pss_cons h1 h2) fun Dn σ H h => by
  obtain ⟨M, B, L, ρ, p, h⟩ := h
  refine ⟨M, B, L, ρ, p, ?_⟩
  unfold sSeq at h
  cases e : f B ρ L with
  | next ρ1 L1 =>
    rw [e] at h
    intro M1 σ1 eA R x rs
    exact ⟨M1, B, L1, ρ1, ⟨rfl, eA, R, rs⟩, postS.later h x⟩
  | brk ρ1 L1 => rw [e] at h; exact h
  | cnt ρ1 L1 => rw [e] at h; exact h
  | ret w L1 => rw [e] at h; exact h
  | exc _ _ _ _ => rw [e] at h; exact h.elim
  | bad => rw [e] at h; exact h.elim
theorem js_one {st : Stmt} {f : SS} (h1 : JS X T st f) : JSs X T [st] f := pss_one h1
theorem js_ret {e : Expr} {f : SE} {pos : Pos} (he : JE X T e f) : JS X T (.Return (some e) pos) (sRet f) := PS.weak (ps_ret he) fun Dn σ H h => by
  obtain ⟨M, B, L, ρ, p, h⟩ := h
  exact ⟨M, B, L, ρ, p, (post.st h).mono fun w L1 M1 eA R x q v rv => q M1 v eA R (Ext.refl M1) rv⟩
def sRetN : SS := fun _ _ L => .ret (.d .non) L
theorem js_retN {pos : Pos} : JS X T (.Return none pos) sRetN := PS.weak ps_retN fun Dn σ H h => by
  obtain ⟨M, B, L, ρ, p, h⟩ := h
  have : Dn.rt .non M.H := h M .non p.eA p.rep (Ext.refl M) rfl
  rw [p.eH] at this
  exact this
theorem js_pass {pos : Pos} : JS X T (.Pass pos) sNil := PS.weak ps_pass fun Dn σ H h => by
  obtain ⟨M, B, L, ρ, p, h⟩ := h
  have := h.ext_next p.eA p.rep p.rs
  rw [p.eH] at this
  exact this
def sBrk : SS := fun _ ρ L => .brk ρ L
def sCnt : SS := fun _ ρ L => .cnt ρ L
theorem js_break {pos : Pos} : JS X T (.Break pos) sBrk := PS.weak ps_break fun Dn σ H h => by
  obtain ⟨M, B, L, ρ, p, h⟩ := h
  have : Dn.bk σ M.H := h M σ p.eA p.rep (Ext.refl M) p.rs
  rw [p.eH] at this
  exact this
theorem js_continue {pos : Pos} : JS X T (.Continue pos) sCnt := PS.weak ps_continue fun Dn σ H h => by
  obtain ⟨M, B, L, ρ, p, h⟩ := h
  have : Dn.ct σ M.H := h M σ p.eA p.rep (Ext.refl M) p.rs
  rw [p.eH] at this
  exact this
theorem js_expr {e : Expr} {f : SE} {pos : Pos} (he : JE X T e f) (hs : swapsWith e none pos.line X.env = pure false := by rfl) : JS X T (.Expr e pos) (sExpr f) := PS.weak (ps_expr he hs) fun Dn σ H h => by
  obtain ⟨M, B, L, ρ, p, h⟩ := h
  exact ⟨M, B, L, ρ, p, (post.st h).mono fun w L1 M1 eA R x q v rv => q.ext_next eA R (p.rs.ext p.rep x)⟩
theorem js_if {c : Expr} {a b : List Stmt} {f : ST} {fa fb : SS} {pos : Pos} (hc : JT X T c f) (ha : JSs X T a fa) (hb : JSs X T b fb) : JS X T (.If c a b pos) (sIf f fa fb) := PS.weak (ps_if hc ha hb) fun Dn σ H h => by
  obtain ⟨M, B, L, ρ, p, h⟩ := h
  refine ⟨M, B, L, ρ, p, (post.st h).mono fun c L1 M1 eA R x q => ?_⟩
  cases c with
  | true => rw [if_pos rfl] at q; rw [if_pos rfl]; exact ⟨M1, B, L1, ρ, p.next eA R x, q⟩
  | false => rw [if_neg Bool.false_ne_true] at q; rw [if_neg Bool.false_ne_true]; exact ⟨M1, B, L1, ρ, p.next eA R x, q⟩
theorem js_bad {st : Stmt} : JS X T st sBad := PS.weak ps_never fun Dn σ H h => by
  obtain ⟨M, B, L, ρ, p, h⟩ := h
  exact h
theorem jss_bad {sts : List Stmt} : JSs X T sts sBad := PSs.weak pss_never fun Dn σ H h => by
  obtain ⟨M, B, L, ρ, p, h⟩ := h
  exact h

/-! ### targets -/
theorem RS.set {K : PySem.W.Frag} {M : Mem} {ρ : Sl} {σ : L2.St} (h : RS K T M ρ σ) {w : W} {v : V} (r : RW K T M w v) (i : Nat) : RS K T M (ρ.set i (some w)) (σ.set i (some v)) := by
  refine ⟨by rw [List.length_set, List.length_set]; exact h.1, fun j u e => ?_⟩
  by_cases hj : i = j
  · subst hj
    have hl : i < ρ.length := by
      have := (List.getElem?_eq_some_iff.mp e).1
      rwa [List.length_set] at this
    rw [List.getElem?_set_self hl] at e
    cases e
    exact ⟨v, by rw [List.getElem?_set_self (by rw [← h.1]; exact hl)], r⟩
  · rw [List.getElem?_set_ne hj] at e
    obtain ⟨u', e1, r1⟩ := h.2 j u e
    exact ⟨u', by rw [List.getElem?_set_ne hj]; exact e1, r1⟩
/-- the slots but those of is stay -/
def Stay (is : List Nat) (σ σ' : L2.St) : Prop := σ'.length = σ.length ∧ ∀ j : Nat, j ∉ is → σ'[j]? = σ[j]?
theorem Stay.refl (is : List Nat) (σ : L2.St) : Stay is σ σ := ⟨rfl, fun _ _ => rfl⟩
def rG (K : PySem.W.Frag) (T : Tb) (g : SG) (is : List Nat) : TG := fun v σ H Q => ∃ M B L ρ w, Pt K T M B L ρ σ H ∧ RW K T M w v ∧ post K T M B (g w B ρ L) fun ρ' _ M' => ∀ σ', RS K T M' ρ' σ' → Stay is σ σ' → Q σ' M'.H
abbrev JG (X : Cx) (T : Tb) (e : Expr) (g : SG) (is : List Nat) : Prop := PG X e (rG X.K T g is)
theorem PG.weak {e : Expr} {t u : TG} (h : PG X e t) (w : ∀ v σ H Q, u v σ H Q → t v σ H Q) : PG X e u := ⟨fun pins s σ H v uu Q I r q => h.run pins s σ H v uu Q I r (w v σ H Q q)⟩
theorem PGs.weak {e : List Expr} {t u : TGs} (h : PGs X e t) (w : ∀ v σ H Q, u v σ H Q → t v σ H Q) : PGs X e u := ⟨fun pins s σ H v uu Q I r q => h.run pins s σ H v uu Q I r (w v σ H Q q)⟩
theorem jg_name {i : Nat} {x : Str} {pos : Pos} (hN : X.N.Nodup) (hi : X.N[i]? = some x := by rfl) (hx : Loc X.env.scope x := by first | exact .inl rfl | exact .inr rfl) (hf : X.fn x = true ∨ X.env.scope.names.lookup x = some .local := by first | exact .inl rfl | exact .inr rfl | assumption) : JG X T (.Name x pos) (gVar i) [i] :=
  PG.weak (pg_name hN hi hx hf) fun v σ H Q h => by
    obtain ⟨M, B, L, ρ, w, p, rw, h⟩ := h
    have : Q (σ.set i (some v)) M.H := h M p.eA p.rep (Ext.refl M) _ (p.rs.set rw i) ⟨List.length_set, fun j hj => List.getElem?_set_ne (fun e => hj (by simp [e]))⟩
    rw [p.eH] at this
    exact this
def rGs (K : PySem.W.Frag) (T : Tb) (gs : List SG) (is : List Nat) : TGs := fun vs σ H Q => ∃ M B L ρ xs, Pt K T M B L ρ σ H ∧ RVs K T M xs vs ∧ post K T M B (gAll gs xs B ρ L) fun ρ' _ M' => ∀ σ', RS K T M' ρ' σ' → Stay is σ σ' → Q σ' M'.H
abbrev JGs (X : Cx) (T : Tb) (es : List Expr) (gs : List SG) (is : List Nat) : Prop := PGs X es (rGs X.K T gs is)
theorem jgs_nil : JGs X T [] [] [] := PGs.weak pgs_nil fun vs σ H Q h => by
  obtain ⟨M, B, L, ρ, xs, p, rv, h⟩ := h
  cases xs with
  | nil =>
    have h : Q σ M.H := h M p.eA p.rep (Ext.refl M) σ p.rs (Stay.refl _ _)
    rw [p.eH] at h
    exact ⟨rv, h⟩
  | cons x xs => exact h.elim
theorem jgs_cons {e : Expr} {es : List Expr} {g : SG} {gs : List SG} {is js : List Nat} (h1 : JG X T e g is) (h2 : JGs X T es gs js) (hs : (assignEach (e :: es) X.env).map (·.2) = assign e X.env :: (assignEach es X.env).map (·.2) := by rfl) : JGs X T (e :: es) (g :: gs) (is ++ js) :=
  PGs.weak (pgs_cons h1 h2 hs) fun vs σ H Q h => by
    obtain ⟨M, B, L, ρ, xs, p, rv, h⟩ := h
    cases xs with
    | nil => exact h.elim
    | cons x xs =>
      obtain ⟨v, r, rfl, r1, r2⟩ := rv
      refine ⟨v, r, rfl, M, B, L, ρ, .d x, p, r1, (post.bind h).mono fun ρ1 L1 M1 eA R x' q σ1 rs st => ?_⟩
      refine ⟨M1, B, L1, ρ1, xs, ⟨rfl, eA, R, rs⟩, RVs.ext p.rep x' xs r r2, q.mono fun ρ2 L2 M2 _ _ _ k σ2 rs2 st2 => k σ2 rs2 ⟨st2.1.trans st.1, fun j hj => ?_⟩⟩
      rw [st2.2 j fun z => hj (List.mem_append_right _ z), st.2 j fun z => hj (List.mem_append_left _ z)]
theorem gAll_len : ∀ {gs : List SG} {xs : List D} {B : Hs} {ρ : Sl} {L : Hs} {ρ' : Sl} {L' : Hs}, gAll gs xs B ρ L = .ok ρ' L' → xs.length = gs.length
  | [], [], _, _, _, _, _, _ => rfl
  | [], _ :: _, _, _, _, _, _, h => by cases h
  | _ :: _, [], _, _, _, _, _, h => by cases h
  | g :: gs, x :: xs, B, ρ, L, ρ', L', h => by
    have h : (g (.d x) B ρ L).bind _ = _ := h
    cases e : g (.d x) B ρ L with
    | ok ρ1 L1 =>
      rw [e] at h
      rw [List.length_cons, List.length_cons, gAll_len h]
    | exc _ _ _ => rw [e] at h; cases h
    | bad => rw [e] at h; cases h
theorem jg_tup {es : List Expr} {k : Nat} {gs : List SG} {is : List Nat} {pos : Pos} (hc : X.calm = true) (h : JGs X T es gs is) (hn : (assignEach es X.env).length = gs.length := by rfl) (hst : (assignEach es X.env).findIdx? (·.1) = none := by rfl) : JG X T (.Tuple es k pos) (gTup gs) is :=
  PG.weak (pg_tup hc h hn hst) fun v σ H Q h => by
    obtain ⟨M, B, L, ρ, w, p, rw, h⟩ := h
    obtain ⟨pd, e1, d1, h⟩ := h.view p.rep p.eA rw
    obtain ⟨xs, ex, hg⟩ := h.opt
    clear h
    cases pd with
    | tup ys =>
      cases ex
      rcases d1 with ⟨a, vs, e1, e2, e3⟩ | ⟨_, _, _, e, _⟩ | ⟨_, _, _, _, e, _⟩
      · refine ⟨a, vs, e1, by rw [← p.eH]; exact e2.1, ?_, M, B, L, ρ, _, p, e3, hg⟩
        rw [← e3.length]
        cases e : gAll gs xs B ρ L with
        | ok ρ' L' => exact gAll_len e
        | exc _ _ _ => rw [e] at hg; exact hg.elim
        | bad => rw [e] at hg; exact hg.elim
      · cases e
      · cases e
    | _ => cases ex
theorem js_asg {tg e : Expr} {f : SE} {g : SG} {is : List Nat} {pos : Pos} (he : JE X T e f) (hg : JG X T tg g is) (hs : swapsWithSole [tg] e pos.line X.env = pure false := by rfl) (hw : swappedStores [tg] e X.env = pure none := by rfl)
    (h1 : (assignEach [tg] X.env).map (·.2) = [assign tg X.env] := by rfl) : JS X T (.Assign [tg] e pos) (sAsg f g) := PS.weak (ps_asg he hg hs hw h1) fun Dn σ H h => by
  obtain ⟨M, B, L, ρ, p, h⟩ := h
  refine ⟨M, B, L, ρ, p, (post.st h).mono fun w L1 M1 eA R x q v rv => ?_⟩
  exact ⟨M1, B, L1, ρ, w, p.next eA R x, rv, (post.st q).mono fun ρ' L2 M2 eA2 R2 x2 q2 σ' rs _ => q2.ext_next eA2 R2 rs⟩
theorem js_set {i : Nat} {x : Str} {e : Expr} {f : SE} {pos pos' : Pos} (hN : X.N.Nodup) (he : JE X T e f) (hi : X.N[i]? = some x := by rfl) (hx : Loc X.env.scope x := by first | exact .inl rfl | exact .inr rfl) (hs : swapsWith e (some (.Name x pos')) pos.line X.env = pure false := by rfl) (hf : X.fn x = true ∨ X.env.scope.names.lookup x = some .local := by first | exact .inl rfl | exact .inr rfl | assumption) :
    JS X T (.Assign [.Name x pos'] e pos) (sAsg f (gVar i)) := PS.weak (ps_set hN hi hx he hs hf) fun Dn σ H h => by
  obtain ⟨M, B, L, ρ, p, h⟩ := h
  refine ⟨M, B, L, ρ, p, (post.st h).mono fun w L1 M1 eA R x q v rv => ?_⟩
  have q2 := post.st q
  exact (q2.here eA R).ext_next eA R ((p.rs.ext p.rep x).set rv i)
theorem js_par {i j : Nat} {x y : Str} {a b : Expr} {f : SA} {px py pt pos : Pos} {kt k2 : Nat} {pt2 : Pos} (hc : X.calm = true) (hN : X.N.Nodup) (ha : JA X T [a, b] f) (hi : X.N[i]? = some x := by rfl) (hj : X.N[j]? = some y := by rfl) (hij : i ≠ j := by decide)
    (hx : X.env.scope.names.lookup x = some .local := by rfl) (hy : X.env.scope.names.lookup y = some .local := by rfl)
    (hw : swappedStores [.Tuple [.Name x px, .Name y py] kt pt] (.Tuple [a, b] k2 pt2) X.env = pure (some [x, y]) := by rfl)
    (hs : swapsWithSole [.Tuple [.Name x px, .Name y py] kt pt] (.Tuple [a, b] k2 pt2) pos.line X.env = pure false := by rfl) :
    JS X T (.Assign [.Tuple [.Name x px, .Name y py] kt pt] (.Tuple [a, b] k2 pt2) pos) (sPar i j f) := PS.weak (ps_par hc hN hi hj hij hx hy ha hw hs) fun Dn σ H h => by
  obtain ⟨M, B, L, ρ, p, h⟩ := h
  refine ⟨M, B, L, ρ, p, (post.st h).mono fun ws L1 M1 eA R x q vs rvs => ?_⟩
  cases ws with
  | nil => exact q.elim
  | cons w1 r1 =>
    cases r1 with
    | nil => exact q.elim
    | cons w2 r2 =>
      cases r2 with
      | cons _ _ => exact q.elim
      | nil =>
        obtain ⟨v1, s1, rfl, a1, v2, s2, rfl, a2, rfl⟩ := rvs
        exact ⟨v1, v2, rfl, q.ext_next eA R (((p.rs.ext p.rep x).set a1 i).set a2 j)⟩

/-! ### defs and calls -/
def spOf (K : PySem.W.Frag) (T : Tb) (np : Nat) (F : Fn) : Sp := fun vs H Q _ => vs.length = np ∧ ∃ M B L ws, M.H = H ∧ M.A = B ++ L ∧ Rep K T M ∧ RWs K T M ws vs ∧ post K T M B (F ws B L) fun w _ M' => ∀ v, RW K T M' w v → Q v M'.H
theorem je_call {F : Fn} {np k : Nat} {f : Addr} {fd : FuncData} {ps : List Str} {x : Str} {e : Expr} {es : List Expr} {a : SA} {p pos : Pos} (G : FnG X.prog X.w X.K X.mg X.base CX0 k f fd ps (spOf X.K T np F)) (hgu : X.A.guards = some []) (hr : Room k X.A)
    (hm : X.mg x = some (.ref f)) (hk : PySem.W.keepIn X.K (.ref f) = true) (hb : Binds X.K fd ps []) (ha : JA X T (e :: es) a) (hg : Gl X x := by rfl) (hdb : (x == ("__debug__" : Str)) = false := by decide)
    (he : starEach (e :: es) X.env = (false, eval e X.env) :: starEach es X.env := by rfl) (hpl : (backTo pos (starEach es X.env)).any (·.1) = false := by rfl) : JE X T (.Call (.Name x p) (e :: es) [] pos) (eCall np F a) :=
  PE.weak (pe_callG G hgu hr hg hm hk hb pass0 ha hdb he hpl) fun σ H Q h => by
    obtain ⟨M, B, L, ρ, p, h⟩ := h
    refine ⟨M, B, L, ρ, p, (post.bind h).mono fun ws L1 M1 eA R x q vs rvs => ?_⟩
    obtain ⟨hl, q⟩ := q.guard
    have hl := of_decide_eq_true hl
    exact ⟨by rw [← rvs.length]; exact hl, M1, B, L1, ws, rfl, eA, R, rvs, q⟩
theorem je_call0 {F : Fn} {k : Nat} {f : Addr} {fd : FuncData} {ps : List Str} {x : Str} {p pos : Pos} (G : FnG X.prog X.w X.K X.mg X.base CX0 k f fd ps (spOf X.K T 0 F)) (hgu : X.A.guards = some []) (hr : Room k X.A)
    (hm : X.mg x = some (.ref f)) (hk : PySem.W.keepIn X.K (.ref f) = true) (hb : Binds X.K fd ps []) (hg : Gl X x := by rfl) (hdb : (x == ("__debug__" : Str)) = false := by decide) : JE X T (.Call (.Name x p) [] [] pos) (eCall 0 F aNil) :=
  PE.weak (pe_callG0 G hgu hr hg hm hk hb pass0 hdb) fun σ H Q h => by
    obtain ⟨M, B, L, ρ, p, h⟩ := h
    have : spOf X.K T 0 F [] M.H Q E0 := ⟨rfl, M, B, L, [], rfl, p.eA, p.rep, rfl, h⟩
    rw [p.eH] at this
    exact this
/-- f(k = e, ..) -/
inductive JK (X : Cx) (T : Tb) : List Keyword → SA → Prop
  | nil : JK X T [] aNil
  | cons {nm : Option Str} {e : Expr} {kp : Pos} {ks : List Keyword} {f : SE} {g : SA} : JE X T e f → JK X T ks g → JK X T (⟨nm, e, kp⟩ :: ks) (aCons f g)
theorem JK.pk : ∀ {ks : List Keyword} {f : SA}, JK X T ks f → PK X ks (rA X.K T f)
  | _, _, .nil => ⟨fun pos pins s σ H Q I h => pk_nil.run pos pins s σ H Q I (by
    obtain ⟨M, B, L, ρ, p, h⟩ := h
    have := h M p.eA p.rep (Ext.refl M) [] rfl
    rw [p.eH] at this
    exact this)⟩
  | _, _, .cons h1 h2 => ⟨fun pos pins s σ H Q I h => (pk_cons h1 h2.pk).run pos pins s σ H Q I (by
    obtain ⟨M, B, L, ρ, p, h⟩ := h
    refine ⟨M, B, L, ρ, p, (post.bind h).mono fun w L1 M1 eA R x q v rv => ?_⟩
    refine ⟨M1, B, L1, ρ, p.next eA R x, (post.bind q).mono fun ws L2 M2 eA2 R2 x2 q2 vs rvs => ?_⟩
    exact q2.here eA2 R2 (v :: vs) ⟨v, vs, rfl, rv.ext R x2, rvs⟩)⟩
theorem je_callK {F : Fn} {np k : Nat} {f : Addr} {fd : FuncData} {ps ks : List Str} {x : Str} {kws : List Keyword} {a : SA} {p pos : Pos} (g : {α : Type} → List α → List α) (G : FnG X.prog X.w X.K X.mg X.base CX0 k f fd ps (spOf X.K T np F)) (hgu : X.A.guards = some []) (hr : Room k X.A)
    (hm : X.mg x = some (.ref f)) (hk : PySem.W.keepIn X.K (.ref f) = true) (hb : ∀ (s : Shared) (ws : List Value), ws.length = ks.length → BindsTo s fd ⟨[], ks.zip ws⟩ (ps.zip (g ws))) (hrel : ∀ {zs : List V} {ws : List Value}, Vals zs ws → Vals (g zs) (g ws))
    (hrw : ∀ {M : Mem} {ws : List W} {vs : List V}, RWs X.K T M ws vs → RWs X.K T M (g ws) (g vs)) (hn : ∀ {α : Type} (l : List α), l.length = ks.length → (g l).length = np)
    (ha : JK X T kws a) (hg : Gl X x := by rfl) (hdb : (x == ("__debug__" : Str)) = false := by decide) (hall : (backToKw pos (keywordEach kws X.env)).all (·.1.isSome) = true := by rfl) (hks : (backToKw pos (keywordEach kws X.env)).filterMap (·.1) = ks := by rfl)
    (hpl : ((backTo pos (starEach [] X.env)).any (·.1) || (backToKw pos (keywordEach kws X.env)).any (·.1.isNone)) = false := by rfl) : JE X T (.Call (.Name x p) [] kws pos) (eCallK ks.length np F (@g W) a) :=
  PE.weak (pe_callGK (g := g) G hgu hr hg hm hk hb hrel pass0 ha.pk hall hks hdb hpl) fun σ H Q h => by
    obtain ⟨M, B, L, ρ, p, h⟩ := h
    refine ⟨M, B, L, ρ, p, (post.bind h).mono fun ws L1 M1 eA R x q vs rvs => ?_⟩
    obtain ⟨hl, q⟩ := q.guard
    have hl := of_decide_eq_true hl
    have lv : vs.length = ks.length := by rw [← rvs.length]; exact hl
    exact ⟨lv, hn vs lv, M1, B, L1, g ws, rfl, eA, R, hrw rvs, q⟩
theorem rs_start {K : PySem.W.Frag} {M : Mem} {ws : List W} {vs : List V} (h : RWs K T M ws vs) (N : List Str) : RS K T M (ws.map some ++ List.replicate (N.length - ws.length) none) (start N vs) := by
  have hl := h.length
  refine ⟨by unfold L2.start; simp [hl], fun i w e => ?_⟩
  unfold L2.start
  have : ∀ {ws : List W} {vs : List V} {i : Nat} {w : W} {k j : Nat}, RWs K T M ws vs → (ws.map some ++ List.replicate k none)[i]? = some (some w) → ∃ v, (vs.map some ++ List.replicate j (none : Option V))[i]? = some (some v) ∧ RW K T M w v := by
    intro ws
    induction ws with
    | nil =>
      intro vs i w k j h e
      rw [List.map_nil, List.nil_append, List.getElem?_replicate] at e
      split at e <;> cases e
    | cons x xs ih =>
      intro vs i w k j h e
      obtain ⟨v, r, rfl, r1, r2⟩ := h
      cases i with
      | zero =>
        have e' : some (some x) = some (some w) := e
        cases e'
        exact ⟨v, rfl, r1⟩
      | succ i => exact ih (i := i) r2 e
  exact this h e
theorem spOf_body {K : PySem.W.Frag} {np : Nat} {N : List Str} {b : SS} {vs : List V} {H : Hp} {Q : VK} {E : XK} (h : spOf K T np (fnBody np N.length b) vs H Q E) : rS K T b { nx := fun _ H' => Q .non H', rt := Q } (start N vs) H := by
  obtain ⟨hl, M, B, L, ws, eH, eA, R, rv, h⟩ := h
  unfold fnBody at h
  rw [if_pos (by rw [rv.length]; exact hl)] at h
  refine ⟨M, B, L, _, ⟨eH, eA, R, rs_start rv N⟩, ?_⟩
  rw [show np = ws.length by rw [rv.length]; exact hl.symm] at h
  cases e : b B (ws.map some ++ List.replicate (N.length - ws.length) none) L with
  | next ρ' L' => rw [e] at h; exact fun M' σ' a' R' x' _ => h M' a' R' x' .non rfl
  | ret w L' => rw [e] at h; exact fun M' v a' R' x' rv => h M' a' R' x' v rv
  | brk _ _ => rw [e] at h; exact h.elim
  | cnt _ _ => rw [e] at h; exact h.elim
  | exc _ _ _ _ => rw [e] at h; exact h.elim
  | bad => rw [e] at h; exact h.elim
/-- the rule for a def, by its body -/
theorem fn_ok {P : Program} {w : World} {K : PySem.W.Frag} {mg : Str → Option Value} {base : Heap} {x qual : Str} {params : Arguments} {body : List Stmt} {scope : Scope} {dvs : List V} {kws : List (Str × V)} {f : Addr} {fd : FuncData} {N ps : List Str} {k : Nat} {b : SS}
    (F : FunD K x qual params body scope dvs kws f fd) (S : FnScope N ps scope)
    (hb : ∀ (cdv : Value) (A : Around) (outer : List Env) (s : Shared) (H : Hp) (E : XK), A.guards = some [] → Room k (A.deeper (envOfC qual scope s.heap.objs.size f cdv)) → JSs (cxOf CX0 P w K mg base N qual scope f cdv A outer s H E).nox T body b) :
    FnG P w K mg base CX0 (k + 1) f fd ps (spOf K T ps.length (fnBody ps.length N.length b)) :=
  fnG_of F S (fun vs H Q E h => h.1) fun cdv A outer s H vs Q E hg hr h => ⟨rS K T b, PSs.nox (hb cdv A outer s H E hg hr), spOf_body h⟩
/-! a call that changes nothing that stood before -/
theorem RW.out {K : PySem.W.Frag} {M' : Mem} {B L' : Hs} (R : Rep K T M') (eA : M'.A = B ++ L') {w w' : W} {v : V} (h : out B.length L' w = some w') (r : RW K T M' w v) : RW K T { M' with A := B } w' v := by
  have lv : ∀ n, liveAt B n → liveAt M'.A n := fun n ⟨o, e, l⟩ => ⟨o, by rw [eA, List.getElem?_append_left (List.getElem?_eq_some_iff.mp e).1]; exact e, l⟩
  cases w with
  | d x =>
    cases h
    exact RV.less (H := M'.H) (m := M'.m) lv x v r
  | ref k =>
    obtain ⟨hk, rfl⟩ := r
    unfold Ev.out at h
    dsimp only at h
    split at h
    · rename_i hlt
      cases h
      exact ⟨hlt, rfl⟩
    · rename_i hge
      have at_ : ∀ o, L'[k - B.length]? = some o → M'.A[k]? = some o := fun o e => by rw [eA, List.getElem?_append_right (by omega)]; exact e
      have sep : ∀ o, L'[k - B.length]? = some o → o.live = true → Sep { M' with A := B } (M'.m k) := fun o e l => ⟨fun n ln q => by
        have h1 : n = k := R.inj n k (lv n ln) ⟨o, at_ o e, l⟩ q
        obtain ⟨o', e', _⟩ := ln
        have h2 : n < B.length := (List.getElem?_eq_some_iff.mp e').1
        omega, fun hs => (R.sc _ hs).2 k ⟨o, at_ o e, l⟩ rfl⟩
      split at h
      · rename_i x e
        cases h
        exact RV.less (H := M'.H) (m := M'.m) lv x _ (R.at_ k _ (at_ _ e))
      · rename_i ws e
        obtain ⟨vs, q, rw⟩ := R.at_ k _ (at_ _ e)
        cases ea : allD ws with
        | none => rw [ea] at h; cases h
        | some xs =>
          rw [ea] at h
          cases h
          exact ⟨_, vs, rfl, sep _ e rfl, q, RVs.less (H := M'.H) (m := M'.m) lv xs vs (RWs.toD ea rw)⟩
      · rename_i ks ws e
        obtain ⟨kvs, q, kk, rw⟩ := R.at_ k _ (at_ _ e)
        cases ea : allD ws with
        | none => rw [ea] at h; cases h
        | some xs =>
          rw [ea] at h
          cases h
          exact ⟨_, kvs, rfl, sep _ e rfl, q, kk, RVs.less (H := M'.H) (m := M'.m) lv xs _ (RWs.toD ea rw)⟩
      · cases h
theorem RWs.back {K : PySem.W.Frag} {M M' : Mem} {A : Hs} (lv : ∀ n, liveAt A n → liveAt M'.A n) (hA : A = M.A) : ∀ {ws : List W} {vs us : List V}, RWs K T M ws vs → RWs K T M' ws us → RWs K T { M' with A := A } ws us
  | [], _, us, _, h => h
  | .d x :: ws, vs, us, h1, h2 => by
    obtain ⟨v, r, rfl, a1, a2⟩ := h1
    obtain ⟨u, r', rfl, b1, b2⟩ := h2
    exact ⟨u, r', rfl, RV.less (H := M'.H) (m := M'.m) lv x u b1, RWs.back lv hA a2 b2⟩
  | .ref k :: ws, vs, us, h1, h2 => by
    obtain ⟨v, r, rfl, a1, a2⟩ := h1
    obtain ⟨u, r', rfl, b1, b2⟩ := h2
    exact ⟨u, r', rfl, ⟨by rw [show ({ M' with A := A } : Mem).A = M.A from hA]; exact a1.1, b1.2⟩, RWs.back lv hA a2 b2⟩
theorem spOf_pure {K : PySem.W.Frag} {np : Nat} {F : Fn} {vs : List V} {H : Hp} {Q : VK} {E : XK} (h : spOf K T np (pureFn F) vs H Q E) : spOf K T np F vs H Q E := by
  obtain ⟨hl, M, B, L, ws, eH, eA, R, rv, h⟩ := h
  refine ⟨hl, M, B ++ L, [], ws, eH, by rw [List.append_nil]; exact eA, R, rv, ?_⟩
  unfold pureFn at h
  cases e : F ws (B ++ L) [] with
  | exc _ _ _ => rw [e] at h; exact h.elim
  | bad => rw [e] at h; exact h.elim
  | ok w L' =>
    rw [e] at h
    dsimp only at h
    intro M' eA' R' x' v rw'
    cases eo : out (B ++ L).length L' w with
    | none => rw [eo] at h; exact h.elim
    | some w' =>
      rw [eo] at h
      have lv : ∀ n, liveAt (B ++ L) n → liveAt M'.A n := fun n ⟨o, e, l⟩ => ⟨o, by rw [eA', List.getElem?_append_left (List.getElem?_eq_some_iff.mp e).1]; exact e, l⟩
      have R2 : Rep K T { M' with A := B ++ L } := by
        refine ⟨fun i j li lj q => R'.inj i j (lv i li) (lv j lj) q, fun n o q => ?_, fun a ha => ⟨(R'.sc a ha).1, fun n l => (R'.sc a ha).2 n (lv n l)⟩⟩
        have q : (B ++ L)[n]? = some o := q
        have hn := (List.getElem?_eq_some_iff.mp q).1
        have r' := R'.at_ n o (by rw [eA', List.getElem?_append_left hn]; exact q)
        have r := R.at_ n o (by rw [eA]; exact q)
        cases o with
        | frz x => exact RV.less (H := M'.H) (m := M'.m) lv x _ r'
        | lst ws => obtain ⟨vs, h1, h2⟩ := r; obtain ⟨us, g1, g2⟩ := r'; exact ⟨us, g1, RWs.back lv eA.symm h2 g2⟩
        | dct ks ws => obtain ⟨kvs, h1, k1, h2⟩ := r; obtain ⟨us, g1, k2, g2⟩ := r'; exact ⟨us, g1, k2, RWs.back lv eA.symm h2 g2⟩
        | ins c fs => obtain ⟨dx, gs, h1, k1, h2⟩ := r; obtain ⟨dx', us, g1, k2, g2⟩ := r'; exact ⟨dx', us, g1, k2, RWs.back lv eA.symm h2 g2⟩
        | dcn ks ws => obtain ⟨kvs, h1, i1, k1, j1, h2⟩ := r; obtain ⟨us, g1, i2, k2, j2, g2⟩ := r'; exact ⟨us, g1, i2, k2, RVs.less (H := M'.H) (m := M'.m) lv _ _ j2, RWs.back lv eA.symm h2 g2⟩
      have x2 : Ext M { M' with A := B ++ L } := ⟨⟨by rw [eA]; exact Nat.le_refl _, x'.same, fun n y q => by rw [← eA]; exact q, fun n hn l => by
        obtain ⟨o, e1, _⟩ := l
        rw [eA] at hn
        exact absurd (List.getElem?_eq_some_iff.mp e1).1 (Nat.not_lt.mpr hn), x'.keep, x'.there, x'.scr⟩, x'.sq, x'.ks⟩
      exact h { M' with A := B ++ L } rfl R2 x2 v (RW.out R' eA' eo rw')
theorem fn_pure {P : Program} {w : World} {K : PySem.W.Frag} {mg : Str → Option Value} {base : Heap} {f : Addr} {fd : FuncData} {ps : List Str} {k np : Nat} {F : Fn} (G : FnG P w K mg base CX0 k f fd ps (spOf K T np F)) : FnG P w K mg base CX0 k f fd ps (spOf K T np (pureFn F)) :=
  G.imp fun vs H Q E h => spOf_pure h
end
end Ev

set_option Elab.async false
set_option linter.all false
set_option maxRecDepth 100000
set_option maxHeartbeats 1000000
set_option autoImplicit false
/-! EvL: loops, comprehensions. -/
namespace Ev
open PySem PySem.Spec PyProof.Rows L2
/-! ### what is walked -/
section
variable {X : Cx} {T : Tb}
/-- at a later moment -/
def At (K : PySem.W.Frag) (T : Tb) (B : Hs) (M0 : Mem) (H : Hp) : Prop := ∃ M L', M.H = H ∧ M.A = B ++ L' ∧ Rep K T M ∧ Ext0 M0 M
/-- an iterator of the items xs -/
def Wk (K : PySem.W.Frag) (T : Tb) (J : It) (xs : List D) (B : Hs) (M0 : Mem) : Prop := ∃ Y, Walk J xs.length (At K T B M0) Y ∧
    ∀ (i : Nat) (v : V) (H' : Hp) (M : Mem) (L' : Hs) (x : D), Y i M.H v H' → M.A = B ++ L' → Rep K T M → Ext0 M0 M → xs[i]? = some x → ∃ M', M'.H = H' ∧ M'.A = M.A ∧ Rep K T M' ∧ Ext M M' ∧ RV K T M' x v
def rI (K : PySem.W.Frag) (T : Tb) (f : SI) : TI := fun σ H R => ∃ M B L ρ, Pt K T M B L ρ σ H ∧ post K T M B (f B ρ L) fun xs _ M' => ∀ J, Wk K T J xs B M' → R J M'.H
abbrev JI (X : Cx) (T : Tb) (tg iter : Expr) (f : SI) : Prop := PI X tg iter (rI X.K T f)
theorem PI.weak {tg e : Expr} {t u : TI} (h : PI X tg e t) (w : ∀ σ H R, u σ H R → t σ H R) : PI X tg e u := ⟨fun pins s σ H R I q => h.run pins s σ H R I (w σ H R q)⟩
theorem wk_at {K : PySem.W.Frag} {J : It} {xs : List D} {vs : List V} {B : Hs} {M0 : Mem} (R0 : Rep K T M0) (hv : RVs K T M0 xs vs) (w : Walk J vs.length (At K T B M0) (YAt vs)) : Wk K T J xs B M0 := by
  refine ⟨YAt vs, by rw [hv.length]; exact w, fun i v H' M L' x y eA R e hx => ?_⟩
  obtain ⟨rfl, hvi⟩ := y
  obtain ⟨u, e1, r1⟩ := hv.get hx
  rw [hvi] at e1
  cases e1
  exact ⟨M, rfl, rfl, R, Ext.refl M, RV.ext0 R0 e x v r1⟩
/-- a list of the callers, that may not be changed here -/
theorem wk_base {K : PySem.W.Frag} {xs : List D} {B : Hs} {M0 : Mem} {n : Nat} {ws : List W} (R0 : Rep K T M0) (hl : M0.A.length > n) (hn : B[n]? = some (.lst ws)) (ha : allD ws = some xs) : Wk K T (Itl K (M0.m n)) xs B M0 := by
  have at_ : ∀ {M : Mem} {L' : Hs}, M.A = B ++ L' → Rep K T M → Ext0 M0 M → ∃ vs, M.H (M0.m n) = some (.lst vs) ∧ RVs K T M xs vs := fun {M L'} eA R e => by
    have q := R.at_ n (.lst ws) (by rw [eA, List.getElem?_append_left (List.getElem?_eq_some_iff.mp hn).1]; exact hn)
    obtain ⟨vs, h1, h2⟩ := q
    rw [e.same n hl] at h1
    exact ⟨vs, h1, RWs.toD ha h2⟩
  refine ⟨fun i H v H' => H' = H ∧ ∀ us, SqL K H (M0.m n) us → us[i]? = some v, ⟨fun i H hi g => ?_, fun H g => ?_, fun i H v H' hi g y => y⟩, fun i v H' M L' x y eA R e hx => ?_⟩
  · obtain ⟨M, L', rfl, eA, R, e⟩ := g
    obtain ⟨vs, h1, h2⟩ := at_ eA R e
    have hi' : i < vs.length := by rw [← h2.length]; exact hi
    exact ⟨vs, vs[i], .inl (.inl h1), by simp [hi']⟩
  · obtain ⟨M, L', rfl, eA, R, e⟩ := g
    obtain ⟨vs, h1, h2⟩ := at_ eA R e
    exact ⟨vs, .inl (.inl h1), by rw [← h2.length]; exact Nat.le_refl _⟩
  · obtain ⟨rfl, y⟩ := y
    obtain ⟨vs, h1, h2⟩ := at_ eA R e
    obtain ⟨u, e1, r1⟩ := h2.get hx
    have := y vs (.inl (.inl h1))
    rw [e1] at this
    cases this
    exact ⟨M, rfl, rfl, R, Ext.refl M, r1⟩
/-- what a value that is walked may be -/
theorem still_cases {K : PySem.W.Frag} {M : Mem} {B L : Hs} (R : Rep K T M) (eA : M.A = B ++ L) {w : W} {v : V} {p : D} (h : still B L w = some p) (r : RW K T M w v) : RV K T M p v ∨ ∃ n ws xs, n < M.A.length ∧ B[n]? = some (.lst ws) ∧ p = .lst xs ∧ v = .ref (M.m n) ∧ allD ws = some xs := by
  cases w with
  | d x => cases h; exact .inl r
  | ref n =>
    obtain ⟨hn, rfl⟩ := r
    unfold still look at h
    rw [← eA] at h
    dsimp only at h
    split at h
    · rename_i x e
      cases h
      exact .inl (R.at_ n _ e)
    · rename_i ws e
      split at h
      · rename_i hb
        cases ea : allD ws with
        | none => rw [ea] at h; cases h
        | some xs =>
          rw [ea] at h
          cases h
          refine .inr ⟨n, ws, xs, hn, ?_, rfl, rfl, ea⟩
          rw [eA, List.getElem?_append_left hb] at e
          exact e
      · cases h
    · cases h
theorem still_sq {K : PySem.W.Frag} {M : Mem} {B L : Hs} (R : Rep K T M) (eA : M.A = B ++ L) {w : W} {v : V} {xs : List D} (h : still B L w = some (.lst xs)) (r : RW K T M w v) : ∃ a, v = .ref a ∧ (∃ vs, SqL K M.H a vs) ∧ Wk K T (Itl K a) xs B M := by
  rcases still_cases R eA h r with ⟨a, vs, rfl, sp, l, rv⟩ | ⟨n, ws, xs', hn, hb, e, rfl, ea⟩
  · refine ⟨a, rfl, ⟨vs, .inl (.inl l)⟩, wk_at R rv ?_⟩
    exact walk_list.mono (fun H ⟨M', L', eH, _, R', e'⟩ => eH ▸ .inl (.inl (e'.keep _ _ l sp))) fun i H x H' _ _ y => y
  · cases e
    obtain ⟨vs, h1, h2⟩ := R.at_ n (.lst ws) (by rw [eA, List.getElem?_append_left (List.getElem?_eq_some_iff.mp hb).1]; exact hb)
    exact ⟨_, rfl, ⟨vs, .inl (.inl h1)⟩, wk_base R hn hb ea⟩
theorem still_scr {K : PySem.W.Frag} {M : Mem} {B L : Hs} (R : Rep K T M) (eA : M.A = B ++ L) {w : W} {v : V} {xs : List D} (h : still B L w = some (.scr xs)) (r : RW K T M w v) : ∃ a, v = .ref a ∧ (∃ vs, SqL K M.H a vs) ∧ Wk K T (Itl K a) xs B M := by
  rcases still_cases R eA h r with ⟨a, vs, rfl, s, rv⟩ | ⟨n, ws, xs', hn, hb, e, rfl, ea⟩
  · rcases s with ⟨sp, l⟩ | k
    · refine ⟨a, rfl, ⟨vs, .inl l⟩, wk_at R rv ?_⟩
      exact walk_list.mono (fun H ⟨M', L', eH, _, R', e'⟩ => eH ▸ .inl (e'.rd l sp)) fun i H x H' _ _ y => y
    · refine ⟨a, rfl, ⟨vs, .inr k⟩, wk_at R rv ?_⟩
      exact walk_list.mono (fun H _ => .inr k) fun i H x H' _ _ y => y
  · cases e
/-! the iterators of lists, tuples, texts: which one it is shows when the value has come -/
theorem pi_seq {tg e : Expr} {te : TE} (he : PE X e te) : PI X tg e (fun σ H R => te σ H fun x H1 => (∃ a xs, x = .ref a ∧ SqL X.K H1 a xs ∧ R (Itl X.K a) H1) ∨ (∃ a xs, x = .ref a ∧ SqT X.K H1 a xs ∧ R (Itt X.K a) H1) ∨ ∃ z, x = .str z ∧ R (Its z) H1) := by
  refine ⟨fun pins s σ H R I h => thn (he.run pins s σ H _ I h) fun v s1 hv => ?_⟩
  obtain ⟨x, H1, I1, rx, q⟩ := hv
  rcases q with ⟨a, xs, rfl, hq, q⟩ | ⟨a, xs, rfl, hq, q⟩ | ⟨z, rfl, q⟩
  · obtain rfl : v = Value.ref a := rx
    obtain ⟨its, _, pl, _⟩ := I1.list hq
    exact wpAny_pyIter_list pl.isList (pi_one (tk := s1.toks) I1 _ (turn_list a _) ⟨_, Heap.get?_push_size _ rfl, rfl, rfl⟩ q)
  · obtain rfl : v = Value.ref a := rx
    obtain ⟨its, _, pl, _⟩ := I1.tuple hq
    exact wpAny_pyIter_tuple (show s1.heap.IsTuple a its.toArray from pl) (pi_one (tk := s1.toks) I1 _ (turn_tuple a _) ⟨_, Heap.get?_push_size _ rfl, rfl, rfl⟩ q)
  · obtain ⟨t, rfl⟩ := rx
    by_cases hz : z.cps.all (· < 128) = true
    · exact wpAny_pyIter_ascii hz (pi_one (tk := s1.toks) I1 _ (turn_str _ z t "str_ascii_iterator" (.inl rfl)) ⟨_, Heap.get?_push_size _ rfl, rfl, rfl⟩ q)
    · exact wpAny_pyIter_wide (Bool.not_eq_true _ ▸ hz) (pi_one (tk := s1.toks) I1 _ (turn_str _ z t "str_iterator" (.inr rfl)) ⟨_, Heap.get?_push_size _ rfl, rfl, rfl⟩ q)
theorem wk_str {K : PySem.W.Frag} {B : Hs} {M0 : Mem} (s : List Nat) : Wk K T (Its ⟨s.toArray⟩) (s.map fun c => .str [c]) B M0 := by
  refine ⟨_, (walk_str (z := ⟨s.toArray⟩)).mono (G' := At K T B M0) (fun _ _ => trivial) (fun i H x H' _ _ y => y) |> fun w => by
    have e : (s.map fun c => D.str [c]).length = (⟨s.toArray⟩ : Str).cps.size := by simp
    rw [e]; exact w, fun i v H' M L' x y eA R e hx => ?_⟩
  obtain ⟨rfl, c, hc, rfl⟩ := y
  refine ⟨M, rfl, rfl, R, Ext.refl M, ?_⟩
  have hc : s.toArray[i]? = some c := hc
  rw [List.getElem?_map] at hx
  have hs : s[i]? = some c := by simpa using hc
  rw [hs] at hx
  cases hx
  rfl
theorem ji_seq {tg e : Expr} {f : SE} (he : JE X T e f) : JI X T tg e (iE f) := PI.weak (pi_seq he) fun σ H R h => by
  obtain ⟨M, B, L, ρ, p, h⟩ := h
  refine ⟨M, B, L, ρ, p, (post.bind h).mono fun w L1 M1 eA Rp x q v rv => ?_⟩
  obtain ⟨pd, ep, q⟩ := q.opt
  obtain ⟨xs, ex, q⟩ := q.opt1
  cases pd with
  | lst ys =>
    cases ex
    obtain ⟨a, rfl, ⟨vs, hs⟩, wk⟩ := still_sq Rp eA ep rv
    exact .inl ⟨a, vs, rfl, hs, q.here eA Rp _ wk⟩
  | scr ys =>
    cases ex
    obtain ⟨a, rfl, ⟨vs, hs⟩, wk⟩ := still_scr Rp eA ep rv
    exact .inl ⟨a, vs, rfl, hs, q.here eA Rp _ wk⟩
  | tup ys =>
    cases ex
    rcases still_cases Rp eA ep rv with ⟨a, vs, rfl, s, rv⟩ | ⟨n, ws, xs', hn, hb, e, rfl, ea⟩
    · exact .inr (.inl ⟨a, vs, rfl, s.1, q.here eA Rp _ (wk_at Rp rv (walk_tup.mono (fun H ⟨M', L', eH, _, R', e'⟩ => eH ▸ e'.sqT Rp s.1) fun i H x H' _ _ y => y))⟩)
    · cases e
  | str s =>
    cases ex
    rcases still_cases Rp eA ep rv with e | ⟨n, ws, xs', hn, hb, e, _⟩
    · exact .inr (.inr ⟨_, e, q.here eA Rp _ (wk_str s)⟩)
    · cases e
  | _ => cases ex
theorem wk_range {K : PySem.W.Frag} {B : Hs} {M0 : Mem} (n : Nat) : Wk K T (Itr 0 n) ((List.range n).map fun (i : Nat) => .int i) B M0 := by
  refine ⟨_, (walk_range (lo := 0) (n := n)).mono (G' := At K T B M0) (fun _ _ => trivial) (fun i H x H' _ _ y => y) |> fun w => by
    have e : ((List.range n).map fun (i : Nat) => D.int i).length = n := by simp
    rw [e]; exact w, fun i v H' M L' x y eA R e hx => ?_⟩
  obtain ⟨rfl, rfl⟩ := y
  refine ⟨M, rfl, rfl, R, Ext.refl M, ?_⟩
  rw [List.getElem?_map] at hx
  cases hr : (List.range n)[i]? with
  | none => rw [hr] at hx; cases hx
  | some j =>
    rw [hr] at hx
    have hj : j = i := by
      have := List.getElem?_eq_some_iff.mp hr
      obtain ⟨h1, h2⟩ := this
      rw [List.getElem_range] at h2
      exact h2.symm
    cases hx
    subst hj
    show V.int (0 + (j : Int)) = V.int j
    rw [Int.zero_add]
theorem ji_range {tg a : Expr} {f : SE} {p pos : Pos} (hm : X.mg "range" = none) (ha : JE X T a f) (hg : Gl X "range" := by rfl) (hs : starEach [a] X.env = [(false, eval a X.env)] := by rfl) : JI X T tg (.Call (.Name "range" p) [a] [] pos) (iRange f) :=
  PI.weak (pi_range1 hg hm (pa_cons ha pa_nil hs) hs) fun σ H R h => by
    obtain ⟨M, B, L, ρ, p, h⟩ := h
    refine ⟨M, B, L, ρ, p, (post.bind h).mono fun w L1 M1 eA Rp x q v rv => ?_⟩
    obtain ⟨pd, ev, dv, q⟩ := q.view Rp eA rv
    obtain ⟨j, ej, q1⟩ := q.opt
    obtain ⟨hj, q9⟩ := q1.guard
    have hj := of_decide_eq_true hj
    clear q q1
    cases pd with
    | int i =>
      cases ej
      rcases dv with rfl | ⟨_, _, _, e, _⟩ | ⟨_, _, _, _, e, _⟩
      · exact ⟨j, rfl, hj.1, hj.2, q9.here eA Rp _ (wk_range _)⟩
      · cases e
      · cases e
    | _ => cases ej

/-! ### for, while -/
theorem js_for {tg iter : Expr} {body : List Stmt} {f : SI} {g : SG} {is : List Nat} {b : SS} {pos : Pos} (hp : PassesOwn (model X.prog X.w) X.A X.env X.xe) (hc : X.calm = true) (hi : JI X T tg iter f) (hg : JG X T tg g is) (hb : JSs X T body b)
    (hs : ∀ x, foldedSetIterable iter X.env x = pure x := by intro _; rfl) : JS X T (.For tg iter body [] pos) (sFor f g b) := PS.weak (ps_for hp hc hi hg hb hs) fun Dn σ H h => by
  obtain ⟨M, B, L, ρ, p, h⟩ := h
  refine ⟨M, B, L, ρ, p, (post.st h).mono fun xs L1 M1 eA R x q J wk => ?_⟩
  obtain ⟨Y, w, hy⟩ := wk
  refine for_it w (fun i σ' H' => ∃ M' L' ρ', M'.H = H' ∧ M'.A = B ++ L' ∧ Rep X.K T M' ∧ Ext M1 M' ∧ RS X.K T M' ρ' σ' ∧ postS X.K T M' B (forGo g b B (xs.drop i) ρ' L') Dn) ?_ ?_ ?_ ?_
  · exact ⟨M1, L1, ρ, rfl, eA, R, Ext.refl M1, p.rs.ext p.rep x, q⟩
  · rintro i σ' H' _ ⟨M', L', ρ', e1, e2, e3, e4, _⟩
    exact ⟨M', L', e1, e2, e3, e4.toExt0⟩
  · rintro i v σ' H' H'' hlt ⟨M', L', ρ', rfl, e2, R', e4, rs, q⟩ y
    have hx : xs[i]? = some xs[i] := List.getElem?_eq_getElem hlt
    obtain ⟨M2, rfl, a2, R2, x2, rv⟩ := hy i v H'' M' L' _ y e2 R' e4.toExt0 hx
    rw [List.drop_eq_getElem_cons hlt] at q
    refine ⟨M2, B, L', ρ', .d xs[i], ⟨rfl, a2.trans e2, R2, rs.ext R' x2⟩, rv, (post.st (postS.later q x2)).mono fun ρ1 L2 M3 a3 R3 x3 q σ2 rs2 _ => ?_⟩
    refine ⟨M3, B, L2, ρ1, ⟨rfl, a3, R3, rs2⟩, ?_⟩
    have base : Ext M1 M3 := (e4.trans x2).trans x3
    cases e : b B ρ1 L2 with
    | next ρ2 L3 =>
      rw [e] at q
      exact fun M4 σ4 a4 R4 x4 rs4 => ⟨M4, L3, ρ2, rfl, a4, R4, base.trans x4, rs4, postS.later q x4⟩
    | cnt ρ2 L3 =>
      rw [e] at q
      exact fun M4 σ4 a4 R4 x4 rs4 => ⟨M4, L3, ρ2, rfl, a4, R4, base.trans x4, rs4, postS.later q x4⟩
    | brk ρ2 L3 => rw [e] at q; exact q
    | ret w L3 => rw [e] at q; exact q
    | exc _ _ _ _ => rw [e] at q; exact q.elim
    | bad => rw [e] at q; exact q.elim
  · rintro σ' H' ⟨M', L', ρ', rfl, e2, R', e4, rs, q⟩
    rw [List.drop_length] at q
    exact q.ext_next e2 R' rs
theorem js_while {c : Expr} {body : List Stmt} {f : ST} {b : SS} {n : Nat} {pos : Pos} (hp : PassesOwn (model X.prog X.w) X.A X.env X.xe) (hc : JT X T c f) (hb : JSs X T body b) : JS X T (.While c body [] pos) (sWhile n f b) := PS.weak (ps_while hp hc hb) fun Dn σ H h => by
  obtain ⟨M, B, L, ρ, p, h⟩ := h
  refine ⟨fun m σ H => ∃ M B L ρ, Pt X.K T M B L ρ σ H ∧ postS X.K T M B (whileGo f b B m ρ L) Dn, ⟨n, M, B, L, ρ, p, h⟩, fun m σ H hW => ?_⟩
  obtain ⟨M, B, L, ρ, p, h⟩ := hW
  cases m with
  | zero => exact (h : False).elim
  | succ m =>
    refine ⟨M, B, L, ρ, p, (post.st h).mono fun k L1 M1 eA R x q => ?_⟩
    cases k with
    | false => rw [if_neg Bool.false_ne_true] at q; rw [if_neg Bool.false_ne_true]; exact q.ext_next eA R (p.rs.ext p.rep x)
    | true =>
      rw [if_pos rfl] at q
      rw [if_pos rfl]
      refine ⟨fun σ' H' => ∃ M B L ρ, Pt X.K T M B L ρ σ' H' ∧ postS X.K T M B (whileGo f b B m ρ L) Dn, fun σ' H' hN => ⟨m, Nat.lt_succ_self m, hN⟩, M1, B, L1, ρ, p.next eA R x, ?_⟩
      cases e : b B ρ L1 with
      | next ρ2 L3 =>
        rw [e] at q
        exact fun M4 σ4 a4 R4 x4 rs4 => ⟨M4, B, L3, ρ2, ⟨rfl, a4, R4, rs4⟩, postS.later q x4⟩
      | cnt ρ2 L3 =>
        rw [e] at q
        exact fun M4 σ4 a4 R4 x4 rs4 => ⟨M4, B, L3, ρ2, ⟨rfl, a4, R4, rs4⟩, postS.later q x4⟩
      | brk ρ2 L3 => rw [e] at q; exact q
      | ret w L3 => rw [e] at q; exact q
      | exc _ _ _ _ => rw [e] at q; exact q.elim
      | bad => rw [e] at q; exact q.elim

/-! ### comprehensions -/
theorem wipe_get (σ : L2.St) : ∀ (vs : List Nat) (j : Nat), j ∉ vs → (L2.wipe σ vs)[j]? = σ[j]?
  | [], _, _ => rfl
  | v :: vs, j, h => by
    unfold L2.wipe
    rw [List.getElem?_set_ne (fun e => h (by simp [e])), wipe_get σ vs j fun z => h (List.mem_cons_of_mem _ z)]
theorem wipe_in (σ : L2.St) : ∀ (vs : List Nat) (j : Nat), j ∈ vs → j < σ.length → (L2.wipe σ vs)[j]? = some none
  | v :: vs, j, h, hl => by
    unfold L2.wipe
    by_cases e : v = j
    · subst e
      rw [List.getElem?_set_self (by rw [wipe_length]; exact hl)]
    · rw [List.getElem?_set_ne e]
      exact wipe_in σ vs j ((List.mem_cons.mp h).resolve_left fun z => e z.symm) hl
theorem wipe_stay {σ σ' : L2.St} {is vs : List Nat} (h : Stay is (L2.wipe σ vs) σ') (hi : ∀ i ∈ is, i ∈ vs) : L2.wipe σ' vs = L2.wipe σ vs := by
  apply List.ext_getElem?
  intro j
  have hl : σ'.length = σ.length := by rw [h.1, wipe_length]
  by_cases hj : j ∈ vs
  · by_cases hjl : j < σ.length
    · rw [wipe_in σ' vs j hj (by rw [hl]; exact hjl), wipe_in σ vs j hj hjl]
    · rw [List.getElem?_eq_none (by rw [wipe_length, hl]; omega), List.getElem?_eq_none (by rw [wipe_length]; omega)]
  · rw [wipe_get σ' vs j hj, h.2 j fun z => hj (hi j z)]
theorem wipeE_length (ρ : Sl) : ∀ vs : List Nat, (Ev.wipe ρ vs).length = ρ.length
  | [] => rfl
  | v :: vs => by unfold Ev.wipe; rw [List.length_set, wipeE_length ρ vs]
theorem wipeE_in (ρ : Sl) : ∀ (vs : List Nat) (j : Nat) (w : W), (Ev.wipe ρ vs)[j]? = some (some w) → j ∉ vs ∧ ρ[j]? = some (some w)
  | [], j, w, h => ⟨by simp, h⟩
  | v :: vs, j, w, h => by
    unfold Ev.wipe at h
    by_cases e : v = j
    · subst e
      rw [List.getElem?_set_self'] at h
      cases q : (Ev.wipe ρ vs)[v]? with
      | none => rw [q] at h; cases h
      | some o => rw [q] at h; cases h
    · rw [List.getElem?_set_ne e] at h
      obtain ⟨h1, h2⟩ := wipeE_in ρ vs j w h
      exact ⟨fun z => (List.mem_cons.mp z).elim (fun q => e q.symm) h1, h2⟩
theorem RS.wipe {K : PySem.W.Frag} {M : Mem} {ρ : Sl} {σ : L2.St} (h : RS K T M ρ σ) (vs : List Nat) : RS K T M (Ev.wipe ρ vs) (L2.wipe σ vs) := by
  refine ⟨by rw [wipeE_length, wipe_length]; exact h.1, fun j w e => ?_⟩
  obtain ⟨h1, h2⟩ := wipeE_in ρ vs j w e
  obtain ⟨v, e1, r⟩ := h.2 j w h2
  exact ⟨v, by rw [wipe_get σ vs j h1]; exact e1, r⟩
abbrev JTs (X : Cx) (T : Tb) (es : List Expr) (f : ST) : Prop := PTs X es (rT X.K T f)
theorem PTs.weak {es : List Expr} {t u : TT} (h : PTs X es t) (w : ∀ σ H Q, u σ H Q → t σ H Q) : PTs X es u := ⟨fun pins s σ H Q I q => h.run pins s σ H Q I (w σ H Q q)⟩
theorem jts_nil : JTs X T [] Ev.tYes := PTs.weak pts_nil fun σ H Q h => by
  obtain ⟨M, B, L, ρ, p, h⟩ := h
  have : Q true M.H := h M p.eA p.rep (Ext.refl M)
  rw [p.eH] at this
  exact this
theorem jts_one {c : Expr} {f : ST} (h : JT X T c f) : JTs X T [c] f := pts_one h
/-- an object in the making at d -/
def Mem.open (M : Mem) (d : Addr) (o : HO) : Mem := { M with H := upd M.H d o, S := d :: M.S }
def Mem.close (M : Mem) (S : List Addr) : Mem := { M with S := S }
def Mem.put (M : Mem) (d : Addr) (o : HO) : Mem := { M with H := upd M.H d o }
def Plain (o : HO) : Prop := (∀ xs, o ≠ .tup xs) ∧ (∀ q u, o ≠ .frz q u)
section
variable {K : PySem.W.Frag} {M M' M0 : Mem} {d : Addr} {o o' : HO} {S : List Addr}
/-- M' keeps what stands for data in M -/
structure Keeps (M M' : Mem) : Prop where
  tup : ∀ a xs, SqT K M.H a xs → SqT K M'.H a xs
  sep : ∀ a, Sep M a → M.H a ≠ none → Sep M' a
  obj : ∀ a o, M.H a = some o → Sep M a → M'.H a = some o
  A : M.A.length ≤ M'.A.length
  m : ∀ n, n < M.A.length → M'.m n = M.m n
  plt : ∀ a, PlT K M.H a → PlT K M'.H a
theorem Keeps.sqP (k : Keeps (K := K) M M') {ds : List D} {a : Addr} {vs : List V} (h : SqP K M.H ds a vs) : SqP K M'.H ds a vs := ⟨k.tup a vs h.1, fun r => k.plt a (h.2 r)⟩
mutual
theorem RV.keeps (k : Keeps (K := K) M M') : ∀ (x : D) (v : V), RV K T M x v → RV K T M' x v
  | .non, v, h => h
  | .bl b, v, h => h
  | .int i, v, h => h
  | .str s, v, h => h
  | .tup xs, v, h => by
    obtain ⟨a, vs, q, s, r⟩ := h
    exact ⟨a, vs, q, k.sqP s, RVs.keeps k xs vs r⟩
  | .lst xs, v, h => by
    obtain ⟨a, vs, q, s, l, r⟩ := h
    exact ⟨a, vs, q, k.sep a s (by rw [l]; intro z; cases z), k.obj _ _ l s, RVs.keeps k xs vs r⟩
  | .scr xs, v, h => by
    obtain ⟨a, vs, q, s, r⟩ := h
    refine ⟨a, vs, q, ?_, RVs.keeps k xs vs r⟩
    rcases s with ⟨s, l⟩ | z
    · refine .inl ⟨k.sep a s (rd_ne l), ?_⟩
      rcases l with l | ⟨u, l⟩
      · exact .inl (k.obj _ _ l s)
      · exact .inr ⟨u, k.obj _ _ l s⟩
    · exact .inr z
  | .dct ks xs, v, h => by
    obtain ⟨a, kvs, q, s, l, kk, r⟩ := h
    exact ⟨a, kvs, q, k.sep a s (by rw [l]; intro z; cases z), k.obj _ _ l s, kk, RVs.keeps k xs _ r⟩
  | .set _, v, h => h
  | .obj _ _, v, h => h
  | .fn i, v, h => h
theorem RVs.keeps (k : Keeps (K := K) M M') : ∀ (ds : List D) (vs : List V), RVs K T M ds vs → RVs K T M' ds vs
  | [], vs, h => h
  | x :: xs, vs, h => by
    obtain ⟨v, r, q, h1, h2⟩ := h
    exact ⟨v, r, q, RV.keeps k x v h1, RVs.keeps k xs r h2⟩
end
theorem RW.keeps (k : Keeps (K := K) M M') : ∀ {w : W} {v : V}, RW K T M w v → RW K T M' w v
  | .d x, v, h => RV.keeps k x v h
  | .ref n, v, h => ⟨Nat.lt_of_lt_of_le h.1 k.A, by rw [k.m n h.1]; exact h.2⟩
theorem RWs.keeps (k : Keeps (K := K) M M') : ∀ {ws : List W} {vs : List V}, RWs K T M ws vs → RWs K T M' ws vs
  | [], vs, h => h
  | w :: ws, vs, h => by
    obtain ⟨v, r, q, h1, h2⟩ := h
    exact ⟨v, r, q, h1.keeps k, RWs.keeps k h2⟩
theorem RS.keeps (k : Keeps (K := K) M M') {ρ : Sl} {σ : L2.St} (h : RS K T M ρ σ) : RS K T M' ρ σ := ⟨h.1, fun i w q => let ⟨v, e1, r⟩ := h.2 i w q; ⟨v, e1, r.keeps k⟩⟩
theorem Rep.keeps (R : Rep K T M) (k : Keeps (K := K) M M') (kA : M'.A = M.A) (km : M'.m = M.m) (hp : ∀ n o, liveAt M.A n → M.H (M.m n) = some o → M'.H (M.m n) = some o) (sc : ∀ a ∈ M'.S, (∃ o, M'.H a = some o ∧ (∀ xs, o ≠ .tup xs) ∧ (∀ q u, o ≠ .frz q u)) ∧ ∀ n, liveAt M'.A n → M'.m n ≠ a) : Rep K T M' := by
  refine ⟨fun i j li lj q => ?_, fun n ob q => ?_, sc⟩
  · rw [kA] at li lj
    rw [km] at q
    exact R.inj i j li lj q
  · rw [kA] at q
    have r := R.at_ n ob q
    rw [km]
    cases ob with
    | frz x => exact RV.keeps k x _ r
    | lst ws => obtain ⟨vs, h1, h2⟩ := r; exact ⟨vs, hp n _ ⟨_, q, rfl⟩ h1, h2.keeps k⟩
    | dct ks ws => obtain ⟨kvs, h1, h2, h3⟩ := r; exact ⟨kvs, hp n _ ⟨_, q, rfl⟩ h1, h2, h3.keeps k⟩
    | ins c fs => obtain ⟨dx, gs, h1, h2, h3⟩ := r; exact ⟨dx, gs, hp n _ ⟨_, q, rfl⟩ h1, h2, h3.keeps k⟩
    | dcn ks ws => obtain ⟨kvs, h1, h2, h3, h4, h5⟩ := r; exact ⟨kvs, hp n _ ⟨_, q, rfl⟩ h1, h2, h3, RVs.keeps k _ _ h4, h5.keeps k⟩
theorem np_fresh (R : Rep K T M) (hd : M.H d = none) : NP M d := fun n l q => by
  obtain ⟨u, e, _⟩ := R.live_kind l
  rw [q, hd] at e
  cases e
theorem opened (R : Rep K T M) (hd : M.H d = none) (ho : Plain o) : Rep K T (M.open d o) ∧ Ext0 M (M.open d o) ∧ Keeps (K := K) M (M.open d o) := by
  have e0 : Ext0 M (M.open d o) := ⟨Nat.le_refl _, fun _ _ => rfl, fun _ _ h => h, fun n h ⟨o, e, _⟩ => absurd (List.getElem?_eq_some_iff.mp e).1 (Nat.not_lt.mpr h),
    fun a u h _ => (upd_ne (ne_of_none h hd)).trans h, fun a h => by
      show upd M.H d o a ≠ none
      unfold upd
      split
      · intro z; cases z
      · exact h, fun a h => (List.mem_cons.mp h).elim (fun z => .inr (z ▸ hd)) .inl⟩
  have k : Keeps (K := K) M (M.open d o) := ⟨fun a xs h => e0.sqT R h, fun a s h => s.ext e0 h, fun a u h s => e0.keep a u h s, Nat.le_refl _, fun _ _ => rfl, fun a h => e0.plT R h⟩
  refine ⟨R.keeps k rfl rfl (fun n u _ h => (upd_ne (ne_of_none h hd)).trans h) fun a ha => ?_, e0, k⟩
  rcases List.mem_cons.mp ha with e | ha
  · subst e
    exact ⟨⟨o, upd_same, ho.1, ho.2⟩, fun n l => np_fresh R hd n l⟩
  · obtain ⟨⟨u, h1, h2⟩, h3⟩ := R.sc a ha
    exact ⟨⟨u, (upd_ne (ne_of_none h1 hd)).trans h1, h2⟩, h3⟩
/-- what is in the making is changed -/
theorem written (R : Rep K T M) (hd : d ∈ M.S) (ho : Plain o) : Rep K T (M.put d o) ∧ Keeps (K := K) M (M.put d o) := by
  obtain ⟨⟨u, hu, n1, n2⟩, np⟩ := R.sc d hd
  have k : Keeps (K := K) M (M.put d o) := by
    refine ⟨fun a xs h => ?_, fun a s h => s, fun a u h s => (upd_ne (fun z : a = d => s.2 (by rw [z]; exact hd))).trans h, Nat.le_refl _, fun _ _ => rfl, fun a h => ?_⟩
    rotate_left
    · rcases h with ⟨q, vs, h, hd'⟩ | h
      · exact .inl ⟨q, vs, (upd_ne (fun z => by subst z; exact rd_tup (.inr ⟨q, h⟩) hu n1 n2)).trans h, hd'⟩
      · exact .inr h
    rcases h with h | h
    · have hne : a ≠ d := fun z => by
        subst z
        exact rd_tup h hu n1 n2
      rcases h with h | ⟨q, h⟩
      · exact .inl (.inl ((upd_ne hne).trans h))
      · exact .inl (.inr ⟨q, (upd_ne hne).trans h⟩)
    · exact .inr h
  refine ⟨R.keeps k rfl rfl (fun n u l h => (upd_ne (np n l)).trans h) fun a ha => ?_, k⟩
  obtain ⟨⟨u, h1, h2⟩, h3⟩ := R.sc a ha
  by_cases q : a = d
  · subst q
    exact ⟨⟨o, upd_same, ho.1, ho.2⟩, h3⟩
  · exact ⟨⟨u, (upd_ne q).trans h1, h2⟩, h3⟩
theorem put_ext0 (e : Ext0 M0 M) (hd : d ∈ M0.S ∨ M0.H d = none) : Ext0 M0 (M.put d o) := ⟨e.len, e.same, e.fz, e.new, fun a u h s => (upd_ne (fun z : a = d => hd.elim (fun y => s.2 (by rw [z]; exact y)) (ne_of_none h · z))).trans (e.keep a u h s), fun a h => by
  show upd M.H d o a ≠ none
  unfold upd
  split
  · intro z; cases z
  · exact e.there a h, e.scr⟩
/-- when it is made -/
theorem closed (R0 : Rep K T M0) (hd : M0.H d = none) (R : Rep K T M) (e : Ext0 M0 M) (hS : M.S = d :: M0.S) (ks : ∀ a, a ∈ M0.S → M.H a = M0.H a) : Rep K T (M.close M0.S) ∧ Ext M0 (M.close M0.S) ∧ Keeps (K := K) M (M.close M0.S) ∧ Sep (M.close M0.S) d := by
  have nd : d ∉ M0.S := fun z => by
    obtain ⟨⟨u, h, _⟩, _⟩ := R0.sc d z
    rw [hd] at h
    cases h
  have k : Keeps (K := K) M (M.close M0.S) := ⟨fun a xs h => h, fun a s h => ⟨s.1, fun z => s.2 (by rw [hS]; exact List.mem_cons_of_mem _ z)⟩, fun a u h s => h, Nat.le_refl _, fun _ _ => rfl, fun a h => h⟩
  exact ⟨R.keeps k rfl rfl (fun n u _ h => h) fun a ha => R.sc a (by rw [hS]; exact List.mem_cons_of_mem _ ha), ⟨⟨e.len, e.same, e.fz, e.new, e.keep, e.there, fun a h => .inl h⟩, rfl, ks⟩, k, ⟨(R.sc d (by rw [hS]; simp)).2, nd⟩⟩
/-- a comprehension that makes the list at d: Mb ahead of it, M' at a moment -/
structure CI (K : PySem.W.Frag) (T : Tb) (Mb : Mem) (d : Addr) (B : Hs) (M' : Mem) (L' : Hs) (acc : List D) (us : List V) : Prop where
  eA : M'.A = B ++ L'
  rep : Rep K T M'
  sS : M'.S = d :: Mb.S
  e0 : Ext0 Mb M'
  at_ : M'.H d = some (.lst us)
  rv : RVs K T M' acc us
  ks : ∀ a, a ∈ Mb.S → M'.H a = Mb.H a
theorem CI.next {Mb M' : Mem} {B L' L2 : Hs} {acc : List D} {us : List V} (c : CI K T Mb d B M' L' acc us) {M2 : Mem} (eA : M2.A = B ++ L2) (R : Rep K T M2) (e : Ext M' M2) : CI K T Mb d B M2 L2 acc us :=
  ⟨eA, R, e.sq.trans c.sS, c.e0.trans e.toExt0, (e.ks d (by rw [c.sS]; simp)).trans c.at_, RVs.ext c.rep e acc us c.rv, fun a h => (e.ks a (by rw [c.sS]; exact List.mem_cons_of_mem _ h)).trans (c.ks a h)⟩
theorem plain_lst (us : List V) : Plain (.lst us) := ⟨(fun _ z => by cases z), (fun _ _ z => by cases z)⟩
theorem CI.put {Mb M' : Mem} {B L' : Hs} {acc : List D} {us : List V} (c : CI K T Mb d B M' L' acc us) (R0 : Rep K T Mb) (hd : Mb.H d = none) {y : D} {v : V} (r : RV K T M' y v) : CI K T Mb d B (M'.put d (.lst (us ++ [v]))) L' (acc ++ [y]) (us ++ [v]) ∧ Keeps (K := K) M' (M'.put d (.lst (us ++ [v]))) := by
  obtain ⟨R, k⟩ := written c.rep (d := d) (by rw [c.sS]; simp) (plain_lst (us ++ [v]))
  refine ⟨⟨c.eA, R, c.sS, put_ext0 c.e0 (.inr hd), upd_same, ?_, fun a h => ?_⟩, k⟩
  · exact (RVs.keeps k acc us c.rv).append ⟨v, [], rfl, RV.keeps k y v r, rfl⟩
  · have : a ≠ d := fun z => by
      subst z
      obtain ⟨⟨u, e, _⟩, _⟩ := R0.sc a h
      rw [hd] at e
      cases e
    exact (upd_ne this).trans (c.ks a h)
/-- THE TURNS of a comprehension -/
theorem comp_loop {J : It} {xs : List D} {B : Hs} {Mw Mb : Mem} (wk : Wk K T J xs B Mw) (R0 : Rep K T Mb) (hd : Mb.H d = none) {g : SG} {is vs : List Nat} {c : ST} {e : SE} {ρw : Sl} {σw : L2.St} {Qd : Hp → Prop}
    (hw : ∀ σ2, Stay is σw σ2 → L2.wipe σ2 vs = σw) (hMw : d ∈ Mw.S ∨ Mw.H d = none) (P : List D → Hs → Prop) {acc0 : List D} {L0 : Hs} {us0 : List V} {M0 : Mem} (c0 : CI K T Mb d B M0 L0 acc0 us0) (w0 : Ext0 Mw M0) (rs0 : RS K T M0 ρw σw)
    (hok : ∃ ys L9, compGo g c e B ρw xs acc0 L0 = .ok ys L9 ∧ P ys L9) (fin : ∀ M' L' acc us, CI K T Mb d B M' L' acc us → Ext0 Mw M' → P acc L' → Qd M'.H) :
    ∃ W : Nat → Nat → Hp → Prop, (∃ m, W 0 m M0.H) ∧ ∀ i m H, W i m H → (J.stop i H ∧ Qd H) ∨ (J.go i H ∧ ∃ Nx : Hp → Prop, (∀ H', Nx H' → ∃ m', m' < m ∧ W (i + 1) m' H') ∧
      ∀ x H', J.yld i H x H' → rG K T g is x σw H' fun σ2 H2 => L2.wipe σ2 vs = σw ∧ rT K T c σ2 H2 fun b H3 => if b = true then rE K T e σ2 H3 fun y H4 => ∃ acc, H4 d = some (.lst acc) ∧ acc.length < sizeLine ∧ Nx (upd H4 d (.lst (acc ++ [y]))) else Nx H3) := by
  obtain ⟨Y, w, hy⟩ := wk
  let Pv : Nat → Hp → Prop := fun i H => ∃ M' L' acc us, M'.H = H ∧ CI K T Mb d B M' L' acc us ∧ Ext0 Mw M' ∧ RS K T M' ρw σw ∧ ∃ ys L9, compGo g c e B ρw (xs.drop i) acc L' = .ok ys L9 ∧ P ys L9
  refine ⟨fun i m H => m = xs.length - i ∧ i ≤ xs.length ∧ Pv i H, ⟨xs.length, by simp, Nat.zero_le _, M0, L0, acc0, us0, rfl, c0, w0, rs0, hok⟩, ?_⟩
  rintro i m H ⟨rfl, hi, M', L', acc, us, rfl, ci, ew, rs, ys, L9, q, hP⟩
  have gAt : At K T B Mw M'.H := ⟨M', L', rfl, ci.eA, ci.rep, ew⟩
  by_cases hlt : i < xs.length
  · refine .inr ⟨w.goes i M'.H hlt gAt, Pv (i + 1), fun H' p' => ⟨xs.length - (i + 1), by omega, rfl, hlt, p'⟩, fun v H' y => ?_⟩
    obtain ⟨M2, rfl, a2, R2, x2, rv⟩ := hy i v H' M' L' _ (w.yields i M'.H v H' hlt gAt y) ci.eA ci.rep ew (List.getElem?_eq_getElem hlt)
    rw [List.drop_eq_getElem_cons hlt] at q
    have c2 := ci.next (a2.trans ci.eA) R2 x2
    refine ⟨M2, B, L', ρw, .d xs[i], ⟨rfl, c2.eA, R2, rs.ext ci.rep x2⟩, rv, ?_⟩
    have q : (g (.d xs[i]) B ρw L').bind _ = _ := q
    cases eg : g (.d xs[i]) B ρw L' with
    | exc _ _ _ => rw [eg] at q; cases q
    | bad => rw [eg] at q; cases q
    | ok ρ1 L3 =>
      rw [eg] at q
      intro M3 a3 R3 x3 σ2 rs2 st
      refine ⟨hw σ2 st, M3, B, L3, ρ1, ⟨rfl, a3, R3, rs2⟩, ?_⟩
      have q : (c B ρ1 L3).bind _ = _ := q
      cases ec : c B ρ1 L3 with
      | exc _ _ _ => rw [ec] at q; cases q
      | bad => rw [ec] at q; cases q
      | ok k L4 =>
        rw [ec] at q
        intro M4 a4 R4 x4
        have c4 := (c2.next a3 R3 x3).next a4 R4 x4
        have x24 := (x2.trans x3).trans x4
        cases k with
        | false =>
          refine iteF ?_
          exact ⟨M4, L4, acc, us, rfl, c4, ew.trans x24.toExt0, rs.ext ci.rep x24, ys, L9, q, hP⟩
        | true =>
          refine iteT ?_
          refine ⟨M4, B, L4, ρ1, ⟨rfl, a4, R4, rs2.ext R3 x4⟩, ?_⟩
          have q : (e B ρ1 L4).bind _ = _ := q
          cases ee : e B ρ1 L4 with
          | exc _ _ _ => rw [ee] at q; cases q
          | bad => rw [ee] at q; cases q
          | ok w5 L5 =>
            rw [ee] at q
            intro M5 a5 R5 x5 v5 rw5
            have q : (ownR B L5 w5).bind _ = _ := q
            unfold ownR at q
            cases eo : own B L5 w5 with
            | none => rw [eo] at q; cases q
            | some z =>
              obtain ⟨y6, L6⟩ := z
              rw [eo] at q
              obtain ⟨M6, a6, h6, R6, x6, rv6⟩ := own_ok R5 a5 eo rw5
              have c6 := (c4.next a5 R5 x5).next a6 R6 x6
              have x26 := (x24.trans x5).trans x6
              have q : (guardR (decide (acc.length < sizeL)) L6).bind _ = _ := q
              cases eg2 : decide (acc.length < sizeL) with
              | false => rw [eg2] at q; cases q
              | true =>
                rw [eg2] at q
                obtain ⟨c7, k7⟩ := c6.put R0 hd rv6
                refine ⟨us, by rw [← h6]; exact c6.at_, by rw [← c6.rv.length, ← sizeL_eq]; exact of_decide_eq_true eg2, _, L6, _, _, ?_, c7, ?_, (rs.ext ci.rep x26).keeps k7, ys, L9, q, hP⟩
                · show upd M6.H d _ = upd M5.H d _
                  rw [h6]
                · exact put_ext0 (ew.trans x26.toExt0) hMw
  · have e : i = xs.length := by omega
    subst e
    rw [List.drop_length] at q
    cases q
    exact .inl ⟨w.stops M'.H gAt, fin M' _ _ us ci ew hP⟩
end
theorem je_comp {elt tg iter : Expr} {ifs : List Expr} {scope : Scope} {own : List (Str × Nat)} {pos : Pos} {it : SI} {g : SG} {is : List Nat} {c : ST} {e : SE} (hc : X.calm = true) (hN : X.N.Nodup) (hi : JI X T tg iter it) (ok : BlkOk X.N X.env.scope scope own)
    (hg : ∀ (s : Shared) (H : Hp) (C : Addr) (cl : List (Str × Addr)) (fp : List Addr), JG (X.blk s H scope (compEnvC scope cl C X.env) fp) T tg g is) (ht : ∀ (s : Shared) (H : Hp) (C : Addr) (cl : List (Str × Addr)) (fp : List Addr), JTs (X.blk s H scope (compEnvC scope cl C X.env) fp) T ifs c)
    (he : ∀ (s : Shared) (H : Hp) (C : Addr) (cl : List (Str × Addr)) (fp : List Addr), JE (X.blk s H scope (compEnvC scope cl C X.env) fp) T elt e) (his : ∀ i ∈ is, i ∈ own.map (·.2) := by decide) (hs : ∀ x, foldedSetIterable iter X.env x = pure x := by intro _; rfl) :
    JE X T (.ListComp elt [⟨tg, iter, ifs, 0⟩] scope pos) (eComp it g c e (own.map (·.2))) := PE.weak (pe_lc hc hN hi ok hg ht he hs) fun σ H Q h => by
  obtain ⟨M, B, L, ρ, p, h⟩ := h
  refine ⟨M, B, L, ρ, p, (post.bind h).mono fun xs L1 M1 eA R x q J wk d hd => ?_⟩
  obtain ⟨R2, e2, k2⟩ := opened R hd (plain_lst [])
  cases ec : compGo g c e B (Ev.wipe ρ (own.map (·.2))) xs [] L1 with
  | exc _ _ _ => rw [ec] at q; exact q.elim
  | bad => rw [ec] at q; exact q.elim
  | ok ys L9 =>
    rw [ec] at q
    refine comp_loop (Mb := M1) (M0 := M1.open d (.lst [])) wk R hd (fun σ2 st => wipe_stay st his) (.inr hd) (fun ys' L' => ys' = ys ∧ L' = L9) (acc0 := []) (us0 := []) ⟨eA, R2, rfl, e2, upd_same, rfl, fun a ha => ?_⟩ e2 (((p.rs.ext p.rep x).keeps k2).wipe _) ⟨ys, L9, ec, rfl, rfl⟩ ?_
    · obtain ⟨⟨u, e1, _⟩, _⟩ := R.sc a ha
      exact upd_ne (ne_of_none e1 hd)
    · rintro M' L' acc us ci _ ⟨rfl, rfl⟩
      obtain ⟨R', E', k', s'⟩ := closed R hd ci.rep ci.e0 ci.sS ci.ks
      exact q (M'.close M1.S) ci.eA R' E' (.ref d) ⟨d, us, rfl, s', ci.at_, RVs.keeps k' _ _ ci.rv⟩
theorem js_setComp {i : Nat} {y : Str} {py : Pos} {elt tg iter : Expr} {ifs : List Expr} {scope : Scope} {own : List (Str × Nat)} {pos spos : Pos} {it : SI} {g : SG} {is : List Nat} {c : ST} {e : SE} (hc : X.calm = true) (hN : X.N.Nodup)
    (hsw : swapsWith (.ListComp elt [⟨tg, iter, ifs, 0⟩] scope pos) (some (.Name y py)) spos.line X.env = pure true) (hi : JI X T tg iter it) (ok : BlkOk X.N X.env.scope scope own)
    (hg : ∀ (s : Shared) (H : Hp) (C : Addr) (cl : List (Str × Addr)) (fp : List Addr), JG (X.blk s H scope (compEnvC scope cl C X.env) fp) T tg g is) (ht : ∀ (s : Shared) (H : Hp) (C : Addr) (cl : List (Str × Addr)) (fp : List Addr), JTs (X.blk s H scope (compEnvC scope cl C X.env) fp) T ifs c)
    (he : ∀ (s : Shared) (H : Hp) (C : Addr) (cl : List (Str × Addr)) (fp : List Addr), JE (X.blk s H scope (compEnvC scope cl C X.env) fp) T elt e) (his : ∀ i ∈ is, i ∈ own.map (·.2) := by decide) (hy : X.N[i]? = some y := by rfl) (hyl : X.env.scope.names.lookup y = some .local := by rfl) (hs : ∀ x, foldedSetIterable iter X.env x = pure x := by intro _; rfl) :
    JS X T (.Assign [.Name y py] (.ListComp elt [⟨tg, iter, ifs, 0⟩] scope pos) spos) (sAsg (eComp it g c e (own.map (·.2))) (gVar i)) := PS.weak (ps_setLc hc hN hy hyl hsw hi ok hg ht he hs) fun Dn σ H h => by
  obtain ⟨M, B, L, ρ, p, h⟩ := h
  have h := post.st h
  unfold eComp at h
  refine ⟨M, B, L, ρ, p, (post.bind h).mono fun xs L1 M1 eA R x q J wk d hd => ?_⟩
  obtain ⟨R2, e2, k2⟩ := opened R hd (plain_lst [])
  cases ec : compGo g c e B (Ev.wipe ρ (own.map (·.2))) xs [] L1 with
  | exc _ _ _ => rw [ec] at q; exact q.elim
  | bad => rw [ec] at q; exact q.elim
  | ok ys L9 =>
    rw [ec] at q
    refine comp_loop (Mb := M1) (M0 := M1.open d (.lst [])) wk R hd (fun σ2 st => wipe_stay st his) (.inr hd) (fun ys' L' => ys' = ys ∧ L' = L9) (acc0 := []) (us0 := []) ⟨eA, R2, rfl, e2, upd_same, rfl, fun a ha => ?_⟩ e2 (((p.rs.ext p.rep x).keeps k2).wipe _) ⟨ys, L9, ec, rfl, rfl⟩ ?_
    · obtain ⟨⟨u, e1, _⟩, _⟩ := R.sc a ha
      exact upd_ne (ne_of_none e1 hd)
    · rintro M' L' acc us ci _ ⟨rfl, rfl⟩
      obtain ⟨R', E', k', s'⟩ := closed R hd ci.rep ci.e0 ci.sS ci.ks
      have rl : RW X.K T (M'.close M1.S) (.d (.lst acc)) (.ref d) := ⟨d, us, rfl, s', ci.at_, RVs.keeps k' _ _ ci.rv⟩
      have q2 := q (M'.close M1.S) ci.eA R' E'
      exact (((post.st q2).here ci.eA R').ext_next ci.eA R' ((p.rs.ext p.rep (x.trans E')).set rl i) : Dn.nx _ _)
/-- two fors -/
theorem comp_loop2 {K : PySem.W.Frag} {d : Addr} {J : It} {xs : List D} {B : Hs} {Mb : Mem} (wk : Wk K T J xs B Mb) (R0 : Rep K T Mb) (hd : Mb.H d = none) {g g1 : SG} {is is1 vs vs1 : List Nat} {c c1 : ST} {it1 : SI} {e : SE} {ρw : Sl} {σw : L2.St} {Qd : Hp → Prop}
    (hw : ∀ σ2, Stay is σw σ2 → L2.wipe σ2 vs = σw) (hw1 : ∀ i ∈ is1, i ∈ vs1) (P : List D → Hs → Prop) {acc0 : List D} {L0 : Hs} {us0 : List V} {M0 : Mem} (c0 : CI K T Mb d B M0 L0 acc0 us0) (rs0 : RS K T M0 ρw σw)
    (hok : ∃ ys L9, compGo2 g c it1 g1 c1 e B ρw vs1 xs acc0 L0 = .ok ys L9 ∧ P ys L9) (fin : ∀ M' L' acc us, CI K T Mb d B M' L' acc us → P acc L' → Qd M'.H) :
    ∃ W : Nat → Nat → Hp → Prop, (∃ m, W 0 m M0.H) ∧ ∀ i m H, W i m H → (J.stop i H ∧ Qd H) ∨ (J.go i H ∧ ∃ Nx : Hp → Prop, (∀ H', Nx H' → ∃ m', m' < m ∧ W (i + 1) m' H') ∧
      ∀ x H', J.yld i H x H' → rG K T g is x σw H' fun σ2 H2 => L2.wipe σ2 vs = σw ∧ rT K T c σ2 H2 fun b H3 => if b = true then rI K T it1 σ2 H3 fun J1 H4 => ∃ W1 : Nat → Nat → Hp → Prop, (∃ m, W1 0 m H4) ∧ ∀ j k H, W1 j k H →
        (J1.stop j H ∧ Nx H) ∨ (J1.go j H ∧ ∃ Nx1 : Hp → Prop, (∀ H', Nx1 H' → ∃ k', k' < k ∧ W1 (j + 1) k' H') ∧ ∀ x H', J1.yld j H x H' → rG K T g1 is1 x (L2.wipe σ2 vs1) H' fun σ3 H5 => L2.wipe σ3 vs1 = L2.wipe σ2 vs1 ∧ rT K T c1 σ3 H5 fun b H6 =>
          if b = true then rE K T e σ3 H6 fun y H7 => ∃ acc, H7 d = some (.lst acc) ∧ acc.length < sizeLine ∧ Nx1 (upd H7 d (.lst (acc ++ [y]))) else Nx1 H6) else Nx H3) := by
  obtain ⟨Y, w, hy⟩ := wk
  let Pv : Nat → Hp → Prop := fun i H => ∃ M' L' acc us, M'.H = H ∧ CI K T Mb d B M' L' acc us ∧ RS K T M' ρw σw ∧ ∃ ys L9, compGo2 g c it1 g1 c1 e B ρw vs1 (xs.drop i) acc L' = .ok ys L9 ∧ P ys L9
  refine ⟨fun i m H => m = xs.length - i ∧ i ≤ xs.length ∧ Pv i H, ⟨xs.length, by simp, Nat.zero_le _, M0, L0, acc0, us0, rfl, c0, rs0, hok⟩, ?_⟩
  rintro i m H ⟨rfl, hi, M', L', acc, us, rfl, ci, rs, ys, L9, q, hP⟩
  have gAt : At K T B Mb M'.H := ⟨M', L', rfl, ci.eA, ci.rep, ci.e0⟩
  by_cases hlt : i < xs.length
  · refine .inr ⟨w.goes i M'.H hlt gAt, Pv (i + 1), fun H' p' => ⟨xs.length - (i + 1), by omega, rfl, hlt, p'⟩, fun v H' y => ?_⟩
    obtain ⟨M2, rfl, a2, R2, x2, rv⟩ := hy i v H' M' L' _ (w.yields i M'.H v H' hlt gAt y) ci.eA ci.rep ci.e0 (List.getElem?_eq_getElem hlt)
    rw [List.drop_eq_getElem_cons hlt] at q
    have c2 := ci.next (a2.trans ci.eA) R2 x2
    refine ⟨M2, B, L', ρw, .d xs[i], ⟨rfl, c2.eA, R2, rs.ext ci.rep x2⟩, rv, ?_⟩
    have q : (g (.d xs[i]) B ρw L').bind _ = _ := q
    cases eg : g (.d xs[i]) B ρw L' with
    | exc _ _ _ => rw [eg] at q; cases q
    | bad => rw [eg] at q; cases q
    | ok ρ1 L3 =>
      rw [eg] at q
      intro M3 a3 R3 x3 σ2 rs2 st
      refine ⟨hw σ2 st, M3, B, L3, ρ1, ⟨rfl, a3, R3, rs2⟩, ?_⟩
      have q : (c B ρ1 L3).bind _ = _ := q
      cases ec : c B ρ1 L3 with
      | exc _ _ _ => rw [ec] at q; cases q
      | bad => rw [ec] at q; cases q
      | ok k L4 =>
        rw [ec] at q
        intro M4 a4 R4 x4
        have c4 := (c2.next a3 R3 x3).next a4 R4 x4
        have x24 := (x2.trans x3).trans x4
        cases k with
        | false =>
          refine iteF ?_
          exact ⟨M4, L4, acc, us, rfl, c4, rs.ext ci.rep x24, ys, L9, q, hP⟩
        | true =>
          refine iteT ?_
          refine ⟨M4, B, L4, ρ1, ⟨rfl, a4, R4, rs2.ext R3 x4⟩, ?_⟩
          have q : (it1 B ρ1 L4).bind _ = _ := q
          cases ei : it1 B ρ1 L4 with
          | exc _ _ _ => rw [ei] at q; cases q
          | bad => rw [ei] at q; cases q
          | ok zs L5 =>
            rw [ei] at q
            intro M5 a5 R5 x5 J1 wk1
            have c5 := c4.next a5 R5 x5
            have x25 := x24.trans x5
            have q : (compGo g1 c1 e B (Ev.wipe ρ1 vs1) zs acc L5).bind _ = _ := q
            cases eq : compGo g1 c1 e B (Ev.wipe ρ1 vs1) zs acc L5 with
            | exc _ _ _ => rw [eq] at q; cases q
            | bad => rw [eq] at q; cases q
            | ok acc6 L6 =>
              rw [eq] at q
              have rsI : RS K T M5 ρ1 σ2 := rs2.ext R3 (x4.trans x5)
              -- the outer slots are kept by a copy of them through the inner turns
              exact comp_loop (Mb := Mb) (Mw := M5) (M0 := M5) wk1 R0 hd (fun σ3 st => wipe_stay st hw1) (.inl (by rw [c5.sS]; simp)) (fun a L' => a = acc6 ∧ L' = L6) c5 (Ext0.refl M5) (rsI.wipe vs1) ⟨acc6, L6, eq, rfl, rfl⟩
                fun M7 L7 acc7 us7 c7 e7 hp7 => by
                  obtain ⟨rfl, rfl⟩ := hp7
                  exact ⟨M7, L7, acc7, us7, rfl, c7, (rs.ext ci.rep x25).ext0 R5 e7, ys, L9, q, hP⟩
  · have e : i = xs.length := by omega
    subst e
    rw [List.drop_length] at q
    cases q
    exact .inl ⟨w.stops M'.H gAt, fin M' _ _ us ci hP⟩
theorem je_comp2 {elt tg iter tg1 iter1 : Expr} {ifs ifs1 : List Expr} {scope : Scope} {own : List (Str × Nat)} {vs1 : List Nat} {pos : Pos} {it it1 : SI} {g g1 : SG} {is is1 : List Nat} {c c1 : ST} {e : SE} (hc : X.calm = true) (hN : X.N.Nodup) (hi : JI X T tg iter it) (ok : BlkOk X.N X.env.scope scope own)
    (hg : ∀ (s : Shared) (H : Hp) (C : Addr) (cl : List (Str × Addr)) (fp : List Addr), JG (X.blk s H scope (compEnvC scope cl C X.env) fp) T tg g is) (ht : ∀ (s : Shared) (H : Hp) (C : Addr) (cl : List (Str × Addr)) (fp : List Addr), JTs (X.blk s H scope (compEnvC scope cl C X.env) fp) T ifs c)
    (hi1 : ∀ (s : Shared) (H : Hp) (C : Addr) (cl : List (Str × Addr)) (fp : List Addr), JI (X.blk s H scope (compEnvC scope cl C X.env) fp) T tg1 iter1 it1)
    (hg1 : ∀ (s : Shared) (H : Hp) (C : Addr) (cl : List (Str × Addr)) (fp : List Addr), JG (X.blk s H scope (compEnvC scope cl C X.env) fp) T tg1 g1 is1) (ht1 : ∀ (s : Shared) (H : Hp) (C : Addr) (cl : List (Str × Addr)) (fp : List Addr), JTs (X.blk s H scope (compEnvC scope cl C X.env) fp) T ifs1 c1)
    (he : ∀ (s : Shared) (H : Hp) (C : Addr) (cl : List (Str × Addr)) (fp : List Addr), JE (X.blk s H scope (compEnvC scope cl C X.env) fp) T elt e) (hv : ∀ i ∈ vs1, i ∈ own.map (·.2) := by decide) (his : ∀ i ∈ is, i ∈ own.map (·.2) := by decide) (his1 : ∀ i ∈ is1, i ∈ vs1 := by decide)
    (hs : ∀ x, foldedSetIterable iter X.env x = pure x := by intro _; rfl) (hs1 : ∀ env x, foldedSetIterable iter1 env x = pure x := by intro _ _; rfl) :
    JE X T (.ListComp elt [⟨tg, iter, ifs, 0⟩, ⟨tg1, iter1, ifs1, 0⟩] scope pos) (eComp2 it g c it1 g1 c1 e (own.map (·.2)) vs1) := PE.weak (pe_lc2 hc hN hi ok hv hg ht hi1 hg1 ht1 he hs hs1) fun σ H Q h => by
  obtain ⟨M, B, L, ρ, p, h⟩ := h
  refine ⟨M, B, L, ρ, p, (post.bind h).mono fun xs L1 M1 eA R x q J wk d hd => ?_⟩
  obtain ⟨R2, e2, k2⟩ := opened R hd (plain_lst [])
  cases ec : compGo2 g c it1 g1 c1 e B (Ev.wipe ρ (own.map (·.2))) vs1 xs [] L1 with
  | exc _ _ _ => rw [ec] at q; exact q.elim
  | bad => rw [ec] at q; exact q.elim
  | ok ys L9 =>
    rw [ec] at q
    refine comp_loop2 (Mb := M1) (M0 := M1.open d (.lst [])) wk R hd (fun σ2 st => wipe_stay st his) his1 (fun ys' L' => ys' = ys ∧ L' = L9) (acc0 := []) (us0 := []) ⟨eA, R2, rfl, e2, upd_same, rfl, fun a ha => ?_⟩ (((p.rs.ext p.rep x).keeps k2).wipe _) ⟨ys, L9, ec, rfl, rfl⟩ ?_
    · obtain ⟨⟨u, e1, _⟩, _⟩ := R.sc a ha
      exact upd_ne (ne_of_none e1 hd)
    · rintro M' L' acc us ci ⟨rfl, rfl⟩
      obtain ⟨R', E', k', s'⟩ := closed R hd ci.rep ci.e0 ci.sS ci.ks
      exact q (M'.close M1.S) ci.eA R' E' (.ref d) ⟨d, us, rfl, s', ci.at_, RVs.keeps k' _ _ ci.rv⟩
theorem js_setComp2 {i : Nat} {y : Str} {py : Pos} {elt tg iter tg1 iter1 : Expr} {ifs ifs1 : List Expr} {scope : Scope} {own : List (Str × Nat)} {vs1 : List Nat} {pos spos : Pos} {it it1 : SI} {g g1 : SG} {is is1 : List Nat} {c c1 : ST} {e : SE} (hc : X.calm = true) (hN : X.N.Nodup)
    (hsw : swapsWith (.ListComp elt [⟨tg, iter, ifs, 0⟩, ⟨tg1, iter1, ifs1, 0⟩] scope pos) (some (.Name y py)) spos.line X.env = pure true) (hi : JI X T tg iter it) (ok : BlkOk X.N X.env.scope scope own)
    (hg : ∀ (s : Shared) (H : Hp) (C : Addr) (cl : List (Str × Addr)) (fp : List Addr), JG (X.blk s H scope (compEnvC scope cl C X.env) fp) T tg g is) (ht : ∀ (s : Shared) (H : Hp) (C : Addr) (cl : List (Str × Addr)) (fp : List Addr), JTs (X.blk s H scope (compEnvC scope cl C X.env) fp) T ifs c)
    (hi1 : ∀ (s : Shared) (H : Hp) (C : Addr) (cl : List (Str × Addr)) (fp : List Addr), JI (X.blk s H scope (compEnvC scope cl C X.env) fp) T tg1 iter1 it1)
    (hg1 : ∀ (s : Shared) (H : Hp) (C : Addr) (cl : List (Str × Addr)) (fp : List Addr), JG (X.blk s H scope (compEnvC scope cl C X.env) fp) T tg1 g1 is1) (ht1 : ∀ (s : Shared) (H : Hp) (C : Addr) (cl : List (Str × Addr)) (fp : List Addr), JTs (X.blk s H scope (compEnvC scope cl C X.env) fp) T ifs1 c1)
    (he : ∀ (s : Shared) (H : Hp) (C : Addr) (cl : List (Str × Addr)) (fp : List Addr), JE (X.blk s H scope (compEnvC scope cl C X.env) fp) T elt e) (hv : ∀ i ∈ vs1, i ∈ own.map (·.2) := by decide) (his : ∀ i ∈ is, i ∈ own.map (·.2) := by decide) (his1 : ∀ i ∈ is1, i ∈ vs1 := by decide) (hy : X.N[i]? = some y := by rfl) (hyl : X.env.scope.names.lookup y = some .local := by rfl)
    (hs : ∀ x, foldedSetIterable iter X.env x = pure x := by intro _; rfl) (hs1 : ∀ env x, foldedSetIterable iter1 env x = pure x := by intro _ _; rfl) :
    JS X T (.Assign [.Name y py] (.ListComp elt [⟨tg, iter, ifs, 0⟩, ⟨tg1, iter1, ifs1, 0⟩] scope pos) spos) (sAsg (eComp2 it g c it1 g1 c1 e (own.map (·.2)) vs1) (gVar i)) := PS.weak (ps_setLc2 hc hN hy hyl hsw hi ok hv hg ht hi1 hg1 ht1 he hs hs1) fun Dn σ H h => by
  obtain ⟨M, B, L, ρ, p, h⟩ := h
  have h := post.st h
  unfold eComp2 at h
  refine ⟨M, B, L, ρ, p, (post.bind h).mono fun xs L1 M1 eA R x q J wk d hd => ?_⟩
  obtain ⟨R2, e2, k2⟩ := opened R hd (plain_lst [])
  cases ec : compGo2 g c it1 g1 c1 e B (Ev.wipe ρ (own.map (·.2))) vs1 xs [] L1 with
  | exc _ _ _ => rw [ec] at q; exact q.elim
  | bad => rw [ec] at q; exact q.elim
  | ok ys L9 =>
    rw [ec] at q
    refine comp_loop2 (Mb := M1) (M0 := M1.open d (.lst [])) wk R hd (fun σ2 st => wipe_stay st his) his1 (fun ys' L' => ys' = ys ∧ L' = L9) (acc0 := []) (us0 := []) ⟨eA, R2, rfl, e2, upd_same, rfl, fun a ha => ?_⟩ (((p.rs.ext p.rep x).keeps k2).wipe _) ⟨ys, L9, ec, rfl, rfl⟩ ?_
    · obtain ⟨⟨u, e1, _⟩, _⟩ := R.sc a ha
      exact upd_ne (ne_of_none e1 hd)
    · rintro M' L' acc us ci ⟨rfl, rfl⟩
      obtain ⟨R', E', k', s'⟩ := closed R hd ci.rep ci.e0 ci.sS ci.ks
      have rl : RW X.K T (M'.close M1.S) (.d (.lst acc)) (.ref d) := ⟨d, us, rfl, s', ci.at_, RVs.keeps k' _ _ ci.rv⟩
      have q2 := q (M'.close M1.S) ci.eA R' E'
      exact (((post.st q2).here ci.eA R').ext_next ci.eA R' ((p.rs.ext p.rep (x.trans E')).set rl i) : Dn.nx _ _)
end
end Ev

set_option Elab.async false
set_option linter.all false
set_option maxRecDepth 100000
set_option maxHeartbeats 4000000
set_option autoImplicit false
/-! EvT: tuple * 0, tuple * 1. -/
namespace Ev
open PySem PySem.Spec PyProof.Rows L2
theorem tuple_mulOne (l : Addr) (items : Array Value) (n : Nat) (dd : Option Addr) (sl : Array (Option Value)) (u : Tok) :
    Meets (Builtin.«tuple.__mul__» ⟨[.ref l, .int 1 u], []⟩) (fun _ R s => s.heap.get? l = some { cls := .type "tuple", dict := dd, data := .seq items n, slots := sl } ∧ R (.ok (.ret (Value.ref l))) s) :=
  .of_wp fun prog w A R s h => by
    obtain ⟨hp, g, d, tk, os⟩ := s
    obtain ⟨hl, h⟩ := h
    have f1 := AutoSeq1.idx_int
    have c1 : (items.isEmpty || ((1 : Int) == 1)) = true := by simp
    wp_walk using wpAny_loadPart' hl
    repeat (first
      | (refine wpAny_ite_false (decide_eq_false (by decide)) ?_; wp_walk using wpAny_loadPart' hl)
      | (refine wpAny_ite_true (decide_eq_true c1) ?_; wp_walk using wpAny_loadPart' hl))
    exact ⟨_, rfl, h⟩
theorem tuple_mulNul (l : Addr) (items : Array Value) (n : Nat) (dd : Option Addr) (sl : Array (Option Value)) (u : Tok) (hi : items.isEmpty = false) :
    Meets (Builtin.«tuple.__mul__» ⟨[.ref l, .int 0 u], []⟩) (fun _ R s => s.heap.get? l = some { cls := .type "tuple", dict := dd, data := .seq items n, slots := sl } ∧
      R (.ok (.ret (Value.ref s.heap.objs.size))) { s with heap := s.heap.push { cls := Value.type "tuple", data := Data.seq #[] }, toks := s.toks }) :=
  .of_wp fun prog w A R s h => by
    obtain ⟨hp, g, d, tk, os⟩ := s
    obtain ⟨hl, h⟩ := h
    have f1 := AutoSeq1.idx_int
    have c1 : (items.isEmpty || ((0 : Int) == 1)) = false := by rw [hi]; rfl
    wp_walk using wpAny_loadPart' hl
    repeat (first
      | (refine wpAny_ite_false (decide_eq_false (by decide)) ?_; wp_walk using wpAny_loadPart' hl)
      | (refine wpAny_ite_false (decide_eq_false (by rw [c1]; exact Bool.false_ne_true)) ?_; wp_walk using wpAny_loadPart' hl)
      | (refine wpAny_ite_true (decide_eq_true (by rfl)) ?_; wp_walk using wpAny_loadPart' hl))
    exact ⟨_, rfl, h⟩
/-- tuple * 0, tuple * 1 -/
def rRep01 (K : PySem.W.Frag) : R2 := fun x y H Q => ∃ l k xs, x = .ref l ∧ y = .int k ∧ SqT K H l xs ∧ xs ≠ [] ∧ ((k = 1 ∧ Q (.ref l) H) ∨ (k = 0 ∧ ∀ p, H p = none → Q (.ref p) (upd H p (.tup []))))
theorem op_rep01 {X : Cx} : OpR X (binaryOp .Mult) (rRep01 X.K) := by
  intro pins s σ H x y v u Q I rx ry h
  obtain ⟨l, k, xs, rfl, rfl, hT, hne, q⟩ := h
  cases rx
  obtain ⟨t, rfl⟩ := ry
  obtain ⟨its, r, ⟨⟨cls, dd, data, sl⟩, ho, hc, n, hd⟩, hs⟩ := I.tuple hT
  simp only at hc hd
  subst hc hd
  have hle : its.length = xs.length := r.length.symm
  have hn : its ≠ [] := fun e => hne (by
    rw [e] at hle
    exact List.eq_nil_of_length_eq_zero hle.symm)
  have hi : its.toArray.isEmpty = false := by
    cases its with
    | nil => exact absurd rfl hn
    | cons a b => rfl
  rcases q with ⟨rfl, q⟩ | ⟨rfl, q⟩
  · refine wpAny_binaryOp_repeat_ref (T := "tuple") (U := "int") (by decide) ⟨_, ho, rfl⟩ (fun s' => typeIs_int s' 1 t) noFill_tuple_mul F.fills_int_mul F.slot_int_rmul repeat_tuple F.slot_int_index.lookup
      (call_meets F.slot_int_rmul (typeIs_int s 1 t) F.entry_int_rmul (F.args_int_rmul_2 _ _) (int_rmul_tuple 1 t l its.toArray n dd sl)
        ⟨ho, rfl, ⟨_, ho, rfl⟩, call_meets F.slot_tuple_mul ⟨_, ho, rfl⟩ F.entry_tuple_mul (F.args_tuple_mul_2 _ _) (tuple_mulOne l its.toArray n dd sl t) ⟨ho, ?_⟩⟩)
    exact ⟨.ref l, H, I, rfl, q⟩
  · refine wpAny_binaryOp_repeat_ref (T := "tuple") (U := "int") (by decide) ⟨_, ho, rfl⟩ (fun s' => typeIs_int s' 0 t) noFill_tuple_mul F.fills_int_mul F.slot_int_rmul repeat_tuple F.slot_int_index.lookup
      (call_meets F.slot_int_rmul (typeIs_int s 0 t) F.entry_int_rmul (F.args_int_rmul_2 _ _) (int_rmul_tuple 0 t l its.toArray n dd sl)
        ⟨ho, rfl, ⟨_, ho, rfl⟩, call_meets F.slot_tuple_mul ⟨_, ho, rfl⟩ F.entry_tuple_mul (F.args_tuple_mul_2 _ _) (tuple_mulNul l its.toArray n dd sl t hi) ⟨ho, ?_⟩⟩)
    refine ⟨.ref s.heap.objs.size, _, I.laid (t' := s.toks) (o := .tup []) (fun b ob q => Heap.get?_push_of_some _ q) (Nat.le_refl _) ?_, rfl, q _ (I.hok.fresh (Nat.le_refl _))⟩
    exact ⟨Nat.zero_le _, [], .nil, IsTup.new _ _⟩
end Ev

set_option Elab.async false
set_option linter.all false
set_option maxRecDepth 100000
set_option maxHeartbeats 4000000
set_option autoImplicit false
/-! EvT2: t[::-1], text * int, repr(bool). -/
namespace Ev
open PySem PySem.Spec PyProof.Rows L2
theorem range_pick {α : Type} : ∀ l : List α, (List.range l.length).filterMap (fun k => l[k]?) = l
  | [] => rfl
  | x :: l => by
    rw [List.length_cons, List.range_succ_eq_map, List.filterMap_cons, List.filterMap_map]
    show x :: (List.range l.length).filterMap (fun k => l[k]?) = x :: l
    rw [range_pick l]
theorem fm_congr {α β : Type} {f g : α → Option β} : ∀ l : List α, (∀ x ∈ l, f x = g x) → l.filterMap f = l.filterMap g
  | [], _ => rfl
  | x :: l, h => by
    rw [List.filterMap_cons, List.filterMap_cons, h x List.mem_cons_self, fm_congr l fun y hy => h y (List.mem_cons_of_mem _ hy)]
theorem rev_pick (xs : Array Value) : ((List.range xs.size).filterMap fun (k : Nat) => xs[((xs.size : Int) - 1 + (k : Int) * (-1)).toNat]?) = xs.toList.reverse := by
  have h := range_pick xs.toList.reverse
  rw [List.length_reverse, Array.length_toList] at h
  refine (fm_congr _ fun k hk => ?_).trans h
  have hk := List.mem_range.mp hk
  rw [List.getElem?_reverse (by rw [Array.length_toList]; exact hk), Array.length_toList, Array.getElem?_toList]
  congr 1
  omega
section
variable {prog : Program} {w : World} {A : Around} {E : Value → Shared → Prop} {s : Shared}
theorem sliceApplied_rev {sl : Addr} {u : Tok} {n : Nat} {Q : Int × Int × Nat → Shared → Prop} (hs : s.heap.IsSliceOf sl .none .none (.int (-1) u)) (h : Q ((n : Int) - 1, -1, n) s) : wpAny (model prog w) A (Builtin.Slice.sliceApplied (.ref sl) (pure (n : Int))) Q E s := by
  obtain ⟨os, hos, hcs, hds⟩ := id hs
  unfold Builtin.Slice.sliceApplied Builtin.Slice.sliceFields
  refine wpAny_bind (wpAny_bind (wpAny_field hos hds (x := .none) rfl (wpAny_bind (wpAny_field hos hds (x := .none) rfl (wpAny_bind (wpAny_field hos hds (x := .int (-1) u) rfl (wpAny_pure ?_)))))))
  refine wpAny_bind (slicePart_int ?_)
  show wpAny _ _ (if ((-1 : Int) == 0) = true then _ else _) _ _ s
  rw [if_neg (by decide)]
  refine wpAny_bind (slicePart_none (wpAny_bind (slicePart_none (wpAny_bind (wpAny_pure ?_)))))
  show wpAny _ _ (match Builtin.Slice.sliceAdjust none none (-1) (n : Int) with | (lo, hi) => pure (lo, (-1 : Int), Builtin.Slice.slicePlaces lo hi (-1))) _ _ s
  have e1 : Builtin.Slice.sliceAdjust none none (-1) (n : Int) = ((n : Int) - 1, -1) := rfl
  rw [e1]
  have e2 : Builtin.Slice.slicePlaces ((n : Int) - 1) (-1) (-1) = n := by
    unfold Builtin.Slice.slicePlaces
    simp
    split <;> omega
  show wpAny _ _ (pure ((n : Int) - 1, (-1 : Int), Builtin.Slice.slicePlaces ((n : Int) - 1) (-1) (-1))) _ _ s
  rw [e2]
  exact wpAny_pure h
theorem getItem_tuple_rev {t sl : Addr} {items : Array Value} {u : Tok} {Q : Value → Shared → Prop} (ht : IsTup s.heap t items) (hs : s.heap.IsSliceOf sl .none .none (.int (-1) u))
    (h : Q (.ref s.heap.objs.size) { s with heap := s.heap.push { cls := .type "tuple", data := .seq items.toList.reverse.toArray } }) (hsz : items.size ≤ sizeLine) : wpAny (model prog w) A (getItem (.ref t) (.ref sl)) Q E s := by
  have htake : sizeOk (.seq items.toList.reverse.toArray) := by
    show items.toList.reverse.toArray.size ≤ sizeLine
    rw [List.size_toArray, List.length_reverse, Array.length_toList]
    exact hsz
  obtain ⟨os, hos, hcs, hds⟩ := id hs
  have hTs : s.TypeIs (.ref sl) "slice" := ⟨os, hos, hcs⟩
  unfold getItem
  try with_reducible refine wpAny_holding ?_
  first | refine wpAny_bind (wpAny_pure ?_) | skip
  refine wpAny_bind (wpAny_sequenceKey ht.typeIs (by decide) ?_)
  refine wpAny_bind (wpAny_callSpecial?_slot (name := Str.ofString "__getitem__") ht.typeIs PyProof.Rows.slot_tuple_getitem
    (wpAny_call_entry PyProof.Rows.slot_tuple_getitem ht.typeIs entry_tuple_getitem ?_ (args_tuple_getitem _ _)))
  show wpAny _ _ (Builtin.Tuple.tupleItemsOf (.ref t) >>= _) _ _ s
  refine wpAny_bind (tupleItemsOf_ ht ?_)
  refine wpAny_bind (wpAny_typeOf hTs ?_)
  rw [if_pos (by decide)]
  refine wpAny_bind (sliceApplied_rev hs ?_)
  show wpAny _ _ (if (((items.size : Int) - 1) == 0 && (-1 : Int) == 1 && items.size == items.size) = true then _ else _) _ _ s
  rw [if_neg (by rw [show ((-1 : Int) == 1) = false from rfl, Bool.and_false, Bool.false_and]; exact Bool.false_ne_true), rev_pick]
  first
    | exact wpAny_bind (m := Builtin.Tuple.tupleExact _) (wpAny_newObj_type (wpAny_pure ⟨_, rfl, wpAny_pure h⟩) htake)
    | exact wpAny_bind (m := Builtin.Tuple.tupleExact _) (wpAny_newObj_type (wpAny_bind (wpAny_pure (wpAny_pure ⟨_, rfl, wpAny_pure h⟩))) htake)
    | exact wpAny_bind (wpAny_bind (m := Builtin.Tuple.tupleExact _) (wpAny_newObj_type (wpAny_pure (wpAny_pure ⟨_, rfl, wpAny_pure h⟩)) htake))
    | exact wpAny_bind (wpAny_bind (m := Builtin.Tuple.tupleExact _) (wpAny_newObj_type (wpAny_pure ⟨_, rfl, wpAny_pure h⟩) htake))
end
section
variable {X : Cx}
/-- xs[::-1], a list or a tuple -/
def tRevA (K : PySem.W.Frag) (te : TE) : TE := fun σ H Q => te σ H fun x H1 => (∃ a xs, x = .ref a ∧ SqL K H1 a xs ∧ ∀ p, H1 p = none → Q (.ref p) (upd H1 p (.lst xs.reverse))) ∨ (∃ a xs, x = .ref a ∧ SqT K H1 a xs ∧ ∀ p, H1 p = none → Q (.ref p) (upd H1 p (.tup xs.reverse)))
theorem pe_revA {e : Expr} {te : TE} {k : Nat} {p1 p2 p3 pos : Pos} (he : PE X e te) : PE X (.Subscript e (.Slice none none (some (.UnaryOp .USub (.Constant (.int 1) k p1) p2)) p3) pos) (tRevA X.K te) := by
  refine ⟨fun pins s σ H Q I h => ?_⟩
  refine Subscript_ (thn (he.run pins s σ H _ I h) fun v s1 ⟨x, H1, I1, r1, q1⟩ => ?_)
  have hst : PO X (some (.UnaryOp .USub (.Constant (.int 1) k p1) p2)) (tPart (tUn (rU fun i => .int (-i)) (tC (.int 1)))) := po_some (pe_un un_neg pe_int)
  refine wpAny_Slice (thn (po_none.run pins s1 σ H1 (fun o H2 => o = none ∧ H2 = H1) I1 ⟨rfl, rfl⟩) fun vl s2 ⟨l, H2, I2, pl, el, e2⟩ => ?_)
  subst el e2
  refine thn (po_none.run pins s2 σ H2 (fun o H3 => o = none ∧ H3 = H2) I2 ⟨rfl, rfl⟩) fun vu s3 ⟨u, H3, I3, pu, eu, e3⟩ => ?_
  subst eu e3
  refine thn (hst.run pins s3 σ H3 (fun o H4 => o = some (-1) ∧ H4 = H3) I3 ⟨1, rfl, -1, rfl, rfl, rfl⟩) fun vs s4 ⟨o, H4, I4, ps, eo, e4⟩ => ?_
  subst eo e4
  have I5 : Inv X pins σ H4 { s4 with heap := s4.heap.push { cls := .type "slice", data := .fields #[vl, vu, vs] } } := I4.kept (t' := s4.toks) fun b ob q => Heap.get?_push_of_some _ q
  rcases q1 with ⟨a, xs, ex, hx, q⟩ | ⟨a, xs, ex, hx, q⟩
  · subst ex
    cases r1
    obtain ⟨its, r, ht, hz⟩ := I5.list hx
    have hlen := r.length
    show wpAny (model X.prog X.w) X.A (subscriptTail e (.Slice none none (some (.UnaryOp .USub (.Constant (.int 1) k p1) p2)) p3) (.ref a) (.ref s4.heap.objs.size)) (EP X pins σ Q) X.xe { s4 with heap := s4.heap.push { cls := .type "slice", data := .fields #[vl, vu, vs] } }
    refine tail_any (ops := [.ref a, .ref s4.heap.objs.size]) ht.isList.typeIs (PySem.slot_list_getitem.lookup) ?_ (by with_unfolding_all rfl)
    refine wpAny_getItem_list_slice ht.isList (Heap.IsSliceOf.new _ vl vu vs) pl pu ps (by decide) ?_ (by rw [List.size_toArray]; omega)
    rw [PySem.W.krv_pick]
    refine ⟨.ref _, _, I5.laid (t' := s4.toks) (o := .lst xs.reverse) (fun b ob q => Heap.get?_push_of_some _ q) (Nat.le_refl _) ?_, rfl, q _ (I5.hok.fresh (Nat.le_refl _))⟩
    exact ⟨by rw [List.length_reverse]; exact hz, _, 0, r.reverse, Heap.get?_push_size _ rfl⟩
  · subst ex
    cases r1
    obtain ⟨its, r, ht, hz⟩ := I5.tuple hx
    have hlen := r.length
    show wpAny (model X.prog X.w) X.A (subscriptTail e (.Slice none none (some (.UnaryOp .USub (.Constant (.int 1) k p1) p2)) p3) (.ref a) (.ref s4.heap.objs.size)) (EP X pins σ Q) X.xe { s4 with heap := s4.heap.push { cls := .type "slice", data := .fields #[vl, vu, vs] } }
    refine tail_any (ops := [.ref a, .ref s4.heap.objs.size]) ht.typeIs (PyProof.Rows.slot_tuple_getitem.lookup) ?_ (by with_unfolding_all rfl)
    cases pl
    cases pu
    cases ps with
    | int _ u =>
      refine getItem_tuple_rev ht (Heap.IsSliceOf.new _ _ _ _) ?_ (by rw [List.size_toArray]; omega)
      refine ⟨.ref _, _, I5.laid (t' := s4.toks) (o := .tup xs.reverse) (fun b ob q => Heap.get?_push_of_some _ q) (Nat.le_refl _) ?_, rfl, q _ (I5.hok.fresh (Nat.le_refl _))⟩
      exact ⟨by rw [List.length_reverse]; exact hz, _, r.reverse, IsTup.new _ _⟩
/-- text * int -/
theorem foldl_cps (s : List Nat) : ∀ (n : Nat) (acc : List Nat), (List.replicate n s.toArray).foldl (· ++ ·) acc.toArray = (acc ++ (List.replicate n s).flatten).toArray
  | 0, acc => by simp
  | n + 1, acc => by
    rw [List.replicate_succ, List.foldl_cons, List.replicate_succ, List.flatten_cons, ← List.append_assoc, ← foldl_cps s n (acc ++ s)]
    congr 1
    simp
theorem op_strmul : OpR X (binaryOp .Mult) (fun x y H Q => ∃ (s : List Nat) (k : Int), x = .str ⟨s.toArray⟩ ∧ y = .int k ∧ 0 ≤ k ∧ k ≤ 1000 ∧ s.length ≤ 1000 ∧ Q (.str ⟨(List.replicate k.toNat s).flatten.toArray⟩) H) := by
  intro pins st σ H x y v u Q I rx ry h
  obtain ⟨s, k, rfl, rfl, h0, h1, h2, q⟩ := h
  obtain ⟨t, rfl⟩ := rx
  obtain ⟨t', rfl⟩ := ry
  have hl : (⟨s.toArray⟩ : Str).length = s.length := by show s.toArray.size = _; simp
  have hm : s.length * k.toNat ≤ 1000 * 1000 := Nat.mul_le_mul h2 (by omega)
  refine P.mul_str (by rw [decide_eq_false (by omega), decide_eq_false (by omega)]; rfl) (fun h3 _ => ?_) (fun _ _ => ?_) ?_
  · rw [hl]
    have : (1000 : Int) ≤ (2 ^ 63 - 1) / k := by
      rw [Int.le_ediv_iff_mul_le (by omega)]
      omega
    omega
  · rw [hl]
    unfold Builtin.Str.tooLong
    exact decide_eq_false (by rw [sizeLine_eq]; omega)
  · by_cases k0 : k < 1
    · rw [if_pos k0]
      have : k = 0 := by omega
      subst this
      exact ⟨by decide, .str ⟨#[]⟩, H, I.tok _, ⟨_, rfl⟩, q⟩
    · rw [if_neg k0]
      by_cases k1 : (k == 1 || (⟨s.toArray⟩ : Str).length == 0) = true
      · rw [if_pos k1]
        have e : (List.replicate k.toNat s).flatten = s := by
          rw [Bool.or_eq_true, beq_iff_eq, beq_iff_eq, hl] at k1
          rcases k1 with k1 | k1
          · subst k1
            show (List.replicate 1 s).flatten = s
            rw [List.replicate_succ, List.replicate_zero, List.flatten_cons, List.flatten_nil, List.append_nil]
          · have : s = [] := List.eq_nil_of_length_eq_zero k1
            subst this
            induction k.toNat with
            | zero => rfl
            | succ n ih => rw [List.replicate_succ, List.flatten_cons, ih]; rfl
        rw [e] at q
        exact ⟨.str _, H, I, ⟨t, rfl⟩, q⟩
      · rw [if_neg k1]
        have e := foldl_cps s k.toNat []
        rw [List.nil_append] at e
        refine ⟨?_, .str _, H, I.tok _, ⟨_, rfl⟩, ?_⟩
        · show (List.foldl (· ++ ·) #[] (List.replicate k.toNat s.toArray)).size ≤ sizeLine
          rw [e, List.size_toArray, PyProof.Rows.lm_len_rep_flat, sizeLine_eq]
          have : k.toNat * s.length ≤ 1000 * 1000 := Nat.mul_le_mul (by omega) h2
          omega
        · show Q (.str ⟨List.foldl (· ++ ·) #[] (List.replicate k.toNat s.toArray)⟩) H
          rw [e]
          exact q
def trueS : List Nat := [84, 114, 117, 101]
def falseS : List Nat := [70, 97, 108, 115, 101]
theorem call_repr_bool : CallR X (.builtin "repr") (fun xs H Q => ∃ b : Bool, xs = [.bl b] ∧ Q (.str ⟨(if b = true then trueS else falseS).toArray⟩) H) := by
  intro pins s σ H xs us Q I r h
  obtain ⟨b, rfl, q⟩ := h
  obtain ⟨u, rfl, hu⟩ := r.one
  rw [show u = Value.bool b from hu]
  cases b with
  | true => exact P.repr_of_bool ⟨.str ⟨trueS.toArray⟩, H, I.tok _, ⟨s.toks, by rw [show (Str.ofString "True") = (⟨trueS.toArray⟩ : Str) by decide]; rfl⟩, q⟩
  | false => exact P.repr_of_bool ⟨.str ⟨falseS.toArray⟩, H, I.tok _, ⟨s.toks, by rw [show (Str.ofString "False") = (⟨falseS.toArray⟩ : Str) by decide]; rfl⟩, q⟩
end
end Ev

set_option Elab.async false
set_option linter.all false
set_option maxRecDepth 100000
set_option maxHeartbeats 1000000
set_option autoImplicit false
/-! EvLt: t < u of two tuples of texts. -/
namespace Ev
open PySem PySem.Spec PyProof.Rows L2
theorem lexS_at : ∀ (k : Nat) (ss ts : List (List Nat)) (i : Nat), min ss.length ts.length = i + k →
    Ob.lexAt (fun j => decide (ss.getD j [] = ts.getD j [])) (fun j => decide (ss.getD j [] < ts.getD j [])) (decide (ss.length < ts.length)) i k = lexS (ss.drop i) (ts.drop i)
  | 0, ss, ts, i, h => by
    rw [Ob.lexAt_zero]
    by_cases h1 : ss.length ≤ i
    · rw [List.drop_of_length_le h1]
      by_cases h2 : ts.length ≤ i
      · rw [List.drop_of_length_le h2]
        exact decide_eq_false (by omega)
      · cases e : ts.drop i with
        | nil => exact absurd (List.drop_eq_nil_iff.mp e) h2
        | cons y ys => exact decide_eq_true (by omega)
    · have h2 : ts.length ≤ i := by omega
      rw [List.drop_of_length_le h2]
      cases e : ss.drop i with
      | nil => exact absurd (List.drop_eq_nil_iff.mp e) h1
      | cons y ys => exact decide_eq_false (by omega)
  | k + 1, ss, ts, i, h => by
    rw [Ob.lexAt_succ]
    have h1 : i < ss.length := by omega
    have h2 : i < ts.length := by omega
    rw [List.drop_eq_getElem_cons h1, List.drop_eq_getElem_cons h2]
    have g1 : ss.getD i [] = ss[i] := by simp [h1]
    have g2 : ts.getD i [] = ts[i] := by simp [h2]
    rw [g1, g2, lexS_at k ss ts (i + 1) (by omega)]
    unfold lexS
    by_cases q : ss[i] = ts[i]
    · rw [if_pos (decide_eq_true q), if_pos q]
      cases ss.drop (i + 1) <;> cases ts.drop (i + 1) <;> rfl
    · rw [if_neg (by rw [decide_eq_false q]; exact Bool.false_ne_true), if_neg q]
theorem strs_at : ∀ {ss : List (List Nat)} {us : List Value} (j : Nat) (h : j < us.length), Vals (ss.map fun s => V.str ⟨s.toArray⟩) us → ∃ t, us[j] = .str ⟨(ss.getD j []).toArray⟩ t
  | [], us, j, h, r => by
    cases r
    cases h
  | s :: ss, us, j, h, r => by
    cases r with
    | cons r1 r2 =>
      cases j with
      | zero =>
        obtain ⟨t, e⟩ := r1
        exact ⟨t, e⟩
      | succ j =>
        obtain ⟨t, e⟩ := strs_at (ss := ss) j (Nat.lt_of_succ_lt_succ h) r2
        exact ⟨t, e⟩
def rLtS (K : PySem.W.Frag) : R2 := fun x y H Q => ∃ (a b : Addr) (ss ts : List (List Nat)), x = .ref a ∧ y = .ref b ∧ SqT K H a (ss.map fun s => V.str ⟨s.toArray⟩) ∧ SqT K H b (ts.map fun s => V.str ⟨s.toArray⟩) ∧ Q (.bl (lexS ss ts)) H
theorem op_ltS {X : Cx} (hu : X.A.units < cLine) : OpR X (compareOp .Lt) (rLtS X.K) := by
  intro pins s σ H x y v u Q I rx ry h
  obtain ⟨a, b, ss, ts, rfl, rfl, ha, hb, q⟩ := h
  cases rx
  cases ry
  obtain ⟨its, r1, p1, _⟩ := I.tuple ha
  obtain ⟨its2, r2, p2, _⟩ := I.tuple hb
  have e1 : its.toArray.size = ss.length := by rw [List.size_toArray, ← r1.length, List.length_map]
  have e2 : its2.toArray.size = ts.length := by rw [List.size_toArray, ← r2.length, List.length_map]
  have R := Ob.RcOp.tuples_lt (A := X.A) (s := s) (e := fun j => decide (ss.getD j [] = ts.getD j [])) (r := fun j => decide (ss.getD j [] < ts.getD j [])) p1 p2 hu (fun j h1 h2 => by
    obtain ⟨t, et⟩ := strs_at (ss := ss) j (by simpa using h1) r1
    obtain ⟨t', et'⟩ := strs_at (ss := ts) j (by simpa using h2) r2
    have et : its.toArray[j] = .str ⟨(ss.getD j []).toArray⟩ t := by simpa using et
    have et' : its2.toArray[j] = .str ⟨(ts.getD j []).toArray⟩ t' := by simpa using et'
    rw [et, et']
    have z : ((⟨(ss.getD j []).toArray⟩ : Str) == ⟨(ts.getD j []).toArray⟩) = decide (ss.getD j [] = ts.getD j []) := by
      by_cases q : ss.getD j [] = ts.getD j []
      · rw [decide_eq_true q, q]; exact beq_self_eq_true _
      · rw [decide_eq_false q]
        refine beq_eq_false_iff_ne.mpr fun z => q ?_
        have := congrArg (fun x : Str => x.cps.toList) z
        simpa using this
    rw [← z]
    exact SeqAt.EqAt.str_str _ _ _ _) (fun j h1 h2 _ => by
    obtain ⟨t, et⟩ := strs_at (ss := ss) j (by simpa using h1) r1
    obtain ⟨t', et'⟩ := strs_at (ss := ts) j (by simpa using h2) r2
    have et : its.toArray[j] = .str ⟨(ss.getD j []).toArray⟩ t := by simpa using et
    have et' : its2.toArray[j] = .str ⟨(ts.getD j []).toArray⟩ t' := by simpa using et'
    rw [et, et']
    exact fun _ _ _ _ h => PyProof.Rows.lt_str (by simpa using h))
  rw [e1, e2, lexS_at _ ss ts 0 (by omega)] at R
  exact R X.prog X.w X.xe (EP X pins σ Q) ⟨.bl _, H, I, rfl, q⟩
end Ev

set_option Elab.async false
set_option linter.all false
set_option maxRecDepth 100000
set_option maxHeartbeats 1000000
set_option autoImplicit false
/-! EvO: operators and calls by data. -/
namespace Ev
open PySem PySem.Spec PyProof.Rows L2
section
variable {X : Cx} {T : Tb} {K : PySem.W.Frag} {M : Mem} {x : V}
/-- only lists and dicts are views of what may change -/
theorem DV.rv {p : D} (h : DV K T M p x) (h1 : ∀ xs, p ≠ .lst xs) (h2 : ∀ ks xs, p ≠ .dct ks xs) : RV K T M p x := by
  rcases h with h | ⟨xs, _, _, e, _⟩ | ⟨ks, xs, _, _, e, _⟩
  · exact h
  · exact absurd e (h1 xs)
  · exact absurd e (h2 ks xs)
theorem DV.int {i : Int} (h : DV K T M (.int i) x) : x = .int i := h.rv (fun _ z => by cases z) (fun _ _ z => by cases z)
theorem DV.str {s : List Nat} (h : DV K T M (.str s) x) : x = .str ⟨s.toArray⟩ := h.rv (fun _ z => by cases z) (fun _ _ z => by cases z)
theorem DV.bl {b : Bool} (h : DV K T M (.bl b) x) : x = .bl b := h.rv (fun _ z => by cases z) (fun _ _ z => by cases z)
theorem DV.non (h : DV K T M .non x) : x = .non := h.rv (fun _ z => by cases z) (fun _ _ z => by cases z)
theorem DV.tupP {xs : List D} (h : DV K T M (.tup xs) x) : ∃ a vs, x = .ref a ∧ SqP K M.H xs a vs ∧ RVs K T M xs vs := h.rv (fun _ z => by cases z) (fun _ _ z => by cases z)
theorem DV.tup {xs : List D} (h : DV K T M (.tup xs) x) : ∃ a vs, x = .ref a ∧ SqT K M.H a vs ∧ RVs K T M xs vs := let ⟨a, vs, e, s, r⟩ := h.tupP; ⟨a, vs, e, s.1, r⟩
theorem DV.scr {xs : List D} (h : DV K T M (.scr xs) x) : ∃ a vs, x = .ref a ∧ SqL K M.H a vs ∧ RVs K T M xs vs := by
  obtain ⟨a, vs, e, s, r⟩ : RV K T M (.scr xs) x := h.rv (fun _ z => by cases z) (fun _ _ z => by cases z)
  rcases s with ⟨_, l⟩ | k
  · exact ⟨a, vs, e, .inl l, r⟩
  · exact ⟨a, vs, e, .inr k, r⟩
theorem DV.lst {xs : List D} (h : DV K T M (.lst xs) x) : ∃ a vs, x = .ref a ∧ M.H a = some (.lst vs) ∧ RVs K T M xs vs := by
  rcases h with ⟨a, vs, e, _, l, r⟩ | ⟨ys, a, vs, e, e1, e2, e3⟩ | ⟨_, _, _, _, e, _⟩
  · exact ⟨a, vs, e, l, r⟩
  · cases e
    exact ⟨a, vs, e1, e2, e3⟩
  · cases e
theorem DV.dct {ks xs : List D} (h : DV K T M (.dct ks xs) x) : ∃ a kvs, x = .ref a ∧ M.H a = some (.dK kvs) ∧ ks.map keyD = kvs.map (fun p => some p.1) ∧ RVs K T M xs (kvs.map (·.2)) := by
  rcases h with ⟨a, vs, e, _, l, r⟩ | ⟨_, _, _, e, _⟩ | ⟨ks', ys, a, vs, e, e1, e2, e3⟩
  · exact ⟨a, vs, e, l, r⟩
  · cases e
  · cases e
    exact ⟨a, vs, e1, e2, e3⟩
/-- the reading of an operator by data -/
def rD (K : PySem.W.Frag) (T : Tb) (g : D → D → Option D) : R2 := fun x y H Q => ∃ M p q z, M.H = H ∧ Rep K T M ∧ DV K T M p x ∧ DV K T M q y ∧ g p q = some z ∧ ∀ M' v, M'.A = M.A → Rep K T M' → Ext M M' → RV K T M' z v → Q v M'.H
theorem ok_rD (g : D → D → Option D) : Ok2 K T g (rD K T g) := fun M p q z x y Q R d1 d2 e k => ⟨M, p, q, z, rfl, R, d1, d2, e, k⟩
abbrev OpD (X : Cx) (T : Tb) (f : Value → Value → Sem Value) (g : D → D → Option D) : Prop := OpR X f (rD X.K T g)
theorem je_bin {op : Operator} {g : D → D → Option D} {a b : Expr} {fa fb : SE} {pos : Pos} (ho : OpD X T (binaryOp op) g) (ha : JE X T a fa) (hb : JE X T b fb) : JE X T (.BinOp a op b pos) (e2 g fa fb) := je_op ho (ok_rD g) ha hb
theorem je_cmpD {op : CmpOp} {g : D → D → Option D} {a b : Expr} {fa fb : SE} {pos : Pos} (ho : OpD X T (compareOp op) g) (ha : JE X T a fa) (hb : JE X T b fb) (hm : behindInMarks op b = false := by first | exact nomark _ | rfl) : JE X T (.Compare a [op] [b] pos) (e2 g fa fb) := je_cmp ho (ok_rD g) ha hb hm
theorem jt_cmpD {op : CmpOp} {g : D → D → Option D} {a b : Expr} {fa fb : SE} {pos : Pos} (ho : OpD X T (compareOp op) g) (hg : ∀ p q z, g p q = some z → ∃ k, z = .bl k) (ha : JE X T a fa) (hb : JE X T b fb) (hm : behindInMarks op b = false := by first | exact nomark _ | rfl) : JT X T (.Compare a [op] [b] pos) (tE (e2 g fa fb)) := jt_cmp ho (ok_rD g) hg ha hb hm
theorem str_len (s : List Nat) : (⟨s.toArray⟩ : Str).length = s.length := by show s.toArray.size = _; simp
theorem str_app (s t : List Nat) : (⟨s.toArray⟩ : Str) ++ (⟨t.toArray⟩ : Str) = ⟨(s ++ t).toArray⟩ := by
  show (⟨s.toArray ++ t.toArray⟩ : Str) = _
  simp
/-- a new object, and what it stands for -/
theorem new_tup (R : Rep K T M) {xs : List D} {vs : List V} (nr : rowy xs = false) (r : RVs K T M xs vs) {Q : VK} (k : ∀ M' v, M'.A = M.A → Rep K T M' → Ext M M' → RV K T M' (.tup xs) v → Q v M'.H) : ∀ p, M.H p = none → Q (.ref p) (upd M.H p (.tup vs)) := fun p hp => by
  obtain ⟨R', E'⟩ := garb (o := .tup vs) R hp
  exact k { M with H := upd M.H p (.tup vs) } (.ref p) rfl R' E' ⟨p, vs, rfl, ⟨.inl (.inl upd_same), fun z => by rw [nr] at z; cases z⟩, RVs.ext R E' xs vs r⟩
theorem new_tupF (R : Rep K T M) {xs : List D} {vs : List V} (r : RVs K T M xs vs) {Q : VK} (k : ∀ M' v, M'.A = M.A → Rep K T M' → Ext M M' → RV K T M' (.tup xs) v → Q v M'.H) : ∀ (p : Addr) (o : Obj), M.H p = none → o.dict = none → Q (.ref p) (upd M.H p (.frz o (.tup vs))) := fun p o hp ho => by
  obtain ⟨R', E'⟩ := garb (o := .frz o (.tup vs)) R hp
  exact k { M with H := upd M.H p (.frz o (.tup vs)) } (.ref p) rfl R' E' ⟨p, vs, rfl, ⟨.inl (.inr ⟨o, upd_same⟩), fun _ => .inl ⟨o, vs, upd_same, ho⟩⟩, RVs.ext R E' xs vs r⟩
theorem new_lst (R : Rep K T M) {xs : List D} {vs : List V} (r : RVs K T M xs vs) {Q : VK} (k : ∀ M' v, M'.A = M.A → Rep K T M' → Ext M M' → RV K T M' (.lst xs) v → Q v M'.H) : ∀ p, M.H p = none → Q (.ref p) (upd M.H p (.lst vs)) := fun p hp => by
  obtain ⟨R', E'⟩ := garb (o := .lst vs) R hp
  exact k { M with H := upd M.H p (.lst vs) } (.ref p) rfl R' E' ⟨p, vs, rfl, sep_new R hp, upd_same, RVs.ext R E' xs vs r⟩
theorem opD_add : OpD X T (binaryOp .Add) opAdd := by
  intro pins s σ H x y v u Q I rx ry h
  obtain ⟨M, p, q, z, rfl, R, d1, d2, e, k⟩ := h
  cases p with
  | int i =>
    cases q with
    | int j => cases e; exact op_add pins s σ _ x y v u Q I rx ry ⟨i, j, d1.int, d2.int, k M _ rfl R (Ext.refl M) rfl⟩
    | _ => cases e
  | str a =>
    cases q with
    | str b =>
      have e : (if a.length + b.length ≤ sizeL then some (D.str (a ++ b)) else none) = some z := e
      split at e
      · rename_i hl
        cases e
        exact op_add_str pins s σ _ x y v u Q I rx ry ⟨_, _, d1.str, d2.str, by rw [str_len, str_len, ← sizeL_eq]; exact hl, k M _ rfl R (Ext.refl M) (by rw [str_app]; exact rfl)⟩
      · cases e
    | _ => cases e
  | tup xs =>
    cases q with
    | tup ys =>
      have e : (if xs.length + ys.length ≤ sizeL ∧ (xs.isEmpty || ys.isEmpty || !rowy (xs ++ ys)) = true then some (D.tup (xs ++ ys)) else none) = some z := e
      split at e
      · rename_i hl
        obtain ⟨hl, hr⟩ := hl
        cases e
        obtain ⟨a, vs, rfl, s1', r1⟩ := d1.tupP
        obtain ⟨b, us, rfl, s2', r2⟩ := d2.tupP
        have s1 := s1'.1
        have s2 := s2'.1
        have n1 := r1.length
        have n2 := r2.length
        refine op_catA pins s σ _ _ _ v u Q I rx ry ⟨a, b, vs, us, rfl, rfl, s1, s2, by rw [← n1, ← n2, ← sizeL_eq]; exact hl, fun h0 => ?_, fun h0 h1 => ?_, fun h0 h1 => new_tup R ?_ (r1.append r2) k⟩
        · subst h0
          have : xs = [] := by cases xs <;> simp_all
          subst this
          exact k M _ rfl R (Ext.refl M) ⟨b, us, rfl, s2', r2⟩
        · subst h1
          have : ys = [] := by cases ys <;> simp_all
          subst this
          exact k M _ rfl R (Ext.refl M) ⟨a, vs, rfl, by rw [List.append_nil]; exact s1', by rw [List.append_nil]; exact r1⟩
        · cases xs with
          | nil => exact absurd (show vs = [] from r1) h0
          | cons x xs =>
            cases ys with
            | nil => exact absurd (show us = [] from r2) h1
            | cons y ys =>
              have hr : (!rowy (x :: xs ++ y :: ys)) = true := hr
              rw [Bool.not_eq_true'] at hr
              exact hr
      · cases e
    | _ => cases e
  | lst xs =>
    cases q with
    | lst ys =>
      have e : (if xs.length + ys.length ≤ sizeL then some (D.lst (xs ++ ys)) else none) = some z := e
      split at e
      · rename_i hl
        cases e
        obtain ⟨a, vs, rfl, s1, r1⟩ := d1.lst
        obtain ⟨b, us, rfl, s2, r2⟩ := d2.lst
        exact op_cat pins s σ _ _ _ v u Q I rx ry ⟨a, b, vs, us, rfl, rfl, s1, s2, by rw [← r1.length, ← r2.length, ← sizeL_eq]; exact hl, new_lst R (r1.append r2) k⟩
      · cases e
    | _ => cases e
  | _ => cases q <;> cases e
/-- an operator of two ints -/
theorem opD_int {f : Value → Value → Sem Value} {g : D → D → Option D} {C : Int → Int → Prop} {h : Int → Int → D} {hv : Int → Int → V} (hh : ∀ M i j, RV K T M (h i j) (hv i j)) (ho : OpR X f (L2.rI C hv)) (hK : X.K = K)
    (hg : ∀ p q z, g p q = some z → ∃ i j, p = .int i ∧ q = .int j ∧ C i j ∧ z = h i j) : OpD X T f g := by
  intro pins s σ H x y v u Q I rx ry hq
  obtain ⟨M, p, q, z, rfl, R, d1, d2, e, k⟩ := hq
  obtain ⟨i, j, rfl, rfl, hc, rfl⟩ := hg p q z e
  subst hK
  exact ho pins s σ _ x y v u Q I rx ry ⟨i, j, d1.int, d2.int, hc, k M _ rfl R (Ext.refl M) (hh M i j)⟩
theorem opD_sub : OpD X T (binaryOp .Sub) opSub := by
  intro pins s σ H x y v u Q I rx ry h
  obtain ⟨M, p, q, z, rfl, R, d1, d2, e, k⟩ := h
  cases p with
  | int i =>
    cases q with
    | int j => cases e; exact op_sub pins s σ _ x y v u Q I rx ry ⟨i, j, d1.int, d2.int, k M _ rfl R (Ext.refl M) rfl⟩
    | _ => cases e
  | _ => cases q <;> cases e
theorem mulOk_ok {i j : Int} (h : mulOk i j = true) : CMul i j ∨ CMulW i j := by
  unfold mulOk at h
  rw [Bool.or_eq_true, Bool.or_eq_true, decide_eq_true_eq, decide_eq_true_eq, decide_eq_true_eq] at h
  have p : ((2 : Int) ^ 64).natAbs = 2 ^ 64 := by decide
  rcases h with (h | h) | h
  · exact .inl (.inl ⟨by omega, by omega⟩)
  · exact .inl (.inr ⟨by omega, by omega⟩)
  · exact .inr h
theorem RVs.rep {xs : List D} {vs : List V} (h : RVs K T M xs vs) : ∀ n : Nat, RVs K T M (List.replicate n xs).flatten (List.replicate n vs).flatten
  | 0 => rfl
  | n + 1 => by
    rw [List.replicate_succ, List.replicate_succ, List.flatten_cons, List.flatten_cons]
    exact h.append (RVs.rep h n)
theorem opD_mul : OpD X T (binaryOp .Mult) opMul := by
  intro pins s σ H x y v u Q I rx ry h
  obtain ⟨M, p, q, z, rfl, R, d1, d2, e, k⟩ := h
  cases p with
  | int i =>
    cases q with
    | int j =>
      have e : (if mulOk i j = true then some (D.int (i * j)) else none) = some z := e
      split at e
      · rename_i hc
        cases e
        rcases mulOk_ok hc with hc | hc
        · exact op_mul pins s σ _ x y v u Q I rx ry ⟨i, j, d1.int, d2.int, hc, k M _ rfl R (Ext.refl M) rfl⟩
        · exact op_mulW pins s σ _ x y v u Q I rx ry ⟨i, j, d1.int, d2.int, hc, k M _ rfl R (Ext.refl M) rfl⟩
      · cases e
    | _ => cases e
  | lst xs =>
    cases q with
    | int j =>
      have e : (if -(2 ^ 63) ≤ j ∧ j < 2 ^ 63 ∧ xs.length * j.toNat ≤ sizeL then some (D.lst (List.replicate j.toNat xs).flatten) else none) = some z := e
      split at e
      · rename_i hc
        cases e
        obtain ⟨a, vs, rfl, s1, r1⟩ := d1.lst
        exact op_rep pins s σ _ _ y v u Q I rx ry ⟨a, j, vs, rfl, d2.int, s1, hc.1, hc.2.1, by rw [← r1.length, ← sizeL_eq]; exact hc.2.2, new_lst R (r1.rep _) k⟩
      · cases e
    | _ => cases e
  | tup xs =>
    cases q with
    | int j =>
      have e : (if xs.isEmpty = false ∧ 0 ≤ j ∧ j ≤ 1000 ∧ xs.length ≤ 1000 ∧ rowy (List.replicate j.toNat xs).flatten = false then some (D.tup (List.replicate j.toNat xs).flatten) else none) = some z := e
      split at e
      · rename_i hc
        obtain ⟨h0, h1, h2, h3, h4⟩ := hc
        cases e
        obtain ⟨a, vs, rfl, s1', r1⟩ := d1.tupP
        have s1 := s1'.1
        have hv : vs ≠ [] := fun z => by
          subst z
          have := r1.length
          cases xs with
          | nil => cases h0
          | cons _ _ => cases this
        by_cases j0 : j = 0
        · subst j0
          cases h4
        · by_cases j1 : j = 1
          · subst j1
            refine op_rep01 pins s σ _ _ y v u Q I rx ry ⟨a, 1, vs, rfl, d2.int, s1, hv, .inl ⟨rfl, k M _ rfl R (Ext.refl M) ⟨a, vs, rfl, ?_, ?_⟩⟩⟩
            · show SqP X.K M.H (List.replicate 1 xs).flatten a vs
              rw [List.replicate_succ, List.replicate_zero, List.flatten_cons, List.flatten_nil, List.append_nil]
              exact s1'
            · show RVs X.K T M (List.replicate 1 xs).flatten vs
              rw [List.replicate_succ, List.replicate_zero, List.flatten_cons, List.flatten_nil, List.append_nil]
              exact r1
          · exact op_repT pins s σ _ _ y v u Q I rx ry ⟨a, j, vs, rfl, d2.int, s1, hv, by omega, h2, by rw [← r1.length]; exact h3, new_tup R h4 (r1.rep _) k⟩
      · cases e
    | _ => cases e
  | str t =>
    cases q with
    | int j =>
      have e : (if 0 ≤ j ∧ j ≤ 1000 ∧ t.length ≤ 1000 then some (D.str (List.replicate j.toNat t).flatten) else none) = some z := e
      split at e
      · rename_i hc
        cases e
        exact op_strmul pins s σ _ x y v u Q I rx ry ⟨t, j, d1.str, d2.int, hc.1, hc.2.1, hc.2.2, k M _ rfl R (Ext.refl M) rfl⟩
      · cases e
    | _ => cases e
  | _ => cases q <;> cases e
theorem opD_fdiv : OpD X T (binaryOp .FloorDiv) opFdiv := opD_int (K := X.K) (h := fun i j => .int (i / j)) (fun _ _ _ => rfl) op_fdivW rfl fun p q z e => by
  cases p with
  | int i =>
    cases q with
    | int j =>
      have e : (if 0 < j ∧ j.natAbs.log2 < 9000 then some (D.int (i / j)) else none) = some z := e
      split at e
      · rename_i hc
        cases e
        exact ⟨i, j, rfl, rfl, hc, rfl⟩
      · cases e
    | _ => cases e
  | _ => cases q <;> cases e
theorem opD_mod : OpD X T (binaryOp .Mod) opMod := opD_int (K := X.K) (h := fun i j => .int (i % j)) (fun _ _ _ => rfl) op_mod rfl fun p q z e => by
  cases p with
  | int i =>
    cases q with
    | int j =>
      have e : (if 0 < j then some (D.int (i % j)) else none) = some z := e
      split at e
      · rename_i hc
        cases e
        exact ⟨i, j, rfl, rfl, hc, rfl⟩
      · cases e
    | _ => cases e
  | _ => cases q <;> cases e
theorem opD_pow : OpD X T (binaryOp .Pow) opPow := opD_int (K := X.K) (h := fun i j => .int (i ^ j.toNat)) (fun _ _ _ => rfl) op_pow rfl fun p q z e => by
  cases p with
  | int i =>
    cases q with
    | int j =>
      have e : (if 0 ≤ j ∧ j ≤ 1000000 ∧ i.natAbs < 2 ^ 64 then some (D.int (i ^ j.toNat)) else none) = some z := e
      split at e
      · rename_i hc
        cases e
        exact ⟨i, j, rfl, rfl, hc, rfl⟩
      · cases e
    | _ => cases e
  | _ => cases q <;> cases e

/-! ### comparisons -/
theorem strs_rv {K : PySem.W.Frag} {T : Tb} {M : Mem} : ∀ {xs : List D} {ss : List (List Nat)} {vs : List V}, strsD xs = some ss → RVs K T M xs vs → vs = ss.map fun s => V.str ⟨s.toArray⟩
  | [], ss, vs, e, h => by
    cases e
    exact h
  | .str s :: xs, ss, vs, e, h => by
    obtain ⟨v, r, rfl, h1, h2⟩ := h
    unfold strsD at e
    cases q : strsD xs with
    | none => rw [q] at e; cases e
    | some ts =>
      rw [q] at e
      cases e
      rw [strs_rv q h2, show v = V.str ⟨s.toArray⟩ from h1]
      rfl
  | .non :: _, _, _, e, _ => by cases e
  | .bl _ :: _, _, _, e, _ => by cases e
  | .int _ :: _, _, _, e, _ => by cases e
  | .tup _ :: _, _, _, e, _ => by cases e
  | .lst _ :: _, _, _, e, _ => by cases e
  | .dct _ _ :: _, _, _, e, _ => by cases e
  | .set _ :: _, _, _, e, _ => by cases e
  | .obj _ _ :: _, _, _, e, _ => by cases e
  | .fn _ :: _, _, _, e, _ => by cases e
  | .scr _ :: _, _, _, e, _ => by cases e
theorem opD_lt (hu : X.A.units < cLine) : OpD X T (compareOp .Lt) opLt := by
  intro pins s σ H x y v u Q I rx ry h
  obtain ⟨M, p, q, z, rfl, R, d1, d2, e, k⟩ := h
  cases p with
  | int i =>
    cases q with
    | int j => cases e; exact op_lt pins s σ _ x y v u Q I rx ry ⟨i, j, d1.int, d2.int, k M _ rfl R (Ext.refl M) rfl⟩
    | _ => cases e
  | str a =>
    cases q with
    | str b => cases e; exact op_lt_str pins s σ _ x y v u Q I rx ry ⟨_, _, d1.str, d2.str, k M _ rfl R (Ext.refl M) rfl⟩
    | _ => cases e
  | tup xs =>
    cases q with
    | tup ys =>
      unfold opLt at e
      dsimp only at e
      split at e
      · rename_i ss ts e1 e2
        cases e
        obtain ⟨a, vs, rfl, s1, r1⟩ := d1.tup
        obtain ⟨b, us, rfl, s2, r2⟩ := d2.tup
        rw [strs_rv e1 r1] at s1
        rw [strs_rv e2 r2] at s2
        exact op_ltS hu pins s σ _ _ _ v u Q I rx ry ⟨a, b, ss, ts, rfl, rfl, s1, s2, k M _ rfl R (Ext.refl M) rfl⟩
      · cases e
    | _ => cases e
  | _ => cases q <;> cases e
theorem opD_le : OpD X T (compareOp .LtE) opLe := by
  intro pins s σ H x y v u Q I rx ry h
  obtain ⟨M, p, q, z, rfl, R, d1, d2, e, k⟩ := h
  cases p with
  | int i =>
    cases q with
    | int j => cases e; exact op_le pins s σ _ x y v u Q I rx ry ⟨i, j, d1.int, d2.int, k M _ rfl R (Ext.refl M) rfl⟩
    | _ => cases e
  | _ => cases q <;> cases e
theorem opD_gt : OpD X T (compareOp .Gt) opGt := by
  intro pins s σ H x y v u Q I rx ry h
  obtain ⟨M, p, q, z, rfl, R, d1, d2, e, k⟩ := h
  cases p with
  | int i =>
    cases q with
    | int j => cases e; exact op_gt pins s σ _ x y v u Q I rx ry ⟨i, j, d1.int, d2.int, k M _ rfl R (Ext.refl M) rfl⟩
    | _ => cases e
  | _ => cases q <;> cases e
theorem opD_ge : OpD X T (compareOp .GtE) opGe := by
  intro pins s σ H x y v u Q I rx ry h
  obtain ⟨M, p, q, z, rfl, R, d1, d2, e, k⟩ := h
  cases p with
  | int i =>
    cases q with
    | int j => cases e; exact op_ge pins s σ _ x y v u Q I rx ry ⟨i, j, d1.int, d2.int, k M _ rfl R (Ext.refl M) rfl⟩
    | _ => cases e
  | _ => cases q <;> cases e
/-! data as the library's data -/
mutual
def toPy : D → PyData
  | .bl b => .bool b
  | .int i => .int i
  | .str s => .str ⟨s.toArray⟩
  | .tup xs => .tuple (toPys xs)
  | .lst xs => .list (toPys xs)
  | _ => .none
def toPys : List D → List PyData
  | [] => []
  | x :: xs => toPy x :: toPys xs
end
theorem str_all (s : List Nat) : (⟨s.toArray⟩ : Str).cps.all (· < 0x110000) = s.all (· < 0x110000) := by simp
mutual
theorem lay_of : ∀ d : D, dOk d = true → (toPy d).canLay0 = true
  | .non, _ => rfl
  | .bl _, _ => rfl
  | .int _, _ => rfl
  | .str s, h => by
    show (⟨s.toArray⟩ : Str).cps.all (· < 0x110000) = true
    rw [str_all]
    exact h
  | .tup xs, h => by
    show PyData.canLay0 (.tuple (toPys xs)) = true
    rw [PyData.canLay0]
    exact lays_of xs h
  | .lst xs, h => by
    show PyData.canLay0 (.list (toPys xs)) = true
    rw [PyData.canLay0]
    exact lays_of xs h
  | .dct _ _, h => by cases h
  | .set _, h => by cases h
  | .obj _ _, h => by cases h
  | .fn _, h => by cases h
  | .scr _, h => by cases h
theorem lays_of : ∀ ds : List D, dOks ds = true → PyData.canLayAll0 (toPys ds) = true
  | [], _ => rfl
  | x :: xs, h => by
    have h : (dOk x && dOks xs) = true := h
    rw [Bool.and_eq_true] at h
    show (PyData.canLay0 (toPy x) && PyData.canLayAll0 (toPys xs)) = true
    rw [lay_of x h.1, lays_of xs h.2]
    rfl
end
mutual
theorem dep_of : ∀ d : D, (toPy d).depth = dep d
  | .non => rfl
  | .bl _ => rfl
  | .int _ => rfl
  | .str s => rfl
  | .tup xs => by
    show PyData.depthAll (toPys xs) + 1 = deps xs + 1
    rw [deps_of xs]
  | .lst xs => by
    show PyData.depthAll (toPys xs) + 1 = deps xs + 1
    rw [deps_of xs]
  | .dct _ _ => rfl
  | .set _ => rfl
  | .obj _ _ => rfl
  | .fn _ => rfl
  | .scr _ => rfl
theorem deps_of : ∀ ds : List D, PyData.depthAll (toPys ds) = deps ds
  | [] => rfl
  | x :: xs => by
    show max (PyData.depth (toPy x)) (PyData.depthAll (toPys xs)) = max (dep x) (deps xs)
    rw [dep_of x, deps_of xs]
end
theorem shaped_of {d : D} (h : okD d = true) : SeqAt.shaped (toPy d) = true := by
  unfold okD at h
  rw [Bool.and_eq_true] at h
  unfold SeqAt.shaped
  rw [lay_of d h.1, dep_of d, h.2]
  rfl
mutual
theorem dp_of : ∀ (d : D) (v : V), dOk d = true → RV K T M d v → Dp K M.H v (toPy d)
  | .non, v, _, h => by rw [show v = .non from h]; exact .non
  | .bl b, v, _, h => by rw [show v = .bl b from h]; exact .bl b
  | .int i, v, _, h => by rw [show v = .int i from h]; exact .int i
  | .str s, v, _, h => by rw [show v = .str ⟨s.toArray⟩ from h]; exact .str _
  | .tup xs, v, o, h => by
    obtain ⟨a, vs, rfl, s, r⟩ := h
    exact .tup s.1 (dps_of xs vs o r)
  | .lst xs, v, o, h => by
    obtain ⟨a, vs, rfl, _, l, r⟩ := h
    exact .lst (.inl (.inl l)) (dps_of xs vs o r)
  | .dct _ _, _, h, _ => by cases h
  | .set _, _, h, _ => by cases h
  | .obj _ _, _, h, _ => by cases h
  | .fn _, _, h, _ => by cases h
  | .scr _, _, h, _ => by cases h
theorem dps_of : ∀ (ds : List D) (vs : List V), dOks ds = true → RVs K T M ds vs → DpAll K M.H vs (toPys ds)
  | [], vs, _, h => by rw [show vs = [] from h]; exact .nil
  | x :: xs, vs, o, h => by
    obtain ⟨v, r, rfl, h1, h2⟩ := h
    have o : (dOk x && dOks xs) = true := o
    rw [Bool.and_eq_true] at o
    exact .cons (dp_of x v o.1 h1) (dps_of xs r o.2 h2)
end
theorem dv_dp {d : D} {v : V} (o : okD d = true) (h : DV K T M d v) : Dp K M.H v (toPy d) := by
  have o1 : dOk d = true := by
    unfold okD at o
    rw [Bool.and_eq_true] at o
    exact o.1
  rcases h with h | ⟨xs, a, vs, rfl, rfl, e2, e3⟩ | ⟨_, _, _, _, rfl, _⟩
  · exact dp_of d v o1 h
  · exact .lst (.inl (.inl e2)) (dps_of xs vs o1 e3)
  · cases o1
theorem str_eq (s t : List Nat) : ((⟨s.toArray⟩ : Str) = ⟨t.toArray⟩) ↔ s = t := by
  constructor
  · intro h
    injection h with h
    simpa using congrArg Array.toList h
  · rintro rfl; rfl
mutual
theorem eqv_of : ∀ (d e : D), dOk d = true → dOk e = true → PyData.eqv (toPy d) (toPy e) = eqD d e
  | .str s, .str t, _, _ => by
    show ((⟨s.toArray⟩ : Str) == ⟨t.toArray⟩) = decide (s = t)
    by_cases h : s = t
    · subst h; simp
    · rw [decide_eq_false h]
      exact beq_eq_false_iff_ne.mpr fun z => h ((str_eq s t).mp z)
  | .tup xs, .tup ys, h1, h2 => by
    show PyData.eqvAll (toPys xs) (toPys ys) = eqDs xs ys
    exact eqvs_of xs ys h1 h2
  | .lst xs, .lst ys, h1, h2 => by
    show PyData.eqvAll (toPys xs) (toPys ys) = eqDs xs ys
    exact eqvs_of xs ys h1 h2
  | .non, e, _, h => by cases e <;> first | rfl | cases h
  | .bl _, e, _, h => by cases e <;> first | rfl | cases h
  | .int _, e, _, h => by cases e <;> first | rfl | cases h
  | .str _, .non, _, h => rfl
  | .str _, .bl _, _, h => rfl
  | .str _, .int _, _, h => rfl
  | .str _, .tup _, _, h => rfl
  | .str _, .lst _, _, h => rfl
  | .tup _, .non, _, h => rfl
  | .tup _, .bl _, _, h => rfl
  | .tup _, .int _, _, h => rfl
  | .tup _, .str _, _, h => rfl
  | .tup _, .lst _, _, h => rfl
  | .lst _, .non, _, h => rfl
  | .lst _, .bl _, _, h => rfl
  | .lst _, .int _, _, h => rfl
  | .lst _, .str _, _, h => rfl
  | .lst _, .tup _, _, h => rfl
  | .dct _ _, _, h, _ => by cases h
  | .set _, _, h, _ => by cases h
  | .obj _ _, _, h, _ => by cases h
  | .fn _, _, h, _ => by cases h
  | .scr _, _, h, _ => by cases h
  | _, .dct _ _, _, h => by cases h
  | _, .set _, _, h => by cases h
  | _, .obj _ _, _, h => by cases h
  | _, .fn _, _, h => by cases h
  | _, .scr _, _, h => by cases h
theorem eqvs_of : ∀ (ds es : List D), dOks ds = true → dOks es = true → PyData.eqvAll (toPys ds) (toPys es) = eqDs ds es
  | [], [], _, _ => rfl
  | [], _ :: _, _, _ => rfl
  | _ :: _, [], _, _ => rfl
  | x :: xs, y :: ys, h1, h2 => by
    have h1 : (dOk x && dOks xs) = true := h1
    have h2 : (dOk y && dOks ys) = true := h2
    rw [Bool.and_eq_true] at h1 h2
    show (PyData.eqv (toPy x) (toPy y) && PyData.eqvAll (toPys xs) (toPys ys)) = (eqD x y && eqDs xs ys)
    rw [eqv_of x y h1.1 h2.1, eqvs_of xs ys h1.2 h2.2]
end
theorem okD_dOk {d : D} (h : okD d = true) : dOk d = true := by
  unfold okD at h
  rw [Bool.and_eq_true] at h
  exact h.1
theorem eq_nilV (hu : X.A.units + 64 < cLine) {pins : List (Addr × Obj)} {s : Shared} {σ : L2.St} {H : Hp} {Q : VK} {a b : Addr} {xs : List V} (I : Inv X pins σ H s) (ha : SqL X.K H a xs) (hb : SqL X.K H b []) (q : Q (.bl xs.isEmpty) H) :
    wpAny (model X.prog X.w) X.A (compareOp .Eq (.ref a) (.ref b)) (EP X pins σ Q) X.xe s := by
  obtain ⟨its, r1, l1, _⟩ := I.list ha
  obtain ⟨its2, r2, l2, _⟩ := I.list hb
  cases r2
  show wpAny _ _ (richCompare .Eq (.ref a) (.ref b)) _ _ _
  cases xs with
  | nil =>
    cases r1
    exact SeqAt.RcAt.lists (e := fun _ => true) l1.isList l2.isList rfl (by omega) (fun j h1 _ => absurd h1 (Nat.not_lt_zero _)) _ _ _ _ ⟨.bl true, H, I, rfl, q⟩
  | cons x xs =>
    cases r1 with
    | cons c1 c2 => exact SeqAt.RcAt.lists_lengths l1.isList l2.isList rfl (by omega) _ _ _ _ ⟨.bl false, H, I, rfl, q⟩
theorem ne_nilV (hu : X.A.units + 64 < cLine) {pins : List (Addr × Obj)} {s : Shared} {σ : L2.St} {H : Hp} {Q : VK} {a b : Addr} {xs : List V} (I : Inv X pins σ H s) (ha : SqL X.K H a xs) (hb : SqL X.K H b []) (q : Q (.bl (!xs.isEmpty)) H) :
    wpAny (model X.prog X.w) X.A (compareOp .NotEq (.ref a) (.ref b)) (EP X pins σ Q) X.xe s := by
  obtain ⟨its, r1, l1, _⟩ := I.list ha
  obtain ⟨its2, r2, l2, _⟩ := I.list hb
  cases r2
  show wpAny _ _ (richCompare .NotEq (.ref a) (.ref b)) _ _ _
  cases xs with
  | nil =>
    cases r1
    exact SeqAt.RcNeAt.lists (e := fun _ => true) l1.isList l2.isList rfl (by omega) (fun j h1 _ => absurd h1 (Nat.not_lt_zero _)) _ _ _ _ ⟨.bl false, H, I, rfl, q⟩
  | cons x xs =>
    cases r1 with
    | cons c1 c2 => exact SeqAt.RcNeAt.lists_lengths l1.isList l2.isList rfl (by omega) _ _ _ _ ⟨.bl true, H, I, rfl, q⟩
theorem opD_eq (hu : X.A.units + 64 < cLine) : OpD X T (compareOp .Eq) opEq := by
  intro pins s σ H x y v u Q I rx ry h
  obtain ⟨M, p, q, z, rfl, R, d1, d2, e, k⟩ := h
  have gen : (if (okD p && okD q) = true then some (D.bl (eqD p q)) else none) = some z → wpAny (model X.prog X.w) X.A (compareOp .Eq v u) (EP X pins σ Q) X.xe s := fun e => by
    split at e
    · rename_i hc
      rw [Bool.and_eq_true] at hc
      cases e
      exact op_eqD hu pins s σ _ x y v u Q I rx ry ⟨_, _, dv_dp hc.1 d1, dv_dp hc.2 d2, shaped_of hc.1, shaped_of hc.2, by rw [eqv_of p q (okD_dOk hc.1) (okD_dOk hc.2)]; exact k M _ rfl R (Ext.refl M) rfl⟩
    · cases e
  cases p with
  | str a =>
    cases q with
    | str b =>
      cases e
      refine L2.op_eq pins s σ _ x y v u Q I rx ry ⟨by rw [d1.str, d2.str]; rfl, ?_⟩
      rw [d1.str, d2.str]
      have : decide (V.str ⟨a.toArray⟩ = V.str ⟨b.toArray⟩) = decide (a = b) := by
        by_cases h : a = b
        · subst h; simp
        · rw [decide_eq_false h]
          exact decide_eq_false fun z => h ((str_eq a b).mp (V.str.inj z))
      rw [this]
      exact k M _ rfl R (Ext.refl M) rfl
    | _ => exact gen e
  | int i =>
    cases q with
    | int j =>
      cases e
      refine L2.op_eq pins s σ _ x y v u Q I rx ry ⟨by rw [d1.int, d2.int]; rfl, ?_⟩
      rw [d1.int, d2.int]
      have : decide (V.int i = V.int j) = decide (i = j) := by simp
      rw [this]
      exact k M _ rfl R (Ext.refl M) rfl
    | _ => exact gen e
  | lst xs =>
    cases q with
    | lst ys =>
      cases ys with
      | nil =>
        cases e
        obtain ⟨a, vs, rfl, s1, r1⟩ := d1.lst
        obtain ⟨b, us, rfl, s2, r2⟩ := d2.lst
        cases (show us = [] from r2)
        obtain rfl : v = Value.ref a := rx
        obtain rfl : u = Value.ref b := ry
        refine eq_nilV hu I (SqL.of s1) (SqL.of s2) ?_
        have : vs.isEmpty = xs.isEmpty := by
          have := r1.length
          cases xs <;> cases vs <;> first | rfl | cases this
        rw [this]
        exact k M _ rfl R (Ext.refl M) rfl
      | cons _ _ => exact gen e
    | _ => exact gen e
  | _ => exact gen e
theorem opD_ne (hu : X.A.units + 64 < cLine) : OpD X T (compareOp .NotEq) opNe := by
  intro pins s σ H x y v u Q I rx ry h
  obtain ⟨M, p, q, z, rfl, R, d1, d2, e, k⟩ := h
  have gen : (if (okD p && okD q) = true then some (D.bl (!eqD p q)) else none) = some z → wpAny (model X.prog X.w) X.A (compareOp .NotEq v u) (EP X pins σ Q) X.xe s := fun e => by
    split at e
    · rename_i hc
      rw [Bool.and_eq_true] at hc
      cases e
      exact op_neD hu pins s σ _ x y v u Q I rx ry ⟨_, _, dv_dp hc.1 d1, dv_dp hc.2 d2, shaped_of hc.1, shaped_of hc.2, by rw [eqv_of p q (okD_dOk hc.1) (okD_dOk hc.2)]; exact k M _ rfl R (Ext.refl M) rfl⟩
    · cases e
  cases p with
  | str a =>
    cases q with
    | str b =>
      cases e
      refine L2.op_ne pins s σ _ x y v u Q I rx ry ⟨by rw [d1.str, d2.str]; rfl, ?_⟩
      rw [d1.str, d2.str]
      have : decide (V.str ⟨a.toArray⟩ = V.str ⟨b.toArray⟩) = decide (a = b) := by
        by_cases h : a = b
        · subst h; simp
        · rw [decide_eq_false h]
          exact decide_eq_false fun z => h ((str_eq a b).mp (V.str.inj z))
      rw [this]
      exact k M _ rfl R (Ext.refl M) rfl
    | _ => exact gen e
  | int i =>
    cases q with
    | int j =>
      cases e
      refine L2.op_ne pins s σ _ x y v u Q I rx ry ⟨by rw [d1.int, d2.int]; rfl, ?_⟩
      rw [d1.int, d2.int]
      have : decide (V.int i = V.int j) = decide (i = j) := by simp
      rw [this]
      exact k M _ rfl R (Ext.refl M) rfl
    | _ => exact gen e
  | lst xs =>
    cases q with
    | lst ys =>
      cases ys with
      | nil =>
        cases e
        obtain ⟨a, vs, rfl, s1, r1⟩ := d1.lst
        obtain ⟨b, us, rfl, s2, r2⟩ := d2.lst
        cases (show us = [] from r2)
        obtain rfl : v = Value.ref a := rx
        obtain rfl : u = Value.ref b := ry
        refine ne_nilV hu I (SqL.of s1) (SqL.of s2) ?_
        have : vs.isEmpty = xs.isEmpty := by
          have := r1.length
          cases xs <;> cases vs <;> first | rfl | cases this
        rw [this]
        exact k M _ rfl R (Ext.refl M) rfl
      | cons _ _ => exact gen e
    | _ => exact gen e
  | _ => exact gen e
end
end Ev

set_option Elab.async false
set_option linter.all false
set_option maxRecDepth 100000
set_option maxHeartbeats 1000000
set_option autoImplicit false
/-! EvB: in, calls of builtins, isinstance, indexes, slices, chains. -/
namespace Ev
open PySem PySem.Spec PyProof.Rows L2
section
variable {X : Cx} {T : Tb} {K : PySem.W.Frag} {M : Mem} {x : V}
/-! ### keys -/
theorem keyD_ok {d : D} (h : isKey d = true) : ∃ k, keyD d = some k := by
  cases d with
  | int i => exact ⟨_, rfl⟩
  | str s => exact ⟨_, rfl⟩
  | _ => cases h
theorem keyD_rv {d : D} {k : Key} {v : V} (h : keyD d = some k) (r : RV K T M d v) : v = kV k := by
  cases d with
  | int i => cases h; exact r
  | str s => cases h; exact r
  | _ => cases h
theorem keyD_dv {d : D} {k : Key} {v : V} (h : keyD d = some k) (r : DV K T M d v) : v = kV k := by
  cases d with
  | int i => cases h; exact r.int
  | str s => cases h; exact r.str
  | _ => cases h
theorem keyEq_ok {a b : D} {ka kb : Key} (ha : keyD a = some ka) (hb : keyD b = some kb) : keyEq a b = decide (ka = kb) := by
  cases a with
  | int i =>
    cases ha
    cases b with
    | int j =>
      cases hb
      show decide (i = j) = _
      by_cases h : i = j
      · subst h; simp
      · rw [decide_eq_false h, decide_eq_false fun z => h (Sum.inl.inj z)]
    | str t => cases hb; show false = _; exact (decide_eq_false fun z => by cases z).symm
    | _ => cases hb
  | str s =>
    cases ha
    cases b with
    | int j => cases hb; show false = _; exact (decide_eq_false fun z => by cases z).symm
    | str t =>
      cases hb
      show decide (s = t) = _
      by_cases h : s = t
      · subst h; simp
      · rw [decide_eq_false h, decide_eq_false fun z => h ((str_eq s t).mp (Sum.inr.inj z))]
    | _ => cases hb
  | _ => cases ha
theorem findD_ok {k : D} {kk : Key} (hk : keyD k = some kk) : ∀ {ks vs : List D} {kvs : List (Key × V)}, ks.map keyD = kvs.map (fun p => some p.1) → RVs K T M vs (kvs.map (·.2)) → (findD k ks vs = none ∧ valV kvs kk = none) ∨ ∃ d v, findD k ks vs = some d ∧ valV kvs kk = some v ∧ RV K T M d v
  | [], vs, [], _, _ => .inl ⟨by cases vs <;> rfl, rfl⟩
  | [], vs, _ :: _, e, _ => by cases e
  | _ :: _, vs, [], e, _ => by cases e
  | a :: ks, vs, (ka, va) :: kvs, e, r => by
    have e1 : keyD a = some ka := (List.cons.inj e).1
    have e2 : ks.map keyD = kvs.map (fun p => some p.1) := (List.cons.inj e).2
    cases vs with
    | nil => cases (show va :: kvs.map (·.2) = [] from r)
    | cons d ds =>
      obtain ⟨v, rr, q, h1, h2⟩ := r
      have q : va :: kvs.map (·.2) = v :: rr := q
      cases q
      have ke := keyEq_ok e1 hk
      by_cases hh : ka = kk
      · refine .inr ⟨d, va, ?_, valV_pos hh, h1⟩
        show (if keyEq a k = true then some d else findD k ks ds) = some d
        rw [ke, decide_eq_true hh, if_pos rfl]
      · rw [valV_neg (p := (ka, va)) hh]
        have : findD k (a :: ks) (d :: ds) = findD k ks ds := by
          show (if keyEq a k = true then some d else findD k ks ds) = _
          rw [ke, decide_eq_false hh, if_neg Bool.false_ne_true]
        rw [this]
        exact findD_ok hk e2 h2
/-! ### in -/
theorem any_eqv {p : D} (hp : dOk p = true) : ∀ {ys : List D}, dOks ys = true → (toPys ys).any (fun z => PyData.eqv z (toPy p)) = ys.any fun y => eqD y p
  | [], _ => rfl
  | y :: ys, h => by
    have h : (dOk y && dOks ys) = true := h
    rw [Bool.and_eq_true] at h
    show (PyData.eqv (toPy y) (toPy p) || (toPys ys).any _) = (eqD y p || ys.any _)
    rw [eqv_of y p h.1 hp, any_eqv hp h.2]
theorem opD_in (hu : X.A.units + 65 < cLine) : OpD X T (compareOp .In) opIn := by
  intro pins s σ H x y v u Q I rx ry h
  obtain ⟨M, p, q, z, rfl, R, d1, d2, e, k⟩ := h
  have fl : ∀ ys : List D, q = .lst ys → wpAny (model X.prog X.w) X.A (compareOp .In v u) (EP X pins σ Q) X.xe s := fun ys eq => by
    subst eq
    have e : (if (okD p && okD (.lst ys)) = true then some (D.bl (ys.any fun y => eqD y p)) else none) = some z := by cases p <;> exact e
    split at e
    · rename_i hc
      rw [Bool.and_eq_true] at hc
      cases e
      exact op_inD hu pins s σ _ x y v u Q I rx ry ⟨toPy p, toPys ys, dv_dp hc.1 d1, dv_dp hc.2 d2, shaped_of hc.1, shaped_of hc.2, by rw [any_eqv (okD_dOk hc.1) (okD_dOk hc.2)]; exact k M _ rfl R (Ext.refl M) rfl⟩
    · cases e
  have ft : ∀ ys : List D, q = .tup ys → wpAny (model X.prog X.w) X.A (compareOp .In v u) (EP X pins σ Q) X.xe s := fun ys eq => by
    subst eq
    have e : (if (okD p && okD (.tup ys)) = true then some (D.bl (ys.any fun y => eqD y p)) else none) = some z := by cases p <;> exact e
    split at e
    · rename_i hc
      rw [Bool.and_eq_true] at hc
      cases e
      obtain ⟨as, r1⟩ := Dp.reads I (toPy p) x v (dv_dp hc.1 d1) rx
      obtain ⟨bs, r2⟩ := Dp.reads I (.tuple (toPys ys)) y u (dv_dp hc.2 d2) ry
      refine SeqAt.in_tuple_reads r2 r1 (SeqAt.canLay_of_shaped (shaped_of hc.2)) (SeqAt.canLay_of_shaped (shaped_of hc.1)) (room_in_shaped (shaped_of hc.1) hu) ⟨.bl _, M.H, I, rfl, ?_⟩
      rw [any_eqv (okD_dOk hc.1) (okD_dOk hc.2)]
      exact k M _ rfl R (Ext.refl M) rfl
    · cases e
  have fd : ∀ ks vs : List D, q = .dct ks vs → wpAny (model X.prog X.w) X.A (compareOp .In v u) (EP X pins σ Q) X.xe s := fun ks vs eq => by
    subst eq
    have e : (if isKey p = true then some (D.bl (findD p ks vs).isSome) else none) = some z := by cases p <;> first | exact e | (rename_i l; cases l with | nil => exact e | cons _ r => cases r <;> exact e)
    split at e
    · rename_i hk
      cases e
      obtain ⟨kk, hkk⟩ := keyD_ok hk
      obtain ⟨a, kvs, rfl, hd, hks, rv⟩ := d2.dct
      obtain rfl : u = Value.ref a := ry
      have hx := keyD_dv hkk d1
      subst hx
      refine d_in (o := valV kvs kk) (by omega) I (DGet.k hd) rx fun s' I' => ⟨.bl _, M.H, I', rfl, ?_⟩
      rcases findD_ok hkk hks rv with ⟨h1, h2⟩ | ⟨d, w, h1, h2, _⟩
      · rw [h2]; rw [h1] at k; exact k M _ rfl R (Ext.refl M) rfl
      · rw [h2]; rw [h1] at k; exact k M _ rfl R (Ext.refl M) rfl
    · cases e
  cases q with
  | lst ys => exact fl ys rfl
  | tup ys => exact ft ys rfl
  | dct ks vs => exact fd ks vs rfl
  | str t =>
    cases p with
    | str a =>
      cases a with
      | nil => cases e
      | cons c r =>
        cases r with
        | nil =>
          cases e
          exact op_in_sign pins s σ _ x y v u Q I rx ry ⟨c, _, d1.str, d2.str, by
            show Q (.bl (decide (c ∈ t))) M.H
            exact k M _ rfl R (Ext.refl M) rfl⟩
        | cons _ _ => cases e
    | _ => cases e
  | _ => cases p <;> first | cases e | (rename_i l; cases l with | nil => cases e | cons _ r => cases r <;> cases e)
theorem opIn_bool : ∀ p q z, opIn p q = some z → ∃ k, z = .bl k := fun p q z e => by
  unfold opIn at e
  split at e <;> first | (split at e <;> first | (cases e; exact ⟨_, rfl⟩) | cases e) | (cases e; exact ⟨_, rfl⟩) | cases e
theorem opD_notIn (hu : X.A.units + 65 < cLine) : OpD X T (compareOp .NotIn) opNotIn := by
  intro pins s σ H x y v u Q I rx ry h
  obtain ⟨M, p, q, z0, rfl, R, d1, d2, e0, k0⟩ := h
  obtain ⟨z, b, e, ez, k⟩ : ∃ z b, opIn p q = some z ∧ z = .bl b ∧ ∀ v, v = V.bl (!b) → Q v M.H := by
    unfold opNotIn at e0
    split at e0
    · rename_i b eb
      cases e0
      exact ⟨_, b, eb, rfl, fun v hv => k0 M v rfl R (Ext.refl M) hv⟩
    · cases e0
  have fl : ∀ ys : List D, q = .lst ys → wpAny (model X.prog X.w) X.A (compareOp .NotIn v u) (EP X pins σ Q) X.xe s := fun ys eq => by
    subst eq
    have e : (if (okD p && okD (.lst ys)) = true then some (D.bl (ys.any fun y => eqD y p)) else none) = some z := by cases p <;> exact e
    split at e
    · rename_i hc
      rw [Bool.and_eq_true] at hc
      cases e
      cases ez
      exact op_notInD hu pins s σ _ x y v u Q I rx ry ⟨toPy p, toPys ys, dv_dp hc.1 d1, dv_dp hc.2 d2, shaped_of hc.1, shaped_of hc.2, by rw [any_eqv (okD_dOk hc.1) (okD_dOk hc.2)]; exact k _ rfl⟩
    · cases e
  have ft : ∀ ys : List D, q = .tup ys → wpAny (model X.prog X.w) X.A (compareOp .NotIn v u) (EP X pins σ Q) X.xe s := fun ys eq => by
    subst eq
    have e : (if (okD p && okD (.tup ys)) = true then some (D.bl (ys.any fun y => eqD y p)) else none) = some z := by cases p <;> exact e
    split at e
    · rename_i hc
      rw [Bool.and_eq_true] at hc
      cases e
      cases ez
      obtain ⟨as, r1⟩ := Dp.reads I (toPy p) x v (dv_dp hc.1 d1) rx
      obtain ⟨bs, r2⟩ := Dp.reads I (.tuple (toPys ys)) y u (dv_dp hc.2 d2) ry
      refine SeqAt.notIn_tuple_reads r2 r1 (SeqAt.canLay_of_shaped (shaped_of hc.2)) (SeqAt.canLay_of_shaped (shaped_of hc.1)) (room_in_shaped (shaped_of hc.1) hu) ⟨.bl _, M.H, I, rfl, ?_⟩
      rw [any_eqv (okD_dOk hc.1) (okD_dOk hc.2)]
      exact k _ rfl
    · cases e
  have fd : ∀ ks vs : List D, q = .dct ks vs → wpAny (model X.prog X.w) X.A (compareOp .NotIn v u) (EP X pins σ Q) X.xe s := fun ks vs eq => by
    subst eq
    have e : (if isKey p = true then some (D.bl (findD p ks vs).isSome) else none) = some z := by cases p <;> first | exact e | (rename_i l; cases l with | nil => exact e | cons _ r => cases r <;> exact e)
    split at e
    · rename_i hk
      cases e
      cases ez
      obtain ⟨kk, hkk⟩ := keyD_ok hk
      obtain ⟨a, kvs, rfl, hd, hks, rv⟩ := d2.dct
      obtain rfl : u = Value.ref a := ry
      have hx := keyD_dv hkk d1
      subst hx
      refine d_notIn (o := valV kvs kk) (by omega) I (DGet.k hd) rx fun s' I' => ⟨.bl _, M.H, I', rfl, ?_⟩
      rcases findD_ok hkk hks rv with ⟨h1, h2⟩ | ⟨d, w, h1, h2, _⟩
      · rw [h2]; rw [h1] at k; exact k _ rfl
      · rw [h2]; rw [h1] at k; exact k _ rfl
    · cases e
  cases q with
  | lst ys => exact fl ys rfl
  | tup ys => exact ft ys rfl
  | dct ks vs => exact fd ks vs rfl
  | str t =>
    cases p with
    | str a =>
      cases a with
      | nil => cases e
      | cons c r =>
        cases r with
        | nil =>
          cases e
          cases ez
          exact op_notIn_sign pins s σ _ x y v u Q I rx ry ⟨c, _, d1.str, d2.str, by
            show Q (.bl (!decide (c ∈ t))) M.H
            exact k _ rfl⟩
        | cons _ _ => cases e
    | _ => cases e
  | _ => cases p <;> first | cases e | (rename_i l; cases l with | nil => cases e | cons _ r => cases r <;> cases e)
theorem opNotIn_bool : ∀ p q z, opNotIn p q = some z → ∃ k, z = .bl k := fun p q z e => by
  unfold opNotIn at e
  split at e
  · cases e; exact ⟨_, rfl⟩
  · cases e
theorem opEq_bool : ∀ p q z, opEq p q = some z → ∃ k, z = .bl k := fun p q z e => by
  unfold opEq at e
  split at e
  · cases e; exact ⟨_, rfl⟩
  · cases e; exact ⟨_, rfl⟩
  · cases e; exact ⟨_, rfl⟩
  · split at e
    · cases e; exact ⟨_, rfl⟩
    · cases e
theorem opNe_bool : ∀ p q z, opNe p q = some z → ∃ k, z = .bl k := fun p q z e => by
  unfold opNe at e
  split at e
  · cases e; exact ⟨_, rfl⟩
  · cases e; exact ⟨_, rfl⟩
  · cases e; exact ⟨_, rfl⟩
  · split at e
    · cases e; exact ⟨_, rfl⟩
    · cases e
theorem opLt_bool : ∀ p q z, opLt p q = some z → ∃ k, z = .bl k := fun p q z e => by
  unfold opLt at e
  split at e
  · cases e; exact ⟨_, rfl⟩
  · cases e; exact ⟨_, rfl⟩
  · split at e
    · cases e; exact ⟨_, rfl⟩
    · cases e
  · cases e
theorem opLe_bool : ∀ p q z, opLe p q = some z → ∃ k, z = .bl k := fun p q z e => by
  unfold opLe at e
  split at e
  · cases e; exact ⟨_, rfl⟩
  · cases e
theorem opGt_bool : ∀ p q z, opGt p q = some z → ∃ k, z = .bl k := fun p q z e => by
  unfold opGt at e
  split at e
  · cases e; exact ⟨_, rfl⟩
  · cases e
theorem opGe_bool : ∀ p q z, opGe p q = some z → ∃ k, z = .bl k := fun p q z e => by
  unfold opGe at e
  split at e
  · cases e; exact ⟨_, rfl⟩
  · cases e

/-! ### is None -/
theorem isN_ok {w : W} {v : V} (r : RW K T M w v) : decide (v = .non) = isN w := by
  cases w with
  | ref n => obtain ⟨_, rfl⟩ := r; rfl
  | d p =>
    cases p with
    | non => rw [show v = .non from r]; rfl
    | bl b => rw [show v = .bl b from r]; rfl
    | int i => rw [show v = .int i from r]; rfl
    | str s => rw [show v = .str _ from r]; rfl
    | tup xs => obtain ⟨a, vs, rfl, _⟩ := r; rfl
    | lst xs => obtain ⟨a, vs, rfl, _⟩ := r; rfl
    | scr xs => obtain ⟨a, vs, rfl, _⟩ := r; rfl
    | dct ks xs => obtain ⟨a, vs, rfl, _⟩ := r; rfl
    | set xs => exact (r : False).elim
    | obj c fs => exact (r : False).elim
    | fn i => rw [show v = .ref _ from r]; rfl
theorem je_isN {a : Expr} {f : SE} {j : Nat} {pos pos' : Pos} (ha : JE X T a f) : JE X T (.Compare a [.Is] [.Constant .none j pos'] pos) (eIsN f) := PE.weak (pe_cmp (pc_isN ha)) fun σ H Q h => by
  obtain ⟨M, B, L, ρ, p, h⟩ := h
  refine ⟨M, B, L, ρ, p, (post.bind h).mono fun w L1 M1 eA R x q v rv => ?_⟩
  dsimp only
  rw [isN_ok rv]
  exact q.here eA R _ rfl
theorem je_notN {a : Expr} {f : SE} {j : Nat} {pos pos' : Pos} (ha : JE X T a f) : JE X T (.Compare a [.IsNot] [.Constant .none j pos'] pos) (eNotN f) := PE.weak (pe_cmp (pc_notN ha)) fun σ H Q h => by
  obtain ⟨M, B, L, ρ, p, h⟩ := h
  refine ⟨M, B, L, ρ, p, (post.bind h).mono fun w L1 M1 eA R x q v rv => ?_⟩
  dsimp only
  rw [isN_ok rv]
  exact q.here eA R _ rfl
theorem jt_isN {a : Expr} {f : SE} {j : Nat} {pos pos' : Pos} (ha : JE X T a f) : JT X T (.Compare a [.Is] [.Constant .none j pos'] pos) (tE (eIsN f)) := PT.weak (pt_cmp (pc_isN ha)) fun σ H Q h => by
  obtain ⟨M, B, L, ρ, p, h⟩ := h
  refine ⟨M, B, L, ρ, p, (post.bind (post.bind h)).mono fun w L1 M1 eA R x q v rv => ?_⟩
  dsimp only
  rw [isN_ok rv]
  exact ⟨_, rfl, (q.here eA R : post X.K T M1 _ _ _).here eA R⟩
theorem jt_notN {a : Expr} {f : SE} {j : Nat} {pos pos' : Pos} (ha : JE X T a f) : JT X T (.Compare a [.IsNot] [.Constant .none j pos'] pos) (tE (eNotN f)) := PT.weak (pt_cmp (pc_notN ha)) fun σ H Q h => by
  obtain ⟨M, B, L, ρ, p, h⟩ := h
  refine ⟨M, B, L, ρ, p, (post.bind (post.bind h)).mono fun w L1 M1 eA R x q v rv => ?_⟩
  dsimp only
  rw [isN_ok rv]
  exact ⟨_, rfl, (q.here eA R : post X.K T M1 _ _ _).here eA R⟩

/-! ### calls of builtins by data -/
def rN (K : PySem.W.Frag) (T : Tb) (g : List D → Option D) : List V → Hp → VK → Prop := fun xs H Q => ∃ M ps z, M.H = H ∧ Rep K T M ∧ DVs K T M ps xs ∧ g ps = some z ∧ ∀ M' v, M'.A = M.A → Rep K T M' → Ext M M' → RV K T M' z v → Q v M'.H
abbrev CallD (X : Cx) (T : Tb) (f : Value) (g : List D → Option D) : Prop := CallR X f (rN X.K T g)
theorem post.views {B L : Hs} {β : Type} {Q : β → Hs → Mem → Prop} : ∀ {ws : List W} {vs : List V} {k : List D → Hs → Res β}, post K T M B ((vwsR B L ws).bind k) Q → Rep K T M → M.A = B ++ L → RWs K T M ws vs → ∃ ps, DVs K T M ps vs ∧ post K T M B (k ps L) Q
  | [], vs, k, h, R, eA, r => ⟨[], r, h⟩
  | w :: ws, vs, k, h, R, eA, r => by
    obtain ⟨v, rr, rfl, r1, r2⟩ := r
    have h : post K T M B (((vwR B L w).bind fun p L => (vwsR B L ws).bind fun ps L => .ok (p :: ps) L).bind k) Q := h
    cases e : vw B L w with
    | none =>
      unfold vwR at h
      rw [e] at h
      exact h.elim
    | some p =>
      unfold vwR at h
      rw [e] at h
      have h : post K T M B ((vwsR B L ws).bind fun ps L => k (p :: ps) L) Q := by
        have h : post K T M B (((vwsR B L ws).bind fun ps L => .ok (p :: ps) L).bind k) Q := h
        cases e2 : vwsR B L ws with
        | ok ps L2 => rw [e2] at h; exact h
        | exc _ _ _ => rw [e2] at h; exact h.elim
        | bad => rw [e2] at h; exact h.elim
      obtain ⟨ps, d, q⟩ := post.views h R eA r2
      exact ⟨p :: ps, ⟨v, rr, rfl, vw_dv R eA e r1, d⟩, q⟩
theorem rd_B {f : SA} {g : List D → Option D} {σ : L2.St} {H : Hp} {Q : VK} (h : rE K T (eB g f) σ H Q) : tCB (rN K T g) (rA K T f) σ H Q := by
  obtain ⟨M, B, L, ρ, p, h⟩ := h
  refine ⟨M, B, L, ρ, p, (post.bind h).mono fun ws L1 M1 eA R x q vs rvs => ?_⟩
  obtain ⟨ps, d, q1⟩ := q.views R eA rvs
  obtain ⟨z, ez, q2⟩ := q1.opt
  exact ⟨M1, ps, z, rfl, R, d, ez, fun M' v a' R' x' rv => q2 M' (a'.trans eA) R' x' v rv⟩
theorem je_B {id : String} {x : Str} {e : Expr} {es : List Expr} {f : SA} {g : List D → Option D} {p pos : Pos} (hc : CallD X T (.builtin id) g) (hm : X.mg x = none) (ha : JA X T (e :: es) f) (hg : Gl X x := by rfl) (hv : bootBuiltins x = some (.builtin id) := by decide +kernel)
    (hn : x ≠ "__name__" := by decide) (hdb : (x == ("__debug__" : Str)) = false := by decide) (he : starEach (e :: es) X.env = (false, eval e X.env) :: starEach es X.env := by rfl) (hpl : (backTo pos (starEach es X.env)).any (·.1) = false := by rfl) :
    JE X T (.Call (.Name x p) (e :: es) [] pos) (eB g f) := PE.weak (pe_callB hc hg hm hv ha hn hdb he hpl) fun σ H Q h => rd_B h
theorem je_BT {n : String} {x : Str} {e : Expr} {es : List Expr} {f : SA} {g : List D → Option D} {p pos : Pos} (hc : CallD X T (.type n) g) (hm : X.mg x = none) (ha : JA X T (e :: es) f) (hg : Gl X x := by rfl) (hv : bootBuiltins x = some (.type n) := by decide +kernel)
    (hn : x ≠ "__name__" := by decide) (hdb : (x == ("__debug__" : Str)) = false := by decide) (he : starEach (e :: es) X.env = (false, eval e X.env) :: starEach es X.env := by rfl) (hpl : (backTo pos (starEach es X.env)).any (·.1) = false := by rfl) :
    JE X T (.Call (.Name x p) (e :: es) [] pos) (eB g f) := PE.weak (pe_callTy hc hg hm hv ha hn hdb he hpl) fun σ H Q h => rd_B h
theorem DVs.one {p : D} {xs : List V} (h : DVs K T M [p] xs) : ∃ x, xs = [x] ∧ DV K T M p x := by
  obtain ⟨v, r, rfl, h1, h2⟩ := h
  rw [show r = [] from h2]
  exact ⟨v, rfl, h1⟩
theorem DVs.two {p q : D} {xs : List V} (h : DVs K T M [p, q] xs) : ∃ x y, xs = [x, y] ∧ DV K T M p x ∧ DV K T M q y := by
  obtain ⟨v, r, rfl, h1, h2⟩ := h
  obtain ⟨y, rfl, h3⟩ := DVs.one h2
  exact ⟨v, y, rfl, h1, h3⟩
theorem g1_shape {g : List D → Option D} {ps : List D} {z : D} (e : g ps = some z) (h0 : g [] = none) (h2 : ∀ a b r, g (a :: b :: r) = none) : ∃ p, ps = [p] := by
  cases ps with
  | nil => rw [h0] at e; cases e
  | cons a r =>
    cases r with
    | nil => exact ⟨a, rfl⟩
    | cons b r => rw [h2] at e; cases e
theorem call_D1 {f : Value} {g : List D → Option D} (h0 : g [] = none) (h2 : ∀ a b r, g (a :: b :: r) = none)
    (h : ∀ (pins : List (Addr × Obj)) (s : Shared) (σ : L2.St) (M : Mem) (p z : D) (x : V) (u : Value) (Q : VK), Inv X pins σ M.H s → RelV x u → Rep X.K T M → DV X.K T M p x → g [p] = some z → (∀ M' v, M'.A = M.A → Rep X.K T M' → Ext M M' → RV X.K T M' z v → Q v M'.H) → wpAny (model X.prog X.w) X.A (call f [u]) (EP X pins σ Q) X.xe s) : CallD X T f g := by
  intro pins s σ H xs us Q I r hq
  obtain ⟨M, ps, z, rfl, R, d, e, k⟩ := hq
  obtain ⟨p, rfl⟩ := g1_shape e h0 h2
  obtain ⟨x, rfl, d1⟩ := d.one
  obtain ⟨u, rfl, rx⟩ := vals1 r
  exact h pins s σ M p z x u Q I rx R d1 e k
theorem cd_abs : CallD X T (.builtin "abs") bAbs := call_D1 rfl (fun _ _ _ => by simp [bAbs]) fun pins s σ M p z x u Q I rx R d e k => by
  cases p with
  | int i => cases e; exact call_abs pins s σ _ [x] [u] Q I (.cons rx .nil) ⟨i, by rw [d.int], k M _ rfl R (Ext.refl M) rfl⟩
  | _ => cases e
theorem cd_int : CallD X T (.type "int") bInt := call_D1 rfl (fun _ _ _ => by simp [bInt]) fun pins s σ M p z x u Q I rx R d e k => by
  cases p with
  | int i => cases e; exact call_int1 pins s σ _ [x] [u] Q I (.cons rx .nil) (.inl ⟨i, by rw [d.int], k M _ rfl R (Ext.refl M) rfl⟩)
  | bl b => cases e; exact call_int1 pins s σ _ [x] [u] Q I (.cons rx .nil) (.inr ⟨b, by rw [d.bl], k M _ rfl R (Ext.refl M) rfl⟩)
  | _ => cases e
theorem cd_len : CallD X T (.builtin "len") bLen := call_D1 rfl (fun _ _ _ => by simp [bLen]) fun pins s σ M p z x u Q I rx R d e k => by
  cases p with
  | str t =>
    have e : (if t.length ≤ sizeL then some (D.int t.length) else none) = some z := e
    split at e
    · rename_i hl
      cases e
      refine call_len_str pins s σ _ [x] [u] Q I (.cons rx .nil) ⟨⟨t.toArray⟩, by rw [d.str], by rw [str_len, ← sizeL_eq]; exact hl, ?_⟩
      rw [str_len]
      exact k M _ rfl R (Ext.refl M) rfl
    · cases e
  | tup xs =>
    cases e
    obtain ⟨a, vs, rfl, s1, r1⟩ := d.tup
    exact call_len_seq pins s σ _ _ [u] Q I (.cons rx .nil) ⟨a, vs, rfl, .inr s1, by rw [← r1.length]; exact k M _ rfl R (Ext.refl M) rfl⟩
  | lst xs =>
    cases e
    obtain ⟨a, vs, rfl, s1, r1⟩ := d.lst
    exact call_len_seq pins s σ _ _ [u] Q I (.cons rx .nil) ⟨a, vs, rfl, .inl (SqL.of s1), by rw [← r1.length]; exact k M _ rfl R (Ext.refl M) rfl⟩
  | scr xs =>
    cases e
    obtain ⟨a, vs, rfl, s1, r1⟩ := d.scr
    exact call_len_seq pins s σ _ _ [u] Q I (.cons rx .nil) ⟨a, vs, rfl, .inl s1, by rw [← r1.length]; exact k M _ rfl R (Ext.refl M) rfl⟩
  | dct ks vs =>
    cases e
    obtain ⟨a, kvs, rfl, hd, hks, rv⟩ := d.dct
    obtain rfl : u = Value.ref a := rx
    refine d_len I (.inl hd) fun t s' I' => ⟨.int kvs.length, M.H, I', ⟨t, rfl⟩, ?_⟩
    have : ks.length = kvs.length := by simpa using congrArg List.length hks
    rw [← this]
    exact k M _ rfl R (Ext.refl M) rfl
  | _ => cases e
theorem cd_list : CallD X T (.type "list") bList := call_D1 rfl (fun _ _ _ => by simp [bList]) fun pins s σ M p z x u Q I rx R d e k => by
  cases p with
  | tup xs =>
    cases e
    obtain ⟨a, vs, rfl, s1, r1⟩ := d.tup
    exact call_list_of pins s σ _ _ [u] Q I (.cons rx .nil) ⟨a, vs, rfl, .inr s1, new_lst R r1 k⟩
  | lst xs =>
    cases e
    obtain ⟨a, vs, rfl, s1, r1⟩ := d.lst
    exact call_list_of pins s σ _ _ [u] Q I (.cons rx .nil) ⟨a, vs, rfl, .inl (SqL.of s1), new_lst R r1 k⟩
  | scr xs =>
    cases e
    obtain ⟨a, vs, rfl, s1, r1⟩ := d.scr
    exact call_list_of pins s σ _ _ [u] Q I (.cons rx .nil) ⟨a, vs, rfl, .inl s1, new_lst R r1 k⟩
  | _ => cases e
theorem call_tuple_F : CallR X (.type "tuple") (fun xs H Q => ∃ p ys, xs = [.ref p] ∧ SqL X.K H p ys ∧ ∀ (l : Addr) (o : Obj), H l = none → o.dict = none → Q (.ref l) (upd H l (.frz o (.tup ys)))) := by
  intro pins s σ H xs us Q I r h
  obtain ⟨p, ys, rfl, hq, q⟩ := h
  obtain ⟨u, rfl, rx⟩ := vals1 r
  cases rx
  obtain ⟨its, r', pl, hz⟩ := I.list hq
  have hlen := r'.length
  refine call_tuple_list pl.isList (fun h' kp => ?_) (by simp only [List.size_toArray] <;> omega)
  have I1 : Inv X pins σ H { s with heap := h' } := I.kept (t' := s.toks) kp
  have I2 : Inv X pins σ (upd H h'.objs.size (.frz { cls := .type "tuple", data := .seq its.toArray } (.tup ys))) { s with heap := h'.push { cls := .type "tuple", data := .seq its.toArray } } :=
    I1.laid (t' := s.toks) (fun b o e => Heap.get?_push_of_some _ e) (Nat.le_refl _) (show ObjOk X.prog X.w _ _ _ (.frz { cls := .type "tuple", data := .seq its.toArray } (.tup ys)) from ⟨Heap.get?_push_size _ rfl, hz, its, r', IsTup.new _ _⟩)
  exact ⟨.ref h'.objs.size, _, I2, rfl, q _ _ (I1.hok.fresh (Nat.le_refl _)) rfl⟩
theorem cd_tuple : CallD X T (.type "tuple") bTuple := call_D1 rfl (fun _ _ _ => by simp [bTuple]) fun pins s σ M p z x u Q I rx R d e k => by
  cases p with
  | tup xs =>
    cases e
    obtain ⟨a, vs, rfl, s1, r1⟩ := d.tupP
    exact call_tuple_of pins s σ _ _ [u] Q I (.cons rx .nil) ⟨a, vs, rfl, .inr ⟨s1.1, k M _ rfl R (Ext.refl M) ⟨a, vs, rfl, s1, r1⟩⟩⟩
  | lst xs =>
    cases e
    obtain ⟨a, vs, rfl, s1, r1⟩ := d.lst
    exact call_tuple_F pins s σ _ _ [u] Q I (.cons rx .nil) ⟨a, vs, rfl, SqL.of s1, new_tupF R r1 k⟩
  | scr xs =>
    cases e
    obtain ⟨a, vs, rfl, s1, r1⟩ := d.scr
    exact call_tuple_F pins s σ _ _ [u] Q I (.cons rx .nil) ⟨a, vs, rfl, s1, new_tupF R r1 k⟩
  | _ => cases e
theorem allB_ok : ∀ {xs : List D} {bs : List Bool} {vs : List V}, allB xs = some bs → RVs K T M xs vs → vs = bs.map V.bl
  | [], bs, vs, e, h => by cases e; exact h
  | x :: xs, bs, vs, e, h => by
    cases x with
    | bl b =>
      obtain ⟨v, r, rfl, h1, h2⟩ := h
      have e : (match allB xs with | some bs => some (b :: bs) | none => none) = some bs := e
      cases q : allB xs with
      | none => rw [q] at e; cases e
      | some cs =>
        rw [q] at e
        cases e
        rw [show v = .bl b from h1, allB_ok q h2]
        rfl
    | _ => cases e
theorem cd_all (hc : X.calm = true) : CallD X T (.builtin "all") bAll := call_D1 rfl (fun _ _ _ => by simp [bAll]) fun pins s σ M p z x u Q I rx R d e k => by
  cases p with
  | lst xs =>
    have e : (match allB xs with | some bs => some (D.bl (bs.all id)) | none => none) = some z := e
    cases q : allB xs with
    | none => rw [q] at e; cases e
    | some bs =>
      rw [q] at e
      cases e
      obtain ⟨a, vs, rfl, s1, r1⟩ := d.lst
      exact cr_all hc pins s σ _ _ [u] Q I (.cons rx .nil) ⟨a, bs, rfl, SqL.of (by rw [← allB_ok q r1]; exact s1), k M _ rfl R (Ext.refl M) rfl⟩
  | _ => cases e
theorem cd_any (hc : X.calm = true) : CallD X T (.builtin "any") bAny := call_D1 rfl (fun _ _ _ => by simp [bAny]) fun pins s σ M p z x u Q I rx R d e k => by
  cases p with
  | lst xs =>
    have e : (match allB xs with | some bs => some (D.bl (bs.any id)) | none => none) = some z := e
    cases q : allB xs with
    | none => rw [q] at e; cases e
    | some bs =>
      rw [q] at e
      cases e
      obtain ⟨a, vs, rfl, s1, r1⟩ := d.lst
      exact cr_any hc pins s σ _ _ [u] Q I (.cons rx .nil) ⟨a, bs, rfl, SqL.of (by rw [← allB_ok q r1]; exact s1), k M _ rfl R (Ext.refl M) rfl⟩
  | _ => cases e
theorem allI_ok : ∀ {xs : List D} {is : List Int} {vs : List V}, allI xs = some is → RVs K T M xs vs → vs = is.map V.int
  | [], is, vs, e, r => by cases e; exact r
  | x :: xs, is, vs, e, r => by
    obtain ⟨v, rr, rfl, r1, r2⟩ := r
    cases x with
    | int i =>
      unfold allI at e
      cases q : allI xs with
      | none => rw [q] at e; cases e
      | some js =>
        rw [q] at e
        cases e
        rw [allI_ok q r2]
        have : v = .int i := r1
        rw [this]
        rfl
    | _ => cases e
theorem foldMax : ∀ (l : List Int) (a : Int), (l.foldl (fun a b => if b > a then b else a) a = a ∨ l.foldl (fun a b => if b > a then b else a) a ∈ l) ∧ a ≤ l.foldl (fun a b => if b > a then b else a) a ∧ ∀ y ∈ l, y ≤ l.foldl (fun a b => if b > a then b else a) a
  | [], a => ⟨.inl rfl, Int.le_refl _, fun y h => by cases h⟩
  | b :: l, a => by
    rw [List.foldl_cons]
    by_cases h : b > a
    · rw [if_pos h]
      obtain ⟨h1, h2, h3⟩ := foldMax l b
      refine ⟨.inr ?_, by omega, fun y hy => ?_⟩
      · rcases h1 with h1 | h1
        · rw [h1]; exact List.mem_cons_self
        · exact List.mem_cons_of_mem _ h1
      · rcases List.mem_cons.mp hy with rfl | hy
        · exact h2
        · exact h3 y hy
    · rw [if_neg h]
      obtain ⟨h1, h2, h3⟩ := foldMax l a
      refine ⟨h1.elim .inl fun z => .inr (List.mem_cons_of_mem _ z), h2, fun y hy => ?_⟩
      rcases List.mem_cons.mp hy with rfl | hy
      · omega
      · exact h3 y hy
theorem foldMin : ∀ (l : List Int) (a : Int), (l.foldl (fun a b => if b < a then b else a) a = a ∨ l.foldl (fun a b => if b < a then b else a) a ∈ l) ∧ l.foldl (fun a b => if b < a then b else a) a ≤ a ∧ ∀ y ∈ l, l.foldl (fun a b => if b < a then b else a) a ≤ y
  | [], a => ⟨.inl rfl, Int.le_refl _, fun y h => by cases h⟩
  | b :: l, a => by
    rw [List.foldl_cons]
    by_cases h : b < a
    · rw [if_pos h]
      obtain ⟨h1, h2, h3⟩ := foldMin l b
      refine ⟨.inr ?_, by omega, fun y hy => ?_⟩
      · rcases h1 with h1 | h1
        · rw [h1]; exact List.mem_cons_self
        · exact List.mem_cons_of_mem _ h1
      · rcases List.mem_cons.mp hy with rfl | hy
        · exact h2
        · exact h3 y hy
    · rw [if_neg h]
      obtain ⟨h1, h2, h3⟩ := foldMin l a
      refine ⟨h1.elim .inl fun z => .inr (List.mem_cons_of_mem _ z), h2, fun y hy => ?_⟩
      rcases List.mem_cons.mp hy with rfl | hy
      · omega
      · exact h3 y hy
theorem DVs.lst1 {xs : List D} {vs : List V} {is : List Int} (h : DVs K T M [.lst xs] vs) (e : allI xs = some is) : ∃ a, vs = [.ref a] ∧ SqL K M.H a (is.map V.int) := by
  obtain ⟨x, rfl, d⟩ := h.one
  obtain ⟨a, us, rfl, s1, r1⟩ := d.lst
  exact ⟨a, rfl, by rw [← allI_ok e r1]; exact SqL.of s1⟩
theorem cd_max (hc : X.calm = true) : CallD X T (.builtin "max") bMax := by
  intro pins s σ H xs us Q I r hq
  obtain ⟨M, ps, z, rfl, R, d, e, k⟩ := hq
  unfold bMax at e
  split at e
  · rename_i i j
    cases e
    obtain ⟨x, y, rfl, d1, d2⟩ := d.two
    exact call_max2 hc pins s σ _ _ us Q I r ⟨i, j, by rw [d1.int, d2.int], k M _ rfl R (Ext.refl M) rfl⟩
  · rename_i xs
    split at e
    · rename_i is ei
      obtain ⟨a, rfl, sq⟩ := d.lst1 ei
      cases is with
      | nil => cases e
      | cons i is =>
        cases e
        obtain ⟨h1, h2, h3⟩ := foldMax is i
        refine cr_max hc pins s σ _ _ us Q I r ⟨a, i :: is, rfl, sq, Nat.succ_pos _, fun m hm hy => ?_⟩
        have : m = is.foldl (fun a b => if b > a then b else a) i := by
          have a1 := hy (is.foldl (fun a b => if b > a then b else a) i) (h1.elim (fun z => by rw [z]; exact List.mem_cons_self) (List.mem_cons_of_mem _))
          have a2 : m ≤ is.foldl (fun a b => if b > a then b else a) i := by
            rcases List.mem_cons.mp hm with rfl | hm
            · exact h2
            · exact h3 m hm
          omega
        rw [this]
        exact k M _ rfl R (Ext.refl M) rfl
    · cases e
  · cases e
theorem cd_min (hc : X.calm = true) : CallD X T (.builtin "min") bMin := by
  intro pins s σ H xs us Q I r hq
  obtain ⟨M, ps, z, rfl, R, d, e, k⟩ := hq
  unfold bMin at e
  split at e
  · rename_i i j
    cases e
    obtain ⟨x, y, rfl, d1, d2⟩ := d.two
    exact call_min2 hc pins s σ _ _ us Q I r ⟨i, j, by rw [d1.int, d2.int], k M _ rfl R (Ext.refl M) rfl⟩
  · rename_i xs
    split at e
    · rename_i is ei
      obtain ⟨a, rfl, sq⟩ := d.lst1 ei
      cases is with
      | nil => cases e
      | cons i is =>
        cases e
        obtain ⟨h1, h2, h3⟩ := foldMin is i
        refine cr_min hc pins s σ _ _ us Q I r ⟨a, i :: is, rfl, sq, Nat.succ_pos _, fun m hm hy => ?_⟩
        have : m = is.foldl (fun a b => if b < a then b else a) i := by
          have a1 := hy (is.foldl (fun a b => if b < a then b else a) i) (h1.elim (fun z => by rw [z]; exact List.mem_cons_self) (List.mem_cons_of_mem _))
          have a2 : is.foldl (fun a b => if b < a then b else a) i ≤ m := by
            rcases List.mem_cons.mp hm with rfl | hm
            · exact h2
            · exact h3 m hm
          omega
        rw [this]
        exact k M _ rfl R (Ext.refl M) rfl
    · cases e
  · cases e

/-! ### isinstance with a built-in class -/
def tyName : Ty → String
  | .int => "int"
  | .str => "str"
  | .bool => "bool"
  | .tuple => "tuple"
  | .list => "list"
  | .dict => "dict"
theorem ty_dv {p : D} {x : V} {b : Bool} {t : Ty} (h : isTy t p = some b) (d : DV K T M p x) : ∃ n : String, TyX K M.H x (.type n) ∧ kitB n (tyName t) = some b := by
  cases p with
  | non => cases h; exact ⟨"NoneType", .base (by rw [d.non]; exact .non), by cases t <;> decide +kernel⟩
  | bl c => cases h; exact ⟨"bool", .base (by rw [d.bl]; exact .bl c), by cases t <;> decide +kernel⟩
  | int i => cases h; exact ⟨"int", .base (by rw [d.int]; exact .int i), by cases t <;> decide +kernel⟩
  | str s => cases h; exact ⟨"str", .base (by rw [d.str]; exact .str _), by cases t <;> decide +kernel⟩
  | tup xs =>
    cases h
    obtain ⟨a, vs, rfl, s1, r1⟩ := d.tup
    refine ⟨"tuple", ?_, by cases t <;> decide +kernel⟩
    rcases s1 with (s1 | ⟨o, s1⟩) | ⟨o, its, n, h1, h2, _⟩
    · exact .base (.tup s1)
    · exact .fTuple s1
    · exact .kTuple h1 h2
  | lst xs =>
    cases h
    obtain ⟨a, vs, rfl, s1, r1⟩ := d.lst
    exact ⟨"list", .base (.lst s1), by cases t <;> decide +kernel⟩
  | dct ks xs =>
    cases h
    obtain ⟨a, kvs, rfl, hd, _⟩ := d.dct
    exact ⟨"dict", .base (.dK hd), by cases t <;> decide +kernel⟩
  | _ => cases h
/-- isinstance(e, T) -/
theorem je_isi {t : Ty} {e : Expr} {f : SE} {n : Str} {p q pos : Pos} (ha : JE X T e f) (hm : X.mg "isinstance" = none) (hmt : X.mg n = none) (hv : bootBuiltins n = some (.type (tyName t)) := by decide +kernel) (hg : Gl X "isinstance" := by rfl) (hgt : Gl X n := by rfl)
    (hn : n ≠ "__name__" := by decide) (hdt : (n == ("__debug__" : Str)) = false := by decide) (he1 : starEach [e, .Name n q] X.env = (false, eval e X.env) :: starEach [.Name n q] X.env := by rfl) (he2 : starEach [.Name n q] X.env = (false, eval (.Name n q) X.env) :: starEach [] X.env := by rfl)
    (hpl : (backTo pos (starEach [.Name n q] X.env)).any (·.1) = false := by rfl) : JE X T (.Call (.Name "isinstance" p) [e, .Name n q] [] pos) (e1 (bIsi t) f) :=
  PE.weak (pe_callB (id := "isinstance") call_isi hg hm (by decide +kernel) (pa_cons ha (pa_cons (pe_bltn (v := .ty (tyName t)) hgt hmt hv rfl hn hdt) pa_nil he2) he1) (by decide) (by decide) he1 hpl) fun σ H Q h => by
    obtain ⟨M, B, L, ρ, p, h⟩ := h
    refine ⟨M, B, L, ρ, p, (post.bind h).mono fun w L1 M1 eA R x q v rv => ?_⟩
    obtain ⟨pd, ev, dv, q1⟩ := q.view R eA rv
    obtain ⟨z, ez, q2⟩ := q1.opt
    unfold bIsi at ez
    cases et : isTy t pd with
    | none => rw [et] at ez; cases ez
    | some b =>
      rw [et] at ez
      cases ez
      obtain ⟨nn, ty, kb⟩ := ty_dv et dv
      exact ⟨v, .ty (tyName t), .type nn, .type (tyName t), b, rfl, .ty _, ty, kit_ty kb, q2.here eA R _ rfl⟩

/-! ### indexes, slices -/
theorem ixN_same (n : Nat) (i : Int) : Ev.ixN n i = L2.ixN n i := rfl
theorem atI_rv {xs : List D} {vs : List V} {i : Int} {d : D} (r : RVs K T M xs vs) (h : Ev.atI xs i = some d) : ∃ v, L2.atI vs i = some v ∧ RV K T M d v := by
  unfold Ev.atI at h
  unfold L2.atI
  rw [ixN_same, r.length] at h
  cases e : L2.ixN vs.length i with
  | none => rw [e] at h; cases h
  | some j =>
    rw [e] at h
    obtain ⟨v, e1, r1⟩ := r.get (show xs[j]? = some d from h)
    exact ⟨v, e1, r1⟩
theorem ixD_all (hu : X.A.units + 1 < cLine) : IxR X (rD X.K T opIx) := by
  intro value slice pins s σ H x y v u Q I rx ry h hs
  obtain ⟨M, p, q, z, rfl, R, d1, d2, e, k⟩ := h
  cases p with
  | lst xs =>
    cases q with
    | int i =>
      obtain ⟨a, vs, rfl, s1, r1⟩ := d1.lst
      obtain ⟨w, e1, r2⟩ := atI_rv r1 (show Ev.atI xs i = some z from e)
      exact ix_list value slice pins s σ _ _ y v u Q I rx ry ⟨a, vs, i, w, rfl, d2.int, SqL.of s1, e1, k M _ rfl R (Ext.refl M) r2⟩ hs
    | _ => cases e
  | scr xs =>
    cases q with
    | int i =>
      obtain ⟨a, vs, rfl, s1, r1⟩ := d1.scr
      obtain ⟨w, e1, r2⟩ := atI_rv r1 (show Ev.atI xs i = some z from e)
      exact ix_list value slice pins s σ _ _ y v u Q I rx ry ⟨a, vs, i, w, rfl, d2.int, s1, e1, k M _ rfl R (Ext.refl M) r2⟩ hs
    | _ => cases e
  | tup xs =>
    cases q with
    | int i =>
      obtain ⟨a, vs, rfl, s1, r1⟩ := d1.tup
      obtain ⟨w, e1, r2⟩ := atI_rv r1 (show Ev.atI xs i = some z from e)
      exact ix_tup value slice pins s σ _ _ y v u Q I rx ry ⟨a, vs, i, w, rfl, d2.int, s1, e1, k M _ rfl R (Ext.refl M) r2⟩ hs
    | _ => cases e
  | str t =>
    cases q with
    | int i =>
      have e : (if t.length ≤ sizeL then (Ev.atI t i).map fun c => D.str [c] else none) = some z := e
      split at e
      · rename_i hl
        cases ea : Ev.atI t i with
        | none => rw [ea] at e; cases e
        | some c =>
          rw [ea] at e
          cases e
          exact ix_str value slice pins s σ _ x y v u Q I rx ry ⟨⟨t.toArray⟩, i, c, d1.str, d2.int, by rw [str_len, ← sizeL_eq]; exact hl, ea, k M _ rfl R (Ext.refl M) rfl⟩ hs
      · cases e
    | _ => cases e
  | dct ks vs =>
    have e : (if isKey q = true then findD q ks vs else none) = some z := by cases q <;> exact e
    split at e
    · rename_i hk
      obtain ⟨kk, hkk⟩ := keyD_ok hk
      obtain ⟨a, kvs, rfl, hd, hks, rv⟩ := d1.dct
      obtain rfl : v = Value.ref a := rx
      have hx := keyD_dv hkk d2
      subst hx
      rcases findD_ok hkk hks rv with ⟨h1, _⟩ | ⟨d, w, h1, h2, h3⟩
      · rw [h1] at e; cases e
      · rw [h1] at e
        cases e
        have g : DGet M.H a (kV kk) (some w) := by rw [← h2]; exact DGet.k hd
        exact tail_any (dict_typeIs I g) PySem.F.slot_dict_getitem.lookup (d_getItem hu I g ry fun w' s' I' rw' => ⟨w, M.H, I', rw', k M _ rfl R (Ext.refl M) h3⟩) hs
    · cases e
  | _ => cases q <;> cases e
theorem je_ix {a b : Expr} {fa fb : SE} {pos : Pos} (hu : X.A.units + 1 < cLine) (ha : JE X T a fa) (hb : JE X T b fb) (hs : PlainIx b := by exact fun _ _ => rfl) : JE X T (.Subscript a b pos) (e2 opIx fa fb) :=
  PE.weak (pe_ix (ixD_all hu) ha hb hs) fun σ H Q h => rd_op (ok_rD opIx) h
theorem sIx_same (n d : Nat) (o : Option Int) : Ev.sIx n d o = HT.sIx n d o := by
  cases o with
  | none => rfl
  | some v => rfl
theorem cut_rv {xs : List D} {vs : List V} (r : RVs K T M xs vs) (lo hi : Option Int) : RVs K T M (Ev.cut xs lo hi) (cutV vs lo hi) := by
  unfold Ev.cut cutV
  rw [sIx_same, sIx_same, r.length]
  exact (r.drop _).take _
def rSlD (K : PySem.W.Frag) (T : Tb) : V → Option Int → Option Int → Hp → VK → Prop := fun x lo hi H Q => ∃ M p z, M.H = H ∧ Rep K T M ∧ DV K T M p x ∧ opSl p lo hi = some z ∧ ∀ M' v, M'.A = M.A → Rep K T M' → Ext M M' → RV K T M' z v → Q v M'.H
theorem slD : SlR X (rSlD X.K T) := by
  intro pins s σ H x v vl vu lo hi sl Q I rx hs pl pu h
  obtain ⟨M, p, z, rfl, R, d, e, k⟩ := h
  cases p with
  | lst xs =>
    cases e
    obtain ⟨a, vs, rfl, s1, r1⟩ := d.lst
    exact sl_list pins s σ _ _ v vl vu lo hi sl Q I rx hs pl pu ⟨a, vs, rfl, SqL.of s1, new_lst R (cut_rv r1 lo hi) k⟩
  | scr xs =>
    cases e
    obtain ⟨a, vs, rfl, s1, r1⟩ := d.scr
    exact sl_list pins s σ _ _ v vl vu lo hi sl Q I rx hs pl pu ⟨a, vs, rfl, s1, new_lst R (cut_rv r1 lo hi) k⟩
  | tup xs =>
    have e : (if rowy (Ev.cut xs lo hi) = false then some (D.tup (Ev.cut xs lo hi)) else none) = some z := e
    by_cases hr : rowy (Ev.cut xs lo hi) = false
    · rw [if_pos hr] at e
      cases e
      obtain ⟨a, vs, rfl, s1, r1⟩ := d.tup
      refine sl_tupA pins s σ _ _ v vl vu lo hi sl Q I rx hs pl pu ⟨a, vs, rfl, s1, fun hw => ?_, fun _ => new_tup R hr (cut_rv r1 lo hi) k⟩
      refine k M _ rfl R (Ext.refl M) ⟨a, vs, rfl, ⟨s1, fun z => by rw [hr] at z; cases z⟩, ?_⟩
      have : Ev.cut xs lo hi = xs := by
        unfold Ev.cut
        rw [sIx_same, sIx_same, r1.length, hw.1, hw.2, List.drop_zero, Nat.sub_zero, ← r1.length, List.take_length]
      rw [this]
      exact r1
    · rw [if_neg hr] at e; cases e
  | str t =>
    have e : (if t.length ≤ sizeL then some (D.str (cut t lo hi)) else none) = some z := e
    split at e
    · rename_i hl
      cases e
      refine sl_str pins s σ _ _ v vl vu lo hi sl Q I rx hs pl pu ⟨⟨t.toArray⟩, d.str, by rw [str_len, ← sizeL_eq]; exact hl, ?_⟩
      refine k M _ rfl R (Ext.refl M) ?_
      show V.str _ = V.str _
      congr 1
    · cases e
  | _ => cases e
def rO (K : PySem.W.Frag) (T : Tb) (f : SO) : TO := fun σ H Q => ∃ M B L ρ, Pt K T M B L ρ σ H ∧ post K T M B (f B ρ L) fun o _ M' => Q o M'.H
abbrev JO (X : Cx) (T : Tb) (e : Option Expr) (f : SO) : Prop := PO X e (rO X.K T f)
theorem PO.weak {e : Option Expr} {t u : TO} (h : PO X e t) (w : ∀ σ H Q, u σ H Q → t σ H Q) : PO X e u := ⟨fun pins s σ H Q I q => h.run pins s σ H Q I (w σ H Q q)⟩
theorem jo_none : JO X T none oNone := PO.weak po_none fun σ H Q h => by
  obtain ⟨M, B, L, ρ, p, h⟩ := h
  have : Q none M.H := h M p.eA p.rep (Ext.refl M)
  rw [p.eH] at this
  exact this
theorem jo_some {e : Expr} {f : SE} (he : JE X T e f) : JO X T (some e) (oSome f) := PO.weak (po_some he) fun σ H Q h => by
  obtain ⟨M, B, L, ρ, p, h⟩ := h
  refine ⟨M, B, L, ρ, p, (post.bind h).mono fun w L1 M1 eA R x q v rv => ?_⟩
  obtain ⟨pd, ev, dv, q1⟩ := q.view R eA rv
  obtain ⟨i, ei, q2⟩ := q1.opt
  clear q q1
  cases pd with
  | int j => cases ei; exact ⟨i, dv.int, q2.here eA R⟩
  | _ => cases ei
theorem je_sl {e : Expr} {lo hi : Option Expr} {f : SE} {fl fh : SO} {pos p2 : Pos} (he : JE X T e f) (hl : JO X T lo fl) (hh : JO X T hi fh) : JE X T (.Subscript e (.Slice lo hi none p2) pos) (eSl f fl fh) := PE.weak (pe_slice (slD (T := T)) he hl hh) fun σ H Q h => by
  obtain ⟨M, B, L, ρ, p, h⟩ := h
  refine ⟨M, B, L, ρ, p, (post.bind h).mono fun w L1 M1 eA R x q v rv => ?_⟩
  refine ⟨M1, B, L1, ρ, p.next eA R x, (post.bind q).mono fun o1 L2 M2 eA2 R2 x2 q2 => ?_⟩
  refine ⟨M2, B, L2, ρ, (p.next eA R x).next eA2 R2 x2, (post.bind q2).mono fun o2 L3 M3 eA3 R3 x3 q3 => ?_⟩
  obtain ⟨pd, ev, dv, q4⟩ := q3.view R3 eA3 (rv.ext R (x2.trans x3))
  obtain ⟨z, ez, q5⟩ := q4.opt
  exact ⟨M3, pd, z, rfl, R3, dv, ez, fun M' v a' R' x' rv => q5 M' (a'.trans eA3) R' x' v rv⟩
/-! ### chains -/
theorem rd_chain {g g' : D → D → Option D} {fa fb fc : SE} {σ : L2.St} {H : Hp} {Q : VK} (h : rE K T (eChain g g' fa fb fc) σ H Q) : tChain (rD K T g) (rD K T g') (rE K T fa) (rE K T fb) (rE K T fc) σ H Q := by
  obtain ⟨M, B, L, ρ, p, h⟩ := h
  refine ⟨M, B, L, ρ, p, (post.bind h).mono fun w L1 M1 eA R x q v rv => ?_⟩
  refine ⟨M1, B, L1, ρ, p.next eA R x, (post.bind q).mono fun w2 L2 M2 eA2 R2 x2 q2 v2 rv2 => ?_⟩
  obtain ⟨pd, e1, d1, q3⟩ := q2.view R2 eA2 (rv.ext R x2)
  obtain ⟨qd, e2, d2, q4⟩ := q3.view R2 eA2 rv2
  obtain ⟨z, ez, q5⟩ := q4.opt
  obtain ⟨k, ek, q6⟩ := q5.opt
  clear q q2 q3 q4 q5
  cases z with
  | bl b =>
    cases ek
    refine ⟨M2, pd, qd, .bl k, rfl, R2, d1, d2, ez, fun M3 v3 a3 R3 x3 rv3 => ⟨k, rv3, ?_⟩⟩
    have q7 := q6.later x3
    cases k with
    | false =>
      refine iteF ?_
      rw [if_neg Bool.false_ne_true] at q7
      exact q7.here (a3.trans eA2) R3 _ rfl
    | true =>
      refine iteT ?_
      rw [if_pos rfl] at q7
      refine ⟨M3, B, L2, ρ, ((p.next eA R x).next eA2 R2 x2).next (a3.trans eA2) R3 x3, (post.bind q7).mono fun w4 L4 M4 eA4 R4 x4 q8 v4 rv4 => ?_⟩
      obtain ⟨q', e1', d1', q9⟩ := q8.view R4 eA4 (rv2.ext R2 (x3.trans x4))
      obtain ⟨s', e2', d2', q10⟩ := q9.view R4 eA4 rv4
      obtain ⟨z', ez', q11⟩ := q10.opt
      exact ⟨M4, q', s', z', rfl, R4, d1', d2', ez', fun M' u a' R' x' ru => q11 M' (a'.trans eA4) R' x' u ru⟩
  | _ => cases ek
theorem je_chain {op op' : CmpOp} {g g' : D → D → Option D} {a b c : Expr} {fa fb fc : SE} {pos : Pos} (ho : OpD X T (compareOp op) g) (ho' : OpD X T (compareOp op') g') (ha : JE X T a fa) (hb : JE X T b fb) (hc : JE X T c fc) (hm : lastMarks [op, op'] [b, c] = false := by with_unfolding_all rfl) :
    JE X T (.Compare a [op, op'] [b, c] pos) (eChain g g' fa fb fc) := PE.weak (pe_chain ho ho' ha hb hc hm) fun σ H Q h => rd_chain h
theorem bindI {α β : Type} {r : Res α} {k : α → Hs → Res β} {b : β} {L : Hs} (h : r.bind k = .ok b L) : ∃ a L1, r = .ok a L1 ∧ k a L1 = .ok b L := by
  cases r with
  | ok a L1 => exact ⟨a, L1, rfl, h⟩
  | exc _ _ _ => cases h
  | bad => cases h
theorem optI {α : Type} {o : Option α} {a : α} {L L' : Hs} (h : ofOpt o L = .ok a L') : o = some a ∧ L' = L := by
  cases o with
  | none => cases h
  | some x => cases h; exact ⟨rfl, rfl⟩
theorem jt_chain {op op' : CmpOp} {g g' : D → D → Option D} {a b c : Expr} {fa fb fc : SE} {pos : Pos} (ho : OpD X T (compareOp op) g) (ho' : OpD X T (compareOp op') g') (hg : ∀ p q z, g' p q = some z → ∃ k, z = .bl k) (ha : JE X T a fa) (hb : JE X T b fb) (hc : JE X T c fc) (hm : lastMarks [op, op'] [b, c] = false := by with_unfolding_all rfl) :
    JT X T (.Compare a [op, op'] [b, c] pos) (tE (eChain g g' fa fb fc)) := PT.weak (pt_chain ho ho' ha hb hc hm) fun σ H Q h => rd_test (fun σ H Q h => rd_chain h) h fun B ρ L w L' hh => by
  obtain ⟨x, L1, h1, hh⟩ := bindI hh
  obtain ⟨y, L2, h2, hh⟩ := bindI hh
  obtain ⟨p, L3, h3, hh⟩ := bindI hh
  obtain ⟨q, L4, h4, hh⟩ := bindI hh
  obtain ⟨r, L5, h5, hh⟩ := bindI hh
  obtain ⟨k, L6, h6, hh⟩ := bindI hh
  cases k with
  | false => rw [if_neg Bool.false_ne_true] at hh; cases hh; exact ⟨_, rfl⟩
  | true =>
    rw [if_pos rfl] at hh
    obtain ⟨z, L7, h7, hh⟩ := bindI hh
    obtain ⟨q', L8, h8, hh⟩ := bindI hh
    obtain ⟨s', L9, h9, hh⟩ := bindI hh
    obtain ⟨r', L10, h10, hh⟩ := bindI hh
    obtain ⟨e, _⟩ := optI h10
    obtain ⟨k', rfl⟩ := hg _ _ _ e
    cases hh
    exact ⟨_, rfl⟩
end
end Ev

set_option Elab.async false
set_option linter.all false
set_option maxRecDepth 100000
set_option maxHeartbeats 1000000
set_option autoImplicit false
/-! EvF: places that change, dicts. -/
namespace Ev
open PySem PySem.Spec PyProof.Rows L2
section
variable {X : Cx} {T : Tb} {K : PySem.W.Frag} {M M0 : Mem} {x : V}
/-- a place is changed -/
theorem place_put (R : Rep K T M) {n : Nat} {o o' : Ob} {h' : HO} (ho : M.A[n]? = some o) (hl : o.live = true) (hl' : o'.live = true) (hp : Plain h')
    (ro : ∀ M', M'.m = M.m → M'.S = M.S → M'.A = M.A.set n o' → M'.H = upd M.H (M.m n) h' → Ext M M' → RO K T M' (M.m n) o') :
    Rep K T { M with A := M.A.set n o', H := upd M.H (M.m n) h' } ∧ Ext M { M with A := M.A.set n o', H := upd M.H (M.m n) h' } := by
  have hn : n < M.A.length := (List.getElem?_eq_some_iff.mp ho).1
  have lv : ∀ k, liveAt (M.A.set n o') k → liveAt M.A k := fun k ⟨u, e, l⟩ => by
    by_cases hk : n = k
    · subst hk; exact ⟨o, ho, hl⟩
    · rw [List.getElem?_set_ne hk] at e; exact ⟨u, e, l⟩
  have ln : liveAt M.A n := ⟨o, ho, hl⟩
  have e : Ext M { M with A := M.A.set n o', H := upd M.H (M.m n) h' } := by
    refine ⟨⟨by rw [List.length_set]; exact Nat.le_refl _, fun _ _ => rfl, fun k y q => ?_, fun k hk l => ?_, fun a u h s => (upd_ne (fun z : a = M.m n => s.1 n ln z.symm)).trans h, fun a h => ?_, fun _ h => .inl h⟩, rfl, fun a ha => upd_ne (fun z : a = M.m n => (R.sc a ha).2 n ln z.symm)⟩
    · show (M.A.set n o')[k]? = _
      by_cases hk : n = k
      · subst hk; rw [ho] at q; cases q; cases hl
      · rw [List.getElem?_set_ne hk]; exact q
    · obtain ⟨u, q, _⟩ := lv k l
      exact absurd (List.getElem?_eq_some_iff.mp q).1 (Nat.not_lt.mpr hk)
    · show upd M.H (M.m n) h' a ≠ none
      unfold upd
      split
      · intro z; cases z
      · exact h
  refine ⟨⟨fun i j li lj q => R.inj i j (lv i li) (lv j lj) q, fun k u q => ?_, fun a ha => ?_⟩, e⟩
  · have q : (M.A.set n o')[k]? = some u := q
    by_cases hk : n = k
    · subst hk
      rw [List.getElem?_set_self hn] at q
      cases q
      exact ro _ rfl rfl rfl rfl e
    · rw [List.getElem?_set_ne hk] at q
      have r := R.at_ k u q
      have ne : u.live = true → M.m k ≠ M.m n := fun l z => hk (R.inj k n ⟨u, q, l⟩ ln z).symm
      cases u with
      | frz y => exact RV.ext R e y _ r
      | lst ws => obtain ⟨vs, h1, h2⟩ := r; exact ⟨vs, (upd_ne (ne rfl)).trans h1, h2.ext R e⟩
      | dct ks ws => obtain ⟨kvs, h1, h2, h3⟩ := r; exact ⟨kvs, (upd_ne (ne rfl)).trans h1, h2, h3.ext R e⟩
      | ins c fs => obtain ⟨dx, gs, h1, h2, h3⟩ := r; exact ⟨dx, gs, (upd_ne (ne rfl)).trans h1, h2, h3.ext R e⟩
      | dcn ks ws => obtain ⟨kvs, h1, h2, h3, h4, h5⟩ := r; exact ⟨kvs, (upd_ne (ne rfl)).trans h1, h2, h3, RVs.ext R e _ _ h4, h5.ext R e⟩
  · obtain ⟨⟨u, h1, h2⟩, h3⟩ := R.sc a ha
    exact ⟨⟨u, (upd_ne (fun z : a = M.m n => h3 n ln z.symm)).trans h1, h2⟩, fun k l => h3 k (lv k l)⟩
/-- a new place -/
def Mem.more (M : Mem) (p : Addr) (h : HO) (o : Ob) (S : List Addr) : Mem := ⟨fun n => if n = M.A.length then p else M.m n, M.A ++ [o], upd M.H p h, S⟩
theorem more_live {p : Addr} {h : HO} {o : Ob} {S : List Addr} {n : Nat} (l : liveAt (M.more p h o S).A n) : liveAt M.A n ∨ n = M.A.length := by
  obtain ⟨u, e, q⟩ := l
  have e : (M.A ++ [o])[n]? = some u := e
  by_cases hn : n < M.A.length
  · rw [List.getElem?_append_left hn] at e
    exact .inl ⟨u, e, q⟩
  · have := (List.getElem?_eq_some_iff.mp e).1
    rw [List.length_append] at this
    exact .inr (by simp at this; omega)
theorem more_m {p : Addr} {h : HO} {o : Ob} {S : List Addr} {n : Nat} (hn : n < M.A.length) : (M.more p h o S).m n = M.m n := by
  show (if n = M.A.length then p else M.m n) = _
  rw [if_neg (by omega)]
theorem more_keeps (R : Rep K T M) {p : Addr} {h : HO} {o : Ob} {S : List Addr} (hp : M.H p = none ∨ p ∈ M.S) (hS : ∀ a, a ∈ S → a ∈ M.S) : Keeps (K := K) M (M.more p h o S) := by
  have ne : ∀ a, Sep M a → M.H a ≠ none → a ≠ p := fun a s h0 z => by
    subst z
    exact hp.elim h0 s.2
  refine ⟨fun a xs q => ?_, fun a s h0 => ⟨fun n l z => ?_, fun z => s.2 (hS a z)⟩, fun a u q s => (upd_ne (ne a s (by rw [q]; intro z; cases z))).trans q, by show _ ≤ (M.A ++ [o]).length; rw [List.length_append]; omega, fun n hn => more_m hn, fun a q => ?_⟩
  rotate_right
  · rcases q with ⟨q, vs, h, hd'⟩ | h
    · exact .inl ⟨q, vs, (upd_ne (ne a (R.sep_tup (.inr ⟨q, h⟩)) (by rw [h]; intro z; cases z))).trans h, hd'⟩
    · exact .inr h
  · rcases q with q | q
    · have s := R.sep_tup q
      have n1 := ne a s (rd_ne q)
      rcases q with q | ⟨u, q⟩
      · exact .inl (.inl ((upd_ne n1).trans q))
      · exact .inl (.inr ⟨u, (upd_ne n1).trans q⟩)
    · exact .inr q
  · rcases more_live l with l | l
    · obtain ⟨u, e, _⟩ := l
      rw [more_m (List.getElem?_eq_some_iff.mp e).1] at z
      exact s.1 n ⟨u, e, ‹_›⟩ z
    · subst l
      have z : (if M.A.length = M.A.length then p else M.m M.A.length) = a := z
      rw [if_pos rfl] at z
      exact ne a s h0 z.symm
theorem more_rep (R : Rep K T M) {p : Addr} {h : HO} {o : Ob} {S : List Addr} (hp : M.H p = none ∨ p ∈ M.S) (hS : ∀ a, a ∈ S → a ∈ M.S ∧ a ≠ p) (ro : RO K T (M.more p h o S) p o) : Rep K T (M.more p h o S) := by
  have k := more_keeps (K := K) (h := h) (o := o) R hp (fun a z => (hS a z).1)
  have np : ∀ n, liveAt M.A n → M.m n ≠ p := fun n l z => by
    rcases hp with hp | hp
    · obtain ⟨u, e, _⟩ := R.live_kind l
      rw [z, hp] at e
      cases e
    · exact (R.sc p hp).2 n l z
  have mm : (M.more p h o S).m M.A.length = p := by show (if _ = _ then _ else _) = _; rw [if_pos rfl]
  have lt : ∀ n, liveAt M.A n → n < M.A.length := fun n ⟨u, e, _⟩ => (List.getElem?_eq_some_iff.mp e).1
  refine ⟨fun i j li lj q => ?_, fun n u q => ?_, fun a ha => ?_⟩
  · rcases more_live li with li | li <;> rcases more_live lj with lj | lj
    · rw [more_m (lt i li), more_m (lt j lj)] at q
      exact R.inj i j li lj q
    · subst lj
      rw [more_m (lt i li), mm] at q
      exact absurd q (np i li)
    · subst li
      rw [more_m (lt j lj), mm] at q
      exact absurd q.symm (np j lj)
    · rw [li, lj]
  · have q : (M.A ++ [o])[n]? = some u := q
    by_cases hn : n < M.A.length
    · rw [List.getElem?_append_left hn] at q
      have r := R.at_ n u q
      rw [more_m hn]
      have hh : u.live = true → ∀ w, M.H (M.m n) = some w → (M.more p h o S).H (M.m n) = some w := fun l w e => (upd_ne (np n ⟨u, q, l⟩)).trans e
      cases u with
      | frz y => exact RV.keeps k y _ r
      | lst ws => obtain ⟨vs, h1, h2⟩ := r; exact ⟨vs, hh rfl _ h1, h2.keeps k⟩
      | dct ks ws => obtain ⟨kvs, h1, h2, h3⟩ := r; exact ⟨kvs, hh rfl _ h1, h2, h3.keeps k⟩
      | ins c fs => obtain ⟨dx, gs, h1, h2, h3⟩ := r; exact ⟨dx, gs, hh rfl _ h1, h2, h3.keeps k⟩
      | dcn ks ws => obtain ⟨kvs, h1, h2, h3, h4, h5⟩ := r; exact ⟨kvs, hh rfl _ h1, h2, h3, RVs.keeps k _ _ h4, h5.keeps k⟩
    · have hl := (List.getElem?_eq_some_iff.mp q).1
      have e : n = M.A.length := by simp at hl; omega
      subst e
      rw [mm]
      rw [List.getElem?_append_right (Nat.le_refl _), Nat.sub_self] at q
      cases q
      exact ro
  · obtain ⟨h1, h2⟩ := hS a ha
    obtain ⟨⟨u, h3, h4⟩, h5⟩ := R.sc a h1
    refine ⟨⟨u, (upd_ne h2).trans h3, h4⟩, fun n l z => ?_⟩
    rcases more_live l with l | l
    · rw [more_m (lt n l)] at z
      exact h5 n l z
    · subst l
      rw [mm] at z
      exact h2 z.symm
theorem more_ext {p : Addr} {h : HO} {o : Ob} (e : Ext0 M0 M) (hd : M0.H p = none) (hS : ∀ a, a ∈ M0.S → M.H a = M0.H a) (R0 : Rep K T M0) : Ext M0 (M.more p h o M0.S) := by
  refine ⟨⟨?_, fun n hn => ?_, fun n y q => ?_, fun n hn l => ?_, fun a u q s => ?_, fun a q => ?_, fun a z => .inl z⟩, rfl, fun a ha => ?_⟩
  · show _ ≤ (M.A ++ [o]).length
    rw [List.length_append]
    exact Nat.le_trans e.len (Nat.le_add_right _ _)
  · rw [more_m (Nat.lt_of_lt_of_le hn e.len)]
    exact e.same n hn
  · have q := e.fz n y q
    show (M.A ++ [o])[n]? = _
    rw [List.getElem?_append_left (List.getElem?_eq_some_iff.mp q).1]
    exact q
  · rcases more_live l with l | l
    · obtain ⟨u, e1, _⟩ := id l
      rw [more_m (List.getElem?_eq_some_iff.mp e1).1]
      exact e.new n hn l
    · subst l
      show M0.H (if M.A.length = M.A.length then p else M.m M.A.length) = none
      rw [if_pos rfl]
      exact hd
  · exact (upd_ne (ne_of_none q hd)).trans (e.keep a u q s)
  · show upd M.H p h a ≠ none
    unfold upd
    split
    · intro z; cases z
    · exact e.there a q
  · obtain ⟨⟨u, h1, _⟩, _⟩ := R0.sc a ha
    exact (upd_ne (ne_of_none h1 hd)).trans (hS a ha)

/-! ### dict displays -/
theorem plain_dK (kvs : List (Key × V)) : Plain (.dK kvs) := ⟨(fun _ z => by cases z), (fun _ _ z => by cases z)⟩
theorem any_key {k : D} {kk : Key} (hk : keyD k = some kk) : ∀ {ks : List D} {kvs : List (Key × V)}, ks.map keyD = kvs.map (fun p => some p.1) → ks.any (fun a => keyEq a k) = kvs.any (fun kv => decide (kv.1 = kk))
  | [], [], _ => rfl
  | [], _ :: _, e => by cases e
  | _ :: _, [], e => by cases e
  | a :: ks, (ka, va) :: kvs, e => by
    have e1 : keyD a = some ka := (List.cons.inj e).1
    have e2 : ks.map keyD = kvs.map (fun p => some p.1) := (List.cons.inj e).2
    show (keyEq a k || ks.any _) = (decide (ka = kk) || kvs.any _)
    rw [keyEq_ok e1 hk, any_key hk e2]
theorem putKs_ok {k : D} {kk : Key} {v : V} (hk : keyD k = some kk) {ks : List D} {kvs : List (Key × V)} (e : ks.map keyD = kvs.map (fun p => some p.1)) : (putKs k ks).map keyD = (putK kvs kk v).map (fun p => some p.1) := by
  unfold putKs putK
  rw [any_key hk e]
  split
  · rw [e, List.map_map]
    congr 1
    funext p
    show some p.1 = some (if p.1 = kk then (p.1, v) else p).1
    split <;> rfl
  · rw [List.map_append, List.map_append, e]
    show _ ++ [keyD k] = _ ++ [some kk]
    rw [hk]
/-- lists of values, one replaced -/
theorem RWs.zip {k : D} {kk : Key} {w : W} {v : V} (hk : keyD k = some kk) (r : RW K T M w v) : ∀ {ks : List D} {ws : List W} {kvs : List (Key × V)}, ks.map keyD = kvs.map (fun p => some p.1) → RWs K T M ws (kvs.map (·.2)) →
    RWs K T M (List.zipWith (fun a y => if keyEq a k then w else y) ks ws) ((kvs.map fun kv => if kv.1 = kk then (kv.1, v) else kv).map (·.2))
  | [], ws, [], _, _ => rfl
  | [], _, _ :: _, e, _ => by cases e
  | _ :: _, _, [], e, _ => by cases e
  | a :: ks, ws, (ka, va) :: kvs, e, h => by
    have e1 : keyD a = some ka := (List.cons.inj e).1
    have e2 : ks.map keyD = kvs.map (fun p => some p.1) := (List.cons.inj e).2
    cases ws with
    | nil => cases (show va :: kvs.map (·.2) = [] from h)
    | cons y ys =>
      obtain ⟨v1, r1, q, h1, h2⟩ := h
      have q : va :: kvs.map (·.2) = v1 :: r1 := q
      cases q
      have ih := RWs.zip hk r e2 h2
      refine ⟨(if ka = kk then (ka, v) else (ka, va)).2, _, rfl, ?_, ih⟩
      show RW K T M (if keyEq a k = true then w else y) _
      rw [keyEq_ok e1 hk]
      by_cases hh : ka = kk
      · rw [if_pos hh, if_pos (decide_eq_true hh)]; exact r
      · rw [if_neg hh, decide_eq_false hh, if_neg Bool.false_ne_true]; exact h1
theorem putVs_ok {k : D} {kk : Key} {w : W} {v : V} (hk : keyD k = some kk) (r : RW K T M w v) {ks : List D} {ws : List W} {kvs : List (Key × V)} (e : ks.map keyD = kvs.map (fun p => some p.1)) (h : RWs K T M ws (kvs.map (·.2))) :
    RWs K T M (putVs k w ks ws) ((putK kvs kk v).map (·.2)) := by
  unfold putVs putK
  rw [any_key hk e]
  split
  · exact RWs.zip hk r e h
  · rw [List.map_append]
    exact h.append ⟨v, [], rfl, r, rfl⟩
theorem mergeKV_ok : ∀ {ks' : List D} {ws' : List W} {kvs' : List (Key × V)} {ks : List D} {ws : List W} {kvs : List (Key × V)}, ks'.map keyD = kvs'.map (fun p => some p.1) → RWs K T M ws' (kvs'.map (·.2)) → ks.map keyD = kvs.map (fun p => some p.1) → RWs K T M ws (kvs.map (·.2)) →
    (mergeKV ks ws ks' ws').1.map keyD = (mergeK kvs kvs').map (fun p => some p.1) ∧ RWs K T M (mergeKV ks ws ks' ws').2 ((mergeK kvs kvs').map (·.2))
  | [], ws', [], ks, ws, kvs, _, _, e, h => by
    have : mergeKV ks ws [] ws' = (ks, ws) := by cases ws' <;> rfl
    rw [this]
    exact ⟨e, h⟩
  | [], _, _ :: _, _, _, _, e, _, _, _ => by cases e
  | _ :: _, _, [], _, _, _, e, _, _, _ => by cases e
  | a :: ks', ws', (ka, va) :: kvs', ks, ws, kvs, e', h', e, h => by
    have e1 : keyD a = some ka := (List.cons.inj e').1
    have e2 : ks'.map keyD = kvs'.map (fun p => some p.1) := (List.cons.inj e').2
    cases ws' with
    | nil => cases (show va :: kvs'.map (·.2) = [] from h')
    | cons y ys =>
      obtain ⟨v1, r1, q, h1, h2⟩ := h'
      have q : va :: kvs'.map (·.2) = v1 :: r1 := q
      cases q
      have := mergeKV_ok (ks' := ks') (ws' := ys) (kvs' := kvs') (ks := putKs a ks) (ws := putVs a y ks ws) (kvs := putK kvs ka va) e2 h2 (putKs_ok e1 e) (putVs_ok e1 h1 e h)
      exact this
theorem zipWith_map {α β γ δ : Type} (f : α → γ → δ) (g : β → γ) : ∀ (xs : List α) (ys : List β), List.zipWith f xs (ys.map g) = List.zipWith (fun x y => f x (g y)) xs ys
  | [], _ => rfl
  | _ :: _, [] => rfl
  | x :: xs, y :: ys => by
    show f x (g y) :: _ = _
    rw [zipWith_map f g xs ys]
    rfl
theorem mergeKV_map : ∀ (ks' : List D) (xs' : List D) (ks : List D) (xs : List D), mergeKV ks (xs.map W.d) ks' (xs'.map W.d) = ((mergeKV ks xs ks' xs').1, (mergeKV ks xs ks' xs').2.map W.d)
  | [], xs', ks, xs => by cases xs' <;> rfl
  | _ :: _, [], ks, xs => rfl
  | k :: ks', x :: xs', ks, xs => by
    have : putVs k (W.d x) ks (xs.map W.d) = (putVs k x ks xs).map W.d := by
      unfold putVs
      split
      · rw [zipWith_map, List.map_zipWith]
        congr 1
        funext a y
        split <;> rfl
      · rw [List.map_append]
        rfl
    show mergeKV (putKs k ks) (putVs k (W.d x) ks (xs.map W.d)) ks' (xs'.map W.d) = _
    rw [this]
    exact mergeKV_map ks' xs' _ _
theorem RWs.toD' {xs : List D} {vs : List V} (h : RWs K T M (xs.map W.d) vs) : RVs K T M xs vs := by
  induction xs generalizing vs with
  | nil => exact h
  | cons x xs ih =>
    obtain ⟨v, r, rfl, h1, h2⟩ := h
    exact ⟨v, r, rfl, h1, ih h2⟩
/-- the pairs of a display -/
inductive JPs (X : Cx) (T : Tb) : List (Option Expr) → List Expr → List (SE × SE) → Prop
  | nil : JPs X T [] [] []
  | cons {k v : Expr} {ks : List (Option Expr)} {vs : List Expr} {f g : SE} {ps : List (SE × SE)} : JE X T k f → JE X T v g → JPs X T ks vs ps → JPs X T (some k :: ks) (v :: vs) ((f, g) :: ps)
theorem JPs.pps {pos : Pos} : ∀ {ks : List (Option Expr)} {vs : List Expr} {ps : List (SE × SE)}, JPs X T ks vs ps → PPs X pos ks vs (ps.map fun p => (rE X.K T p.1, rE X.K T p.2))
  | _, _, _, .nil => pps_nil
  | _, _, _, .cons h1 h2 h3 => pps_cons h1 h2 h3.pps
theorem rd_pairs : ∀ {ps : List (SE × SE)} {M : Mem} {B L : Hs} {ρ : Sl} {σ : L2.St} {Q : List (V × V) → Hp → Prop} {ww : List W × List W} {L9 : Hs}, Pt K T M B L ρ σ M.H → pairsGo B ρ ps L = .ok ww L9 →
    (∀ M' us vs, M'.A = B ++ L9 → Rep K T M' → Ext M M' → RWs K T M' ww.1 us → RWs K T M' ww.2 vs → Q (us.zip vs) M'.H) → tPairs (ps.map fun p => (rE K T p.1, rE K T p.2)) σ M.H Q
  | [], M, B, L, ρ, σ, Q, ww, L9, p, e, k => by
    cases e
    exact k M [] [] p.eA p.rep (Ext.refl M) rfl rfl
  | (f, g) :: ps, M, B, L, ρ, σ, Q, ww, L9, p, e, k => by
    obtain ⟨x, L1, e1, e⟩ := bindI e
    obtain ⟨y, L2, e2, e⟩ := bindI e
    obtain ⟨pp, L3, e3, e⟩ := bindI e
    cases e
    refine ⟨M, B, L, ρ, p, ?_⟩
    show post K T M B (f B ρ L) _
    rw [e1]
    intro M1 a1 R1 x1 v1 rv1
    refine ⟨M1, B, L1, ρ, p.next a1 R1 x1, ?_⟩
    show post K T M1 B (g B ρ L1) _
    rw [e2]
    intro M2 a2 R2 x2 v2 rv2
    exact rd_pairs ((p.next a1 R1 x1).next a2 R2 x2) e3 fun M3 us vs a3 R3 x3 r1 r2 => k M3 (v1 :: us) (v2 :: vs) a3 R3 ((x1.trans x2).trans x3) ⟨v1, us, rfl, rv1.ext R1 (x2.trans x3), r1⟩ ⟨v2, vs, rfl, rv2.ext R2 x3, r2⟩
theorem views_ok {B L : Hs} (R : Rep K T M) (eA : M.A = B ++ L) : ∀ {ws : List W} {vs : List V} {ps : List D} {L1 : Hs}, vwsR B L ws = .ok ps L1 → RWs K T M ws vs → DVs K T M ps vs ∧ L1 = L
  | [], vs, ps, L1, e, r => by cases e; exact ⟨r, rfl⟩
  | w :: ws, vs, ps, L1, e, r => by
    obtain ⟨v, rr, rfl, r1, r2⟩ := r
    obtain ⟨p, L2, e1, e'⟩ := bindI e
    obtain ⟨ev, rfl⟩ := optI e1
    obtain ⟨pp, L3, e2, e''⟩ := bindI e'
    clear e e'
    cases e''
    obtain ⟨d, rfl⟩ := views_ok R eA e2 r2
    exact ⟨⟨v, rr, rfl, vw_dv R eA ev r1, d⟩, rfl⟩
theorem keys_ok : ∀ {ks : List D} {us : List V}, ks.all isKey = true → DVs K T M ks us → ∃ kk : List Key, ks.map keyD = kk.map some ∧ us = kk.map kV
  | [], us, _, d => ⟨[], rfl, d⟩
  | k :: ks, us, h, d => by
    obtain ⟨v, r, rfl, d1, d2⟩ := d
    have h : (isKey k && ks.all isKey) = true := h
    rw [Bool.and_eq_true] at h
    obtain ⟨k1, e1⟩ := keyD_ok h.1
    obtain ⟨kk, e2, e3⟩ := keys_ok h.2 d2
    exact ⟨k1 :: kk, by rw [List.map_cons, e1, e2]; rfl, by rw [e3, keyD_dv e1 d1]; rfl⟩
theorem zip_keys : ∀ {kk : List Key} {vs : List V}, kk.length = vs.length → (kk.map kV).zip vs = (kk.zip vs).map (fun kv => (kV kv.1, kv.2)) ∧ (kk.zip vs).map (fun p => some p.1) = kk.map some ∧ (kk.zip vs).map (·.2) = vs
  | [], [], _ => ⟨rfl, rfl, rfl⟩
  | k :: kk, v :: vs, h => by
    obtain ⟨h1, h2, h3⟩ := zip_keys (kk := kk) (vs := vs) (by simpa using h)
    refine ⟨?_, ?_, ?_⟩
    · show (kV k, v) :: (kk.map kV).zip vs = _; rw [h1]; rfl
    · show some k :: (kk.zip vs).map _ = _; rw [h2]; rfl
    · show v :: (kk.zip vs).map _ = _; rw [h3]
  | [], _ :: _, h => by cases h
  | _ :: _, [], h => by cases h
theorem ownAll_len : ∀ {B L L1 : Hs} {ws : List W} {xs : List D}, ownAll B L ws = some (xs, L1) → xs.length = ws.length
  | B, L, L1, [], xs, e => by cases e; rfl
  | B, L, L1, w :: ws, xs, e => by
    unfold ownAll at e
    split at e
    · split at e
      · rename_i h
        cases e
        rw [List.length_cons, List.length_cons, ownAll_len h]
      · cases e
    · cases e
theorem pairs_len : ∀ {ps : List (SE × SE)} {B : Hs} {ρ : Sl} {L : Hs} {ww : List W × List W} {L9 : Hs}, pairsGo B ρ ps L = .ok ww L9 → ww.1.length = ww.2.length
  | [], B, ρ, L, ww, L9, e => by cases e; rfl
  | (f, g) :: ps, B, ρ, L, ww, L9, e => by
    obtain ⟨x, L1, e1, e⟩ := bindI e
    obtain ⟨y, L2, e2, e⟩ := bindI e
    obtain ⟨pp, L3, e3, e⟩ := bindI e
    cases e
    show pp.1.length + 1 = pp.2.length + 1
    rw [pairs_len e3]
theorem je_dct {ks : List (Option Expr)} {vs : List Expr} {ps : List (SE × SE)} {pos : Pos} (h : JPs X T ks vs ps) (hall : ks.all (·.isSome) = true := by rfl) (hl : ks.length = vs.length := by rfl) (h0 : ks ≠ [] := by exact fun z => by cases z) (h15 : ks.length ≤ 15 := by decide) : JE X T (.Dict ks vs pos) (eDct ps) :=
  PE.weak (pe_disp h.pps hall hl h0 h15) fun σ H Q h => by
    obtain ⟨M, B, L, ρ, p, h⟩ := h
    intro d hd
    have eH := p.eH
    subst eH
    obtain ⟨R1, e1, k1⟩ := opened p.rep hd (plain_dK [])
    unfold eDct at h
    cases eg : pairsGo B ρ ps L with
    | exc _ _ _ => rw [eg] at h; exact h.elim
    | bad => rw [eg] at h; exact h.elim
    | ok ww L9 =>
      rw [eg] at h
      refine rd_pairs (M := M.open d (.dK [])) ⟨rfl, p.eA, R1, p.rs.keeps k1⟩ eg fun M2 us vs a2 R2 x2 r1 r2 => ?_
      have hd2 : M2.H d = some (.dK []) := (x2.ks d (by simp [Mem.open])).trans upd_same
      refine ⟨hd2, ?_⟩
      have h : post X.K T M B ((ownsR B L9 ww.2).bind _) _ := h
      unfold ownsR at h
      cases eo : ownAll B L9 ww.2 with
      | none => rw [eo] at h; exact h.elim
      | some y =>
        obtain ⟨xs, L10⟩ := y
        rw [eo] at h
        obtain ⟨M3, a3, h3, R3, x3, rx⟩ := ownAll_ok R2 a2 eo r2
        have h6 : post X.K T M B ((vwsR B L10 ww.1).bind _) _ := h
        cases ek : vwsR B L10 ww.1 with
        | exc _ _ _ => rw [ek] at h6; exact h6.elim
        | bad => rw [ek] at h6; exact h6.elim
        | ok kd L11 =>
          rw [ek] at h6
          obtain ⟨dk, rfl⟩ := views_ok R3 a3 ek (r1.ext R2 x3)
          have h8 : post X.K T M B ((guardR (kd.all isKey && decide (kd.length ≤ 15)) _).bind _) _ := h6
          obtain ⟨hg, h⟩ := post.guard h8
          rw [Bool.and_eq_true] at hg
          obtain ⟨kk, e2, e3⟩ := keys_ok hg.1 dk
          have lk : kk.length = vs.length := by
            have n1 := r1.length
            have n2 := r2.length
            have n3 := pairs_len eg
            rw [e3, List.length_map] at n1
            omega
          obtain ⟨z1, z2, z3⟩ := zip_keys lk
          refine ⟨kk.zip vs, by rw [e3]; exact z1, ?_, ?_⟩
          · have := of_decide_eq_true hg.2
            have n : kd.length = kk.length := by simpa using congrArg List.length e2
            rw [List.length_zip]
            omega
          · have x23 := x2.trans x3
            obtain ⟨R4, k4⟩ := written (d := d) R3 (by rw [x23.sq]; simp [Mem.open]) (plain_dK (mergeK [] (kk.zip vs)))
            have e4 : Ext0 M (M3.put d (.dK (mergeK [] (kk.zip vs)))) := put_ext0 (e1.trans x23.toExt0) (.inr hd)
            obtain ⟨R5, E5, k5, s5⟩ := closed p.rep hd R4 e4 (by show M3.S = _; rw [x23.sq]; rfl) fun a ha => by
              obtain ⟨⟨u, q1, _⟩, _⟩ := p.rep.sc a ha
              have ne : a ≠ d := ne_of_none q1 hd
              show upd M3.H d _ a = _
              rw [upd_ne ne, x23.ks a (by simp [Mem.open]; exact .inr ha)]
              exact upd_ne ne
            obtain ⟨m1, m2⟩ := mergeKV_ok (K := X.K) (T := T) (M := (M3.put d (.dK (mergeK [] (kk.zip vs)))).close M.S) (ks' := kd) (ws' := xs.map W.d) (kvs' := kk.zip vs) (ks := []) (ws := []) (kvs := []) (by rw [e2, z2]) (by rw [z3]; exact RWs.ofD (RVs.keeps k5 _ _ (RVs.keeps k4 _ _ rx))) rfl rfl
            have mm := mergeKV_map kd xs [] []
            rw [List.map_nil] at mm
            rw [mm] at m1 m2
            have fin := h ((M3.put d (.dK (mergeK [] (kk.zip vs)))).close M.S) a3 R5 E5 (.ref d) ⟨d, mergeK [] (kk.zip vs), rfl, s5, upd_same, m1, m2.toD'⟩
            rw [← h3]
            exact fin
theorem je_dctM {ks : List (Option Expr)} {vs : List Expr} {ps : List (SE × SE)} {pos : Pos} (h : JPs X T ks vs ps) (hall : ks.all (·.isSome) = true := by rfl) (hl : ks.length = vs.length := by rfl) (h0 : ks ≠ [] := by exact fun z => by cases z) (h15 : ks.length ≤ 15 := by decide) : JE X T (.Dict ks vs pos) (eDctM ps) :=
  PE.weak (pe_disp h.pps hall hl h0 h15) fun σ H Q h => by
    obtain ⟨M, B, L, ρ, p, h⟩ := h
    intro d hd
    have eH := p.eH
    subst eH
    obtain ⟨R1, e1, k1⟩ := opened p.rep hd (plain_dK [])
    unfold eDctM at h
    cases eg : pairsGo B ρ ps L with
    | exc _ _ _ => rw [eg] at h; exact h.elim
    | bad => rw [eg] at h; exact h.elim
    | ok ww L9 =>
      rw [eg] at h
      refine rd_pairs (M := M.open d (.dK [])) ⟨rfl, p.eA, R1, p.rs.keeps k1⟩ eg fun M2 us vs a2 R2 x2 r1 r2 => ?_
      have hd2 : M2.H d = some (.dK []) := (x2.ks d (by simp [Mem.open])).trans upd_same
      refine ⟨hd2, ?_⟩
      have h6 : post X.K T M B ((vwsR B L9 ww.1).bind _) _ := h
      cases ek : vwsR B L9 ww.1 with
      | exc _ _ _ => rw [ek] at h6; exact h6.elim
      | bad => rw [ek] at h6; exact h6.elim
      | ok kd L11 =>
        rw [ek] at h6
        obtain ⟨dk, rfl⟩ := views_ok R2 a2 ek r1
        have h8 : post X.K T M B ((guardR (kd.all isKey && decide (kd.length ≤ 15)) _).bind _) _ := h6
        obtain ⟨hg, h9⟩ := post.guard h8
        rw [Bool.and_eq_true] at hg
        obtain ⟨kk, e2, e3⟩ := keys_ok hg.1 dk
        have lk : kk.length = vs.length := by
          have n1 := r1.length
          have n2 := r2.length
          have n3 := pairs_len eg
          rw [e3, List.length_map] at n1
          omega
        obtain ⟨z1, z2, z3⟩ := zip_keys lk
        refine ⟨kk.zip vs, by rw [e3]; exact z1, ?_, ?_⟩
        · have := of_decide_eq_true hg.2
          have n : kd.length = kk.length := by simpa using congrArg List.length e2
          rw [List.length_zip]
          omega
        · have dS : d ∈ M2.S := by rw [x2.sq]; simp [Mem.open]
          have dn : ∀ a, a ∈ M.S → a ≠ d := fun a ha => by
            obtain ⟨⟨u, q1, _⟩, _⟩ := p.rep.sc a ha
            exact ne_of_none q1 hd
          have hS : ∀ a, a ∈ M.S → a ∈ M2.S ∧ a ≠ d := fun a ha => ⟨by rw [x2.sq]; simp [Mem.open]; exact .inr ha, dn a ha⟩
          have kp := more_keeps (K := X.K) (T := T) (h := HO.dK (mergeK [] (kk.zip vs))) (o := Ob.dct (mergeKV [] [] kd ww.2).1 (mergeKV [] [] kd ww.2).2) (S := M.S) R2 (.inr dS) (fun a ha => (hS a ha).1)
          obtain ⟨m1, m2⟩ := mergeKV_ok (K := X.K) (T := T) (M := M2.more d (HO.dK (mergeK [] (kk.zip vs))) (Ob.dct (mergeKV [] [] kd ww.2).1 (mergeKV [] [] kd ww.2).2) M.S) (ks' := kd) (ws' := ww.2) (kvs' := kk.zip vs) (ks := []) (ws := []) (kvs := []) (by rw [e2, z2]) (by rw [z3]; exact r2.keeps kp) rfl rfl
          have R5 := more_rep (K := X.K) (T := T) (h := HO.dK (mergeK [] (kk.zip vs))) (o := Ob.dct (mergeKV [] [] kd ww.2).1 (mergeKV [] [] kd ww.2).2) (S := M.S) R2 (.inr dS) hS ⟨_, upd_same, m1, m2⟩
          have E5 := more_ext (K := X.K) (T := T) (h := HO.dK (mergeK [] (kk.zip vs))) (o := Ob.dct (mergeKV [] [] kd ww.2).1 (mergeKV [] [] kd ww.2).2) (e1.trans x2.toExt0) hd (fun a ha => by
            rw [x2.ks a (by simp [Mem.open]; exact .inr ha)]
            exact upd_ne (dn a ha)) p.rep
          have ln : M2.A.length = B.length + L11.length := by rw [a2, List.length_append]
          refine h9 (M2.more d (HO.dK (mergeK [] (kk.zip vs))) (Ob.dct (mergeKV [] [] kd ww.2).1 (mergeKV [] [] kd ww.2).2) M.S) ?_ R5 E5 (.ref d) ⟨?_, ?_⟩
          · show M2.A ++ [_] = _
            rw [a2, List.append_assoc]
          · show _ < (M2.A ++ [_]).length
            rw [List.length_append, ln]
            exact Nat.lt_succ_self _
          · show V.ref d = V.ref (if B.length + L11.length = M2.A.length then d else _)
            rw [if_pos ln.symm]
theorem js_dput {o i value : Expr} {f g e : SE} {pos pos' : Pos} (hu : X.A.units + 1 < cLine) (ho : JE X T o f) (hi : JE X T i g) (hv : JE X T value e) (hs : swapsWith value (some (.Subscript o i pos')) pos.line X.env = pure false := by rfl) : JS X T (.Assign [.Subscript o i pos'] value pos) (sDPut f g e) :=
  PS.weak (ps_dput hu ho hi hv hs) fun Dn σ H h => by
    obtain ⟨M, B, L, ρ, p, h⟩ := h
    refine ⟨M, B, L, ρ, p, (post.st h).mono fun z L1 M1 eA1 R1 x1 q1 v rv => ?_⟩
    refine ⟨M1, B, L1, ρ, p.next eA1 R1 x1, (post.st q1).mono fun w L2 M2 eA2 R2 x2 q2 u ru => ?_⟩
    refine ⟨M2, B, L2, ρ, (p.next eA1 R1 x1).next eA2 R2 x2, (post.st q2).mono fun y L3 M3 eA3 R3 x3 q3 t rt => ?_⟩
    obtain ⟨k, ek, q4⟩ := post.opt1 (post.st q3)
    clear q3
    have dk := vw_dv R3 eA3 ek rt
    have q5 := q4.here eA3 R3
    cases ep : putAt B L3 w k z with
    | none => rw [ep] at q5; exact q5.elim
    | some L4 =>
      rw [ep] at q5
      unfold putAt at ep
      split at ep
      · rename_i n
        split at ep
        · cases ep
        · rename_i hb
          split at ep
          · rename_i ks ws en
            split at ep
            · rename_i hk
              cases ep
              obtain ⟨kk, e1⟩ := keyD_ok hk.1
              have e2 := keyD_dv e1 dk
              have en3 : M3.A[n]? = some (.dct ks ws) := by rw [eA3, List.getElem?_append_right (by omega)]; exact en
              obtain ⟨kvs, h1, h2, h3⟩ := R3.at_ n _ en3
              have lk : kvs.length = ks.length := by simpa using (congrArg List.length h2).symm
              have rv3 := (rv.ext R1 x2).ext R2 x3
              obtain ⟨hn, eu⟩ := ru.ext R2 x3
              have gg := place_put (K := X.K) (T := T) (o' := .dct (putKs k ks) (putVs k z ks ws)) (h' := .dK (putK kvs kk v)) R3 en3 rfl rfl (plain_dK _) fun M' em eS eA' eH E' => by
                refine ⟨putK kvs kk v, by rw [eH]; exact upd_same, putKs_ok e1 h2, putVs_ok e1 (rv3.ext R3 E') h2 (h3.ext R3 E')⟩
              refine ⟨M3.m n, upd M3.H (M3.m n) (.dK (putK kvs kk v)), eu, ?_, ?_⟩
              · rw [e2]
                exact DPut.k h1 (by rw [lk]; exact hk.2)
              · exact q5 _ σ (by show M3.A.set n _ = _; rw [eA3, List.set_append_right _ _ (by omega)]) gg.1 gg.2 (((((p.next eA1 R1 x1).next eA2 R2 x2).next eA3 R3 x3).rs).ext R3 gg.2)
            · cases ep
          · cases ep
      · cases ep
end
end Ev

set_option Elab.async false
set_option linter.all false
set_option maxRecDepth 100000
set_option maxHeartbeats 1000000
set_option autoImplicit false
/-! EvM: the module's constants, a class's constants and static methods, items, dict(pairs), repr. -/
namespace Ev
open PySem PySem.Spec PyProof.Rows L2
section
variable {X : Cx} {T : Tb} {K : PySem.W.Frag} {M : Mem}
theorem je_glob {x : Str} {v : V} {u : Value} {d : D} {pos : Pos} (hm : X.mg x = some u) (r : RelV v u) (rv : ∀ M, Rep X.K T M → RV X.K T M d v) (hg : Gl X x := by rfl) (hd : (x == ("__debug__" : Str)) = false := by decide) : JE X T (.Name x pos) (eC d) := je_c (pe_glob hg hm r hd) rv
theorem je_gint {x : Str} {i : Int} {pos : Pos} (hm : ∃ t, X.mg x = some (.int i t)) (hg : Gl X x := by rfl) (hd : (x == ("__debug__" : Str)) = false := by decide) : JE X T (.Name x pos) (eC (.int i)) :=
  let ⟨t, h⟩ := hm; je_glob (v := .int i) h ⟨t, rfl⟩ (fun _ _ => rfl) hg hd
/-- C.f, a constant -/
theorem je_cval {x f : Str} {C : Addr} {mc u : Value} {v : V} {d : D} {p pos : Pos} (hm : X.mg x = some (.ref C)) (c : ClX.CRead X.K C mc) (cv : ClX.CVal X.K C mc f v u) (rv : ∀ M, Rep X.K T M → RV X.K T M d v) (hg : Gl X x := by rfl) (hd : (x == ("__debug__" : Str)) = false := by decide)
    (hb : attributeBase (.Name x p) f X.env (eval (.Name x p) X.env) = eval (.Name x p) X.env := by rfl) : JE X T (.Attribute (.Name x p) f pos) (eC d) :=
  PE.weak (ClX.pe_cval (pe_glob (v := .ref C) hg hm rfl hd) hb) fun σ H Q h => by
    obtain ⟨M, B, L, ρ, p, h⟩ := h
    have := h M p.eA p.rep (Ext.refl M) v (rv M p.rep)
    rw [p.eH] at this
    exact ⟨C, mc, v, u, rfl, c, cv, this⟩
/-- C.m is a static method: its record at p, its def at g -/
structure SMet (K : PySem.W.Frag) (C : Addr) (mc : Value) (m : Str) (p g : Addr) : Prop where
  at_ : PySem.W.findCls K (.ref C) mc m = some (.get (.builtin "staticmethod.__get__") (.ref p) .none (.ref C))
  rc : ∃ rest, PySem.W.recIn K p "staticmethod" = some (.ref g :: rest)
theorem smet_get {C p g : Addr} {mc : Value} {m : Str} {pins : List (Addr × Obj)} {σ : L2.St} {H : Hp} {s : Shared} {A : Around} {E : Value → Shared → Prop} {pl : Sem Bool} {Q : Value × List Value → Shared → Prop} (I : Inv X pins σ H s) (r : ClX.CRead X.K C mc) (k : SMet X.K C mc m p g)
    (h : ∀ s', Inv X pins σ H s' → Q (.ref g, []) s') : wpAny (model X.prog X.w) A (getMethod (.ref C) m pl) Q E s := by
  obtain ⟨rest, hp⟩ := k.rc
  refine PySem.W.method_cls I.kIn r.ga (PySem.W.cls_bind I.kIn r.rd k.at_ ?_)
  exact wpAny_call (PySem.W.sm_get (s := { s with toks := s.toks + 1 }) I.kIn hp (PySem.W.handed_on rfl (h _ (I.tok _))))
theorem je_stat0 {F : Fn} {k : Nat} {C g pr : Addr} {mc : Value} {fd : FuncData} {ps : List Str} {x m : Str} {p apos pos : Pos} {pl : Sem Bool} (G : FnG X.prog X.w X.K X.mg X.base CX0 k g fd ps (spOf X.K T 0 F)) (hgu : X.A.guards = some []) (hr : Room k X.A) (hm : X.mg x = some (.ref C)) (c : ClX.CRead X.K C mc) (sm : SMet X.K C mc m pr g)
    (hk : PySem.W.keepIn X.K (.ref g) = true) (hb : Binds X.K fd ps []) (hg : Gl X x := by rfl) (hd : (x == ("__debug__" : Str)) = false := by decide)
    (ht : eval (.Call (.Attribute (.Name x p) m apos) [] [] pos) X.env = (do
      let ov ← eval (.Name x p) X.env
      standAt apos.atName
      let (f, first) ← holding [ov] (getMethod ov m pl)
      callWith pos f first (backTo pos (starEach [] X.env)) (backToKw pos (keywordEach [] X.env))) := by rfl) : JE X T (.Call (.Attribute (.Name x p) m apos) [] [] pos) (eCall 0 F aNil) := by
  refine ⟨fun pins s σ H Q I h => ?_⟩
  obtain ⟨M, B, L, ρ, q, h⟩ := h
  have q0 : spOf X.K T 0 F [] M.H Q E0 := ⟨rfl, M, B, L, [], rfl, q.eA, q.rep, rfl, h⟩
  rw [q.eH] at q0
  refine PySem.W.methodCall_KW (pl := pl) (thn ((pe_glob (X := X) (v := .ref C) hg hm rfl hd).run pins s σ H (fun v H1 => v = .ref C ∧ H1 = H) I ⟨rfl, rfl⟩) fun u s1 ⟨z, H1, I1, rx, ex, eh⟩ => ?_) ht
  subst ex eh
  obtain rfl : u = Value.ref C := rx
  refine smet_get I1 c sm fun s2 I2 => ?_
  refine PySem.W.callWith_K0 I2.kIn hk ?_
  have l : (([] : List Value) ++ ([] : List Value)).length = ps.length := by rw [← G.ln _ _ _ _ q0]; rfl
  have b := hb s2 [] I2.kIn l
  exact G.call hgu hr pass0 I2 b .nil q0

/-! ### the heap grows by objects that nobody names -/
theorem grow (R : Rep K T M) {H' : Hp} (k : ∀ b o, M.H b = some o → H' b = some o) : Rep K T { M with H := H' } ∧ Ext M { M with H := H' } := by
  have e : Ext M { M with H := H' } := ⟨⟨Nat.le_refl _, fun _ _ => rfl, fun _ _ h => h, fun n h ⟨o, e, _⟩ => absurd (List.getElem?_eq_some_iff.mp e).1 (Nat.not_lt.mpr h), fun a u h _ => k a u h, fun a h => by
      cases q : M.H a with
      | none => exact absurd q h
      | some o =>
        show H' a ≠ none
        rw [k a o q]
        exact (by intro z; cases z), fun _ h => .inl h⟩, rfl, fun a ha => by
      obtain ⟨⟨u, h1, _⟩, _⟩ := R.sc a ha
      exact (k a u h1).trans h1.symm⟩
  refine ⟨⟨R.inj, fun n ob q => ?_, fun a ha => ⟨?_, (R.sc a ha).2⟩⟩, e⟩
  · have r := R.at_ n ob q
    cases ob with
    | frz x => exact RV.ext R e x _ r
    | lst ws => obtain ⟨vs, h1, h2⟩ := r; exact ⟨vs, k _ _ h1, h2.ext R e⟩
    | dct ks ws => obtain ⟨kvs, h1, h2, h3⟩ := r; exact ⟨kvs, k _ _ h1, h2, h3.ext R e⟩
    | ins c fs => obtain ⟨dx, gs, h1, h2, h3⟩ := r; exact ⟨dx, gs, k _ _ h1, h2, h3.ext R e⟩
    | dcn ks ws => obtain ⟨kvs, h1, h2, h3, h4, h5⟩ := r; exact ⟨kvs, k _ _ h1, h2, h3, RVs.ext R e _ _ h4, h5.ext R e⟩
  · obtain ⟨⟨u, h1, h2⟩, _⟩ := R.sc a ha
    exact ⟨u, k a u h1, h2⟩
theorem grow_sep (R : Rep K T M) {H' : Hp} {p : Addr} (hp : M.H p = none) : Sep { M with H := H' } p := by
  refine ⟨fun n l q => ?_, fun hs => ?_⟩
  · obtain ⟨u, e, _⟩ := R.live_kind l
    have q' : M.m n = p := q
    rw [q', hp] at e
    cases e
  · obtain ⟨⟨u, e, _⟩, _⟩ := R.sc p hs
    rw [hp] at e
    cases e

/-! ### list(d.items()) -/
def pairsD (ks vs : List D) : List D := List.zipWith (fun k v => .tup [k, v]) ks vs
def opItems : D → Option D
  | .dct ks vs => some (.lst (pairsD ks vs))
  | _ => none
theorem keyD_rv' {k : D} {kk : Key} (h : keyD k = some kk) : RV K T M k (kV kk) := by
  cases k with
  | int i => cases h; exact rfl
  | str s => cases h; exact rfl
  | _ => cases h
theorem keyD_nr {k v : D} {kk : Key} (h : keyD k = some kk) : rowy [k, v] = false := by
  cases k with
  | int i => rfl
  | str s => rfl
  | _ => cases h
theorem pairs_rv {M' : Mem} : ∀ {ks xs : List D} {kvs : List (Key × V)} {ts : List Addr}, ks.map keyD = kvs.map (fun p => some p.1) → RVs K T M' xs (kvs.map (·.2)) → Paired (fun (t : Addr) (q : Key × V) => M'.H t = some (.tup [kV q.1, q.2])) ts kvs → RVs K T M' (pairsD ks xs) (ts.map V.ref)
  | [], xs, kvs, ts, e, r, h => by
    have : kvs = [] := by simpa using e.symm
    subst this
    cases h
    exact rfl
  | k :: ks, xs, [], ts, e, r, h => by cases e
  | k :: ks, xs, (kk, v) :: kvs, ts, e, r, h => by
    have e1 : keyD k = some kk := (List.cons.inj e).1
    have e2 : ks.map keyD = kvs.map (fun p => some p.1) := (List.cons.inj e).2
    cases xs with
    | nil => cases (show v :: kvs.map (·.2) = [] from r)
    | cons x xs =>
      obtain ⟨v1, r1, q, h1, h2⟩ := r
      have q : v :: kvs.map (·.2) = v1 :: r1 := q
      cases q
      cases h with
      | cons ht hr => exact ⟨_, _, rfl, ⟨_, _, rfl, ⟨.inl (.inl ht), fun z => by rw [keyD_nr e1] at z; cases z⟩, ⟨_, _, rfl, keyD_rv' e1, _, _, rfl, h1, rfl⟩⟩, pairs_rv e2 h2 hr⟩
theorem je_items {e : Expr} {f : SE} {p apos cpos pos : Pos} (hc : X.calm = true) (he : JE X T e f) (hm : X.mg "list" = none) (hg : Gl X "list" := by rfl) (hv : bootBuiltins "list" = some (.type "list") := by decide +kernel)
    (hbase : attributeBase e "items" X.env (eval e X.env) = eval e X.env := by rfl) (hline : (apos.endLine == cpos.line) = true := by rfl)
    (hs : starEach [.Call (.Attribute e "items" apos) [] [] cpos] X.env = (false, eval (.Call (.Attribute e "items" apos) [] [] cpos) X.env) :: starEach [] X.env := by rfl) :
    JE X T (.Call (.Name "list" p) [.Call (.Attribute e "items" apos) [] [] cpos] [] pos) (e1 opItems f) :=
  PE.weak (LiI.pe_listItems hc he hg hm hv hbase hline hs) fun σ H Q h => by
    obtain ⟨M, B, L, ρ, p, h⟩ := h
    refine ⟨M, B, L, ρ, p, (post.bind h).mono fun w L1 M1 eA R x q v rv => ?_⟩
    obtain ⟨pd, ev, dv, q⟩ := q.view R eA rv
    obtain ⟨z, ez, q⟩ := q.opt
    cases pd with
    | dct ks xs =>
      cases ez
      obtain ⟨a, kvs, rfl, e2, e3, e4⟩ := dv.dct
      refine ⟨a, kvs, rfl, e2, fun H' pp ts k1 k2 k3 k4 k5 k6 => ?_⟩
      obtain ⟨R2, x2⟩ := grow R k1
      exact q { M1 with H := H' } eA R2 x2 (.ref pp) ⟨pp, _, rfl, grow_sep R k2, k5, pairs_rv e3 (RVs.ext R x2 _ _ e4) k6⟩
    | _ => cases ez
/-! ### dict(pairs) -/
def unpair : List D → Option (List D × List D)
  | [] => some ([], [])
  | .tup [k, v] :: r => match unpair r with
    | some (ks, vs) => some (k :: ks, v :: vs)
    | none => none
  | _ => none
def bDict : List D → Option D
  | [.lst xs] => match unpair xs with
    | some (ks, vs) => if ks.all isKey = true then some (.dct (mergeKV [] [] ks vs).1 (mergeKV [] [] ks vs).2) else none
    | none => none
  | _ => none
theorem unpair_ok : ∀ {xs ks ds : List D} {vs : List V}, unpair xs = some (ks, ds) → ks.all isKey = true → RVs K T M xs vs →
    ∃ (ps : List Addr) (kvs : List (Key × V)), vs = ps.map V.ref ∧ Paired (fun p kv => SqT K M.H p [kV kv.1, kv.2]) ps kvs ∧ ks.map keyD = kvs.map (fun p => some p.1) ∧ RVs K T M ds (kvs.map (·.2))
  | [], ks, ds, vs, e, _, r => by
    cases e
    exact ⟨[], [], r, .nil, rfl, rfl⟩
  | x :: xs, ks, ds, vs, e, hk, r => by
    unfold unpair at e
    split at e
    · cases ‹_ :: _ = []›
    · rename_i k v rr eq
      cases eq
      split at e
      · rename_i ks' vs' eu
        cases e
        have hk : (isKey k && ks'.all isKey) = true := hk
        rw [Bool.and_eq_true] at hk
        obtain ⟨v1, r1, rfl, h1, h2⟩ := r
        obtain ⟨ps, kvs, rfl, e2, e3, e4⟩ := unpair_ok eu hk.2 h2
        obtain ⟨a, us, rfl, s1, u1, t1, rfl, a1, u2, t2, rfl, a2, a3⟩ := h1
        have a3 : t2 = [] := a3
        subst a3
        obtain ⟨kk, ek⟩ := keyD_ok hk.1
        have := keyD_dv ek a1.dv
        subst this
        refine ⟨a :: ps, (kk, u2) :: kvs, rfl, .cons s1.1 e2, ?_, ⟨_, _, rfl, a2, e4⟩⟩
        rw [List.map_cons, List.map_cons, ek, e3]
      · cases e
    · cases e
theorem cd_dict (hc : X.calm = true) : CallD X T (.type "dict") bDict := call_D1 rfl (fun _ _ _ => by simp [bDict]) fun pins s σ M p z x u Q I rx R d e k => by
  cases p with
  | lst xs =>
    have e : (match unpair xs with
      | some (ks, vs) => if ks.all isKey = true then some (D.dct (mergeKV [] [] ks vs).1 (mergeKV [] [] ks vs).2) else none
      | none => none) = some z := e
    cases eu : unpair xs with
    | none => rw [eu] at e; cases e
    | some y =>
      obtain ⟨ks, ds⟩ := y
      rw [eu] at e
      dsimp only at e
      split at e
      · rename_i hk
        cases e
        obtain ⟨a, vs, rfl, s1, r1⟩ := d.lst
        obtain ⟨ps, kvs, rfl, e2, e3, e4⟩ := unpair_ok eu hk r1
        refine call_dictP hc pins s σ _ _ [u] Q I (.cons rx .nil) ⟨a, ps, kvs, rfl, SqL.of s1, e2, fun p hp => ?_⟩
        obtain ⟨R2, x2⟩ := garb (o := .dK (mergeK [] kvs)) R hp
        obtain ⟨m1, m2⟩ := mergeKV_ok (K := X.K) (T := T) (M := { M with H := upd M.H p (.dK (mergeK [] kvs)) }) (ks' := ks) (ws' := ds.map W.d) (kvs' := kvs) (ks := []) (ws := []) (kvs := []) e3 (RWs.ofD (RVs.ext R x2 _ _ e4)) rfl rfl
        have mm := mergeKV_map ks ds [] []
        rw [List.map_nil] at mm
        rw [mm] at m1 m2
        exact k { M with H := upd M.H p (.dK (mergeK [] kvs)) } (.ref p) rfl R2 x2 ⟨p, mergeK [] kvs, rfl, sep_new R hp, upd_same, m1, m2.toD'⟩
      · cases e
  | _ => cases e
/-! ### repr -/
def bRepr : List D → Option D
  | [.tup xs] => if okD (.tup xs) = true ∧ (toPy (.tup xs)).showable = true ∧ (toPy (.tup xs)).shown.length ≤ sizeL then some (.str (toPy (.tup xs)).shown.cps.toList) else none
  | [.bl b] => some (.str (if b = true then trueS else falseS))
  | [.lst xs] => if okD (.lst xs) = true ∧ (toPy (.lst xs)).showable = true ∧ (toPy (.lst xs)).shown.length ≤ sizeL then some (.str (toPy (.lst xs)).shown.cps.toList) else none
  | _ => none
theorem repr_ok {pins : List (Addr × Obj)} {s : Shared} {σ : L2.St} {p : D} {a : Addr} {u : Value} {Q : VK} (hgu : X.A.guards = some []) (hu : X.A.units + 66 < cLine) (I : Inv X pins σ M.H s) (rx : RelV (.ref a) u) (R : Rep X.K T M) (d : DV X.K T M p (.ref a)) (ok : okD p = true) (sh : (toPy p).showable = true)
    (sz : (toPy p).shown.length ≤ sizeL) (k : ∀ M' v, M'.A = M.A → Rep X.K T M' → Ext M M' → RV X.K T M' (.str (toPy p).shown.cps.toList) v → Q v M'.H) : wpAny (model X.prog X.w) X.A (call (.builtin "repr") [u]) (EP X pins σ Q) X.xe s := by
  obtain rfl : u = Value.ref a := rx
  obtain ⟨as, r1⟩ := Dp.reads I (toPy p) (.ref a) (.ref a) (dv_dp ok d) rfl
  have dp : (toPy p).depth ≤ 64 := by
    rw [dep_of]
    unfold okD at ok
    rw [Bool.and_eq_true] at ok
    exact of_decide_eq_true ok.2
  have nd : (toPy p).hasDict = false := PyData.hasDict_of_canLay _ (lay_of p (okD_dOk ok))
  refine repr_of_reads' r1 sh (PyData.noDict_hsm nd) hgu (by omega) (fun _ _ e => e) (fun h' t tk kp => ?_) sz
  exact ⟨.str (toPy p).shown, M.H, I.kept (t' := tk) kp, ⟨t, rfl⟩, k M _ rfl R (Ext.refl M) (by show V.str _ = V.str _; simp)⟩
theorem cd_repr (hgu : X.A.guards = some []) (hu : X.A.units + 66 < cLine) : CallD X T (.builtin "repr") bRepr := call_D1 rfl (fun _ _ _ => by simp [bRepr]) fun pins s σ M p z x u Q I rx R d e k => by
  cases p with
  | tup xs =>
    have e : (if _ then _ else _) = some z := e
    split at e
    · rename_i h
      cases e
      obtain ⟨a, vs, rfl, _⟩ := d.tup
      exact repr_ok hgu hu I rx R d h.1 h.2.1 h.2.2 k
    · cases e
  | lst xs =>
    have e : (if _ then _ else _) = some z := e
    split at e
    · rename_i h
      cases e
      obtain ⟨a, vs, rfl, _⟩ := d.lst
      exact repr_ok hgu hu I rx R d h.1 h.2.1 h.2.2 k
    · cases e
  | bl b =>
    cases e
    exact call_repr_bool pins s σ _ _ [u] Q I (.cons rx .nil) ⟨b, by rw [d.bl], k M _ rfl R (Ext.refl M) rfl⟩
  | _ => cases e
end
end Ev

set_option Elab.async false
set_option linter.all false
set_option maxRecDepth 100000
set_option maxHeartbeats 1000000
set_option autoImplicit false
/-! EvP: lists that change, dicts with nested keys. -/
namespace Ev
open PySem PySem.Spec PyProof.Rows L2
section
variable {X : Cx} {T : Tb} {K : PySem.W.Frag} {M : Mem}
theorem new_place {B L : Hs} (R : Rep K T M) (eA : M.A = B ++ L) {a : Addr} (ha : M.H a = none) {o : Ob} {h : HO} {Q : VK} (ro : Keeps (K := K) M (M.more a h o M.S) → RO K T (M.more a h o M.S) a o)
    (q : post K T M B (.ok (.ref (B.length + L.length)) (L ++ [o])) fun w _ M' => ∀ v, RW K T M' w v → Q v M'.H) : Q (.ref a) (upd M.H a h) := by
  have hS : ∀ b, b ∈ M.S → b ∈ M.S ∧ b ≠ a := fun b hb => ⟨hb, by
    obtain ⟨⟨u, q1, _⟩, _⟩ := R.sc b hb
    exact ne_of_none q1 ha⟩
  have kp := more_keeps (K := K) (h := h) (o := o) (S := M.S) R (.inl ha) (fun b hb => hb)
  have R' := more_rep (K := K) (h := h) (o := o) (S := M.S) R (.inl ha) hS (ro kp)
  have E' := more_ext (K := K) (T := T) (h := h) (o := o) (Ext0.refl M) ha (fun _ _ => rfl) R
  have ln : M.A.length = B.length + L.length := by rw [eA, List.length_append]
  refine q (M.more a h o M.S) ?_ R' E' (.ref a) ⟨?_, ?_⟩
  · show M.A ++ [_] = _
    rw [eA, List.append_assoc]
  · show _ < (M.A ++ [_]).length
    rw [List.length_append, ln]
    exact Nat.lt_succ_self _
  · show V.ref a = V.ref (if B.length + L.length = M.A.length then a else _)
    rw [if_pos ln.symm]
theorem je_lstM {es : List Expr} {g : SA} {pos : Pos} (h : JA X T es g) : JE X T (.List es pos) (eLstM g) :=
  PE.weak (pe_lst h) fun σ H Q h => by
    obtain ⟨M, B, L, ρ, p, h⟩ := h
    refine ⟨M, B, L, ρ, p, (post.bind h).mono fun ws L1 M1 eA R x q vs rvs => ?_⟩
    obtain ⟨hl, q⟩ := q.guard
    have hl := of_decide_eq_true hl
    refine ⟨by rw [← rvs.length, ← sizeL_eq]; exact hl, fun a ha => ?_⟩
    exact new_place R eA ha (o := .lst ws) (h := .lst vs) (fun k => ⟨vs, upd_same, rvs.keeps k⟩) q
theorem seqS_dv {p : D} {v : V} {ys : List D} (h : seqS p = some ys) (d : DV K T M p v) : ∃ a vs, v = .ref a ∧ (SqL K M.H a vs ∨ SqT K M.H a vs) ∧ RVs K T M ys vs := by
  cases p with
  | tup xs => cases h; obtain ⟨a, vs, e, s1, r1⟩ := d.tup; exact ⟨a, vs, e, .inr s1, r1⟩
  | lst xs => cases h; obtain ⟨a, vs, e, s1, r1⟩ := d.lst; exact ⟨a, vs, e, .inl (SqL.of s1), r1⟩
  | scr xs => cases h; obtain ⟨a, vs, e, s1, r1⟩ := d.scr; exact ⟨a, vs, e, .inl s1, r1⟩
  | _ => cases h
theorem je_listM {e : Expr} {f : SE} {p pos : Pos} (hm : X.mg "list" = none) (ha : JE X T e f) (hg : Gl X "list" := by rfl) (hv : bootBuiltins "list" = some (.type "list") := by decide +kernel)
    (hs : starEach [e] X.env = [(false, eval e X.env)] := by rfl) (hpl : (backTo pos (starEach ([] : List Expr) X.env)).any (·.1) = false := by rfl) : JE X T (.Call (.Name "list" p) [e] [] pos) (eListM f) := by
  have hA : JA X T [e] (aCons f aNil) := ja_cons ha ja_nil (by rw [hs]; rfl)
  refine PE.weak (pe_callTy call_list_of hg hm hv hA (by decide) (by decide) (by rw [hs]; rfl) hpl) fun σ H Q h => ?_
  obtain ⟨M, B, L, ρ, p, h⟩ := h
  refine ⟨M, B, L, ρ, p, ?_⟩
  show post X.K T M B ((f B ρ L).bind fun x L1 => (aNil B ρ L1).bind fun xs L2 => Res.ok (x :: xs) L2) _
  unfold eListM at h
  have h := post.bind h
  cases e1 : f B ρ L with
  | exc _ _ _ => rw [e1] at h; exact h.elim
  | bad => rw [e1] at h; exact h.elim
  | ok w L1 =>
    rw [e1] at h
    intro M1 eA R x vs rvs
    obtain ⟨v, r, rfl, rv, rfl⟩ := rvs
    have q := h M1 eA R x
    obtain ⟨pd, ev, dv, q⟩ := q.view R eA rv
    obtain ⟨ys, es, q⟩ := q.opt
    obtain ⟨a, us, rfl, sq, ru⟩ := seqS_dv es dv
    exact ⟨a, us, rfl, sq, fun b hb => new_place R eA hb (o := .lst (ys.map .d)) (h := .lst us) (fun k => ⟨us, upd_same, RWs.ofD (RVs.keeps k _ _ ru)⟩) q⟩

/-! ### methods of lists -/
theorem lstAt_at {B L : Hs} {w : W} {v : V} {n : Nat} {ws : List W} (R : Rep K T M) (eA : M.A = B ++ L) (r : RW K T M w v) (h : lstAt B L w = some (n, ws)) :
    v = .ref (M.m (n + B.length)) ∧ M.A[n + B.length]? = some (.lst ws) ∧ ∃ vs, M.H (M.m (n + B.length)) = some (.lst vs) ∧ RWs K T M ws vs := by
  unfold lstAt at h
  split at h
  · rename_i k
    split at h
    · cases h
    · rename_i hb
      split at h
      · rename_i us e
        cases h
        have ek : k - B.length + B.length = k := by omega
        rw [ek]
        have e' : M.A[k]? = some (.lst ws) := by rw [eA, List.getElem?_append_right (by omega)]; exact e
        exact ⟨r.2, e', R.at_ k _ e'⟩
      · cases h
  · cases h
theorem lstAt_ty {B L : Hs} {w : W} {v : V} (R : Rep K T M) (eA : M.A = B ++ L) (r : RW K T M w v) (h : (lstAt B L w).isSome = true) : tyV K "list" v M.H := by
  cases e : lstAt B L w with
  | none => rw [e] at h; cases h
  | some x =>
    obtain ⟨n, ws⟩ := x
    obtain ⟨rfl, _, vs, h1, _⟩ := lstAt_at R eA r e
    exact .inl ⟨rfl, vs, SqL.of h1⟩
/-- a list's place is changed -/
theorem lst_put {B L : Hs} {n : Nat} {ws ws' : List W} {vs' : List V} {Q : Mem → Prop} (R : Rep K T M) (eA : M.A = B ++ L) (hn : M.A[n + B.length]? = some (.lst ws)) (r : RWs K T M ws' vs')
    (q : ∀ M', M'.A = B ++ L.set n (.lst ws') → Rep K T M' → Ext M M' → M'.H = upd M.H (M.m (n + B.length)) (.lst vs') → Q M') : Q { M with A := M.A.set (n + B.length) (.lst ws'), H := upd M.H (M.m (n + B.length)) (.lst vs') } := by
  have gg := place_put (K := K) (T := T) (o' := .lst ws') (h' := .lst vs') R hn rfl rfl (plain_lst _) fun M' em eS eA' eH E' => ⟨vs', by rw [eH]; exact upd_same, r.ext R E'⟩
  refine q _ ?_ gg.1 gg.2 rfl
  show M.A.set (n + B.length) _ = _
  rw [eA, List.set_append_right _ _ (by omega), Nat.add_sub_cancel]
theorem je_app {o e : Expr} {f g : SE} {apos cpos : Pos} (ho : JE X T o f) (he : JE X T e g) (hbase : attributeBase o "append" X.env (eval o X.env) = eval o X.env := by rfl)
    (hfew : ((backTo cpos (starEach [e] X.env)).all (fun x => !x.1) && (backToKw cpos (keywordEach [] X.env)).all (fun x => x.1.isSome)
      && decide ([e].length + ([] : List Keyword).length + (if ([] : List Keyword).isEmpty then 0 else 1) < 30)) = true := by rfl)
    (hline : (apos.endLine == cpos.line) = true := by rfl) (hs : starEach [e] X.env = (false, eval e X.env) :: starEach [] X.env := by rfl) (hplain : (backTo cpos (starEach [] X.env)).any (·.1) = false := by rfl) : JE X T (.Call (.Attribute o "append" apos) [e] [] cpos) (eApp f g) := by
  have hA : JA X T [e] (aCons g aNil) := ja_cons he ja_nil hs
  refine PE.weak (pe_bm PySem.F.plainAttrs_list PySem.F.slot_list_append PySem.F.type_list_append mt_append ho hA hbase hfew hline hs hplain) fun σ H Q h => ?_
  obtain ⟨M, B, L, ρ, p, h⟩ := h
  refine ⟨M, B, L, ρ, p, (post.bind h).mono fun w L1 M1 eA R x q v rv => ?_⟩
  obtain ⟨hl, q⟩ := q.guard
  refine ⟨lstAt_ty R eA rv hl, M1, B, L1, ρ, p.next eA R x, ?_⟩
  show post X.K T M1 B ((g B ρ L1).bind fun x L1 => (aNil B ρ L1).bind fun xs L2 => Res.ok (x :: xs) L2) _
  have q := post.bind q
  cases e1 : g B ρ L1 with
  | exc _ _ _ => rw [e1] at q; exact q.elim
  | bad => rw [e1] at q; exact q.elim
  | ok y L2 =>
    rw [e1] at q
    intro M2 eA2 R2 x2 vs rvs
    obtain ⟨u, r, rfl, ru, rfl⟩ := rvs
    have q := q M2 eA2 R2 x2
    dsimp only at q
    cases e2 : lstAt B L2 w with
    | none => rw [e2] at q; exact q.elim
    | some z =>
      obtain ⟨n, ws⟩ := z
      rw [e2] at q
      dsimp only at q
      split at q
      · rename_i hz
        obtain ⟨rfl, en, us, hu, rw'⟩ := lstAt_at R2 eA2 (rv.ext R x2) e2
        refine ⟨_, us, u, rfl, rfl, hu, by rw [← rw'.length, ← sizeL_eq]; exact hz, ?_⟩
        exact lst_put (Q := fun M' => Q .non M'.H) R2 eA2 en (ws' := ws ++ [y]) (rw'.append (es := [y]) ⟨u, [], rfl, ru, rfl⟩) fun M' a' R' x' _ => q M' a' R' x' .non rfl
      · exact q.elim
theorem je_ext {o e : Expr} {f g : SE} {apos cpos : Pos} (ho : JE X T o f) (he : JE X T e g) (hbase : attributeBase o "extend" X.env (eval o X.env) = eval o X.env := by rfl)
    (hfew : ((backTo cpos (starEach [e] X.env)).all (fun x => !x.1) && (backToKw cpos (keywordEach [] X.env)).all (fun x => x.1.isSome)
      && decide ([e].length + ([] : List Keyword).length + (if ([] : List Keyword).isEmpty then 0 else 1) < 30)) = true := by rfl)
    (hline : (apos.endLine == cpos.line) = true := by rfl) (hs : starEach [e] X.env = (false, eval e X.env) :: starEach [] X.env := by rfl) (hplain : (backTo cpos (starEach [] X.env)).any (·.1) = false := by rfl) : JE X T (.Call (.Attribute o "extend" apos) [e] [] cpos) (eExt f g) := by
  have hA : JA X T [e] (aCons g aNil) := ja_cons he ja_nil hs
  refine PE.weak (pe_bm PySem.F.plainAttrs_list PySem.F.slot_list_extend PySem.F.type_list_extend mt_extend ho hA hbase hfew hline hs hplain) fun σ H Q h => ?_
  obtain ⟨M, B, L, ρ, p, h⟩ := h
  refine ⟨M, B, L, ρ, p, (post.bind h).mono fun w L1 M1 eA R x q v rv => ?_⟩
  obtain ⟨hl, q⟩ := q.guard
  refine ⟨lstAt_ty R eA rv hl, M1, B, L1, ρ, p.next eA R x, ?_⟩
  show post X.K T M1 B ((g B ρ L1).bind fun x L1 => (aNil B ρ L1).bind fun xs L2 => Res.ok (x :: xs) L2) _
  have q := post.bind q
  cases e1 : g B ρ L1 with
  | exc _ _ _ => rw [e1] at q; exact q.elim
  | bad => rw [e1] at q; exact q.elim
  | ok y L2 =>
    rw [e1] at q
    intro M2 eA2 R2 x2 vs rvs
    obtain ⟨u, r, rfl, ru, rfl⟩ := rvs
    have q3 := q M2 eA2 R2 x2
    obtain ⟨pd, _, dv, q4⟩ := q3.view R2 eA2 ru
    obtain ⟨ys, ey, q⟩ := q4.opt
    clear q3 q4
    cases pd with
    | lst zs =>
      cases ey
      obtain ⟨b, bs, rfl, hb, rb⟩ := dv.lst
      cases e2 : lstAt B L2 w with
      | none => rw [e2] at q; exact q.elim
      | some z =>
        obtain ⟨n, ws⟩ := z
        rw [e2] at q
        dsimp only at q
        split at q
        · rename_i hz
          obtain ⟨rfl, en, us, hu, rw'⟩ := lstAt_at R2 eA2 (rv.ext R x2) e2
          refine ⟨_, b, us, bs, rfl, rfl, hu, hb, by rw [← rw'.length, ← rb.length, ← sizeL_eq]; exact hz, ?_⟩
          exact lst_put (Q := fun M' => Q .non M'.H) R2 eA2 en (rw'.append (RWs.ofD rb)) fun M' a' R' x' _ => q M' a' R' x' .non rfl
        · exact q.elim
    | _ => cases ey
theorem RWs.get : ∀ {ws : List W} {vs : List V} {i : Nat} {w : W}, RWs K T M ws vs → ws[i]? = some w → ∃ v, vs[i]? = some v ∧ RW K T M w v
  | [], vs, _, _, h, e => by simp at e
  | x :: xs, vs, 0, d, h, e => by
    obtain ⟨v, r, rfl, h1, h2⟩ := h
    simp at e; subst e
    exact ⟨v, rfl, h1⟩
  | x :: xs, vs, i + 1, d, h, e => by
    obtain ⟨v, r, rfl, h1, h2⟩ := h
    obtain ⟨u, e1, r1⟩ := RWs.get (i := i) (w := d) h2 (by simpa using e)
    exact ⟨u, by simpa using e1, r1⟩
theorem RWs.dropLast : ∀ {ws : List W} {vs : List V}, RWs K T M ws vs → RWs K T M ws.dropLast vs.dropLast
  | [], vs, h => by rw [show vs = [] from h]; exact rfl
  | [x], vs, h => by
    obtain ⟨v, r, rfl, h1, rfl⟩ := h
    exact rfl
  | x :: y :: xs, vs, h => by
    obtain ⟨v, r, rfl, h1, h2⟩ := h
    have ih := RWs.dropLast h2
    obtain ⟨u, r', rfl, _, _⟩ := h2
    exact ⟨v, _, rfl, h1, ih⟩
theorem RWs.listSet {w : W} {v : V} (r : RW K T M w v) : ∀ {ws : List W} {vs : List V} (i : Nat), RWs K T M ws vs → RWs K T M (ws.set i w) (vs.set i v)
  | [], vs, _, h => by rw [show vs = [] from h]; exact rfl
  | x :: xs, vs, 0, h => by
    obtain ⟨u, q, rfl, h1, h2⟩ := h
    exact ⟨v, q, rfl, r, h2⟩
  | x :: xs, vs, i + 1, h => by
    obtain ⟨u, q, rfl, h1, h2⟩ := h
    exact ⟨u, q.set i v, rfl, h1, RWs.listSet r i h2⟩
theorem je_pop {o : Expr} {f : SE} {apos cpos : Pos} (ho : JE X T o f) (hbase : attributeBase o "pop" X.env (eval o X.env) = eval o X.env := by rfl) (hline : (apos.endLine == cpos.line) = true := by rfl) : JE X T (.Call (.Attribute o "pop" apos) [] [] cpos) (ePop f) := by
  refine PE.weak (pe_bm0 PySem.F.plainAttrs_list PySem.F.slot_list_pop PySem.F.type_list_pop mt_pop ho hbase hline) fun σ H Q h => ?_
  obtain ⟨M, B, L, ρ, p, h⟩ := h
  refine ⟨M, B, L, ρ, p, (post.bind h).mono fun w L1 M1 eA R x q v rv => ?_⟩
  cases e2 : lstAt B L1 w with
  | none => rw [e2] at q; exact q.elim
  | some z =>
    obtain ⟨n, ws⟩ := z
    rw [e2] at q
    dsimp only at q
    cases e3 : ws[ws.length - 1]? with
    | none => rw [e3] at q; exact q.elim
    | some y =>
      rw [e3] at q
      refine ⟨lstAt_ty R eA rv (by rw [e2]; rfl), ?_⟩
      obtain ⟨rfl, en, us, hu, rw'⟩ := lstAt_at R eA rv e2
      obtain ⟨u, e4, ru⟩ := rw'.get e3
      refine ⟨_, us, u, rfl, rfl, hu, by rw [← rw'.length]; exact e4, ?_⟩
      exact lst_put (Q := fun M' => Q u M'.H) R eA en rw'.dropLast fun M' a' R' x' _ => q M' a' R' x' u (ru.ext R x')
/-! ### dicts with nested keys -/
mutual
theorem nk_ok : ∀ d : D, nkOk d = true → ∃ k, nk d = some k ∧ k.depth = dep d
  | .non, _ => ⟨_, rfl, rfl⟩
  | .bl _, _ => ⟨_, rfl, rfl⟩
  | .int _, _ => ⟨_, rfl, rfl⟩
  | .str _, _ => ⟨_, rfl, rfl⟩
  | .tup xs, h => by
    obtain ⟨ks, e, q⟩ := nks_ok xs h
    exact ⟨.tup ks, by unfold nk; rw [e], by show NestedKey.depthAll ks + 1 = deps xs + 1; rw [q]⟩
  | .lst _, h => by cases h
  | .dct _ _, h => by cases h
  | .set _, h => by cases h
  | .obj _ _, h => by cases h
  | .fn _, h => by cases h
  | .scr _, h => by cases h
theorem nks_ok : ∀ xs : List D, nkOks xs = true → ∃ ks, nks xs = some ks ∧ NestedKey.depthAll ks = deps xs
  | [], _ => ⟨[], rfl, rfl⟩
  | x :: xs, h => by
    have h : (nkOk x && nkOks xs) = true := h
    rw [Bool.and_eq_true] at h
    obtain ⟨k, e1, q1⟩ := nk_ok x h.1
    obtain ⟨ks, e2, q2⟩ := nks_ok xs h.2
    exact ⟨k :: ks, by unfold nks; rw [e1, e2], by show max _ _ = max _ _; rw [q1, q2]⟩
end
theorem isNK_ok {d : D} (h : isNK d = true) : ∃ ks, nk d = some (.tup ks) ∧ (NestedKey.tup ks).depth ≤ 8 := by
  cases d with
  | tup xs =>
    have h : (nkOks xs && decide (dep (.tup xs) ≤ 8)) = true := h
    rw [Bool.and_eq_true, decide_eq_true_eq] at h
    obtain ⟨ks, e, q⟩ := nks_ok xs h.1
    refine ⟨ks, by unfold nk; rw [e], ?_⟩
    show NestedKey.depthAll ks + 1 ≤ 8
    rw [q]
    exact h.2
  | _ => cases h
theorem str_inj (s t : List Nat) : decide ((⟨s.toArray⟩ : Str) = ⟨t.toArray⟩) = decide (s = t) := by
  by_cases h : s = t
  · rw [h, decide_eq_true rfl, decide_eq_true rfl]
  · rw [decide_eq_false h, decide_eq_false]
    intro z
    injection z with z
    exact h (by simpa using congrArg Array.toList z)
mutual
theorem eqD_nk : ∀ (a b : D) (ka kb : NestedKey), nk a = some ka → nk b = some kb → eqD a b = NestedKey.beq ka kb
  | .non, b, _, _, ea, eb => by cases ea; cases b <;> first | (cases eb; done) | (cases eb; rfl) | (unfold nk at eb; split at eb; (cases eb; rfl); cases eb)
  | .bl p, b, _, _, ea, eb => by
    cases ea
    cases b with
    | bl q => cases eb; cases p <;> cases q <;> rfl
    | int j => cases eb; show ((if p = true then 1 else 0) == j) = decide ((if p = true then (1 : Int) else 0) = j); rw [Bool.eq_iff_iff]; simp
    | non => cases eb; rfl
    | str s => cases eb; rfl
    | tup xs => unfold nk at eb; split at eb; (cases eb; rfl); cases eb
    | _ => cases eb
  | .int i, b, _, _, ea, eb => by
    cases ea
    cases b with
    | bl q => cases eb; show (i == (if q = true then 1 else 0)) = decide (i = (if q = true then (1 : Int) else 0)); rw [Bool.eq_iff_iff]; simp
    | int j => cases eb; show (i == j) = decide (i = j); rw [Bool.eq_iff_iff]; simp
    | non => cases eb; rfl
    | str s => cases eb; rfl
    | tup xs => unfold nk at eb; split at eb; (cases eb; rfl); cases eb
    | _ => cases eb
  | .str s, b, _, _, ea, eb => by
    cases ea
    cases b with
    | bl q => cases eb; rfl
    | int j => cases eb; rfl
    | non => cases eb; rfl
    | str t => cases eb; exact (str_inj s t).symm
    | tup xs => unfold nk at eb; split at eb; (cases eb; rfl); cases eb
    | _ => cases eb
  | .tup xs, b, _, _, ea, eb => by
    unfold nk at ea
    cases ex : nks xs with
    | none => rw [ex] at ea; cases ea
    | some ks =>
      rw [ex] at ea
      cases ea
      cases b with
      | bl q => cases eb; rfl
      | int j => cases eb; rfl
      | non => cases eb; rfl
      | str t => cases eb; rfl
      | tup ys =>
        unfold nk at eb
        cases ey : nks ys with
        | none => rw [ey] at eb; cases eb
        | some js =>
          rw [ey] at eb
          cases eb
          exact eqDs_nk xs ys ks js ex ey
      | _ => cases eb
  | .lst _, _, _, _, ea, _ => by cases ea
  | .dct _ _, _, _, _, ea, _ => by cases ea
  | .set _, _, _, _, ea, _ => by cases ea
  | .obj _ _, _, _, _, ea, _ => by cases ea
  | .fn _, _, _, _, ea, _ => by cases ea
  | .scr _, _, _, _, ea, _ => by cases ea
theorem eqDs_nk : ∀ (xs ys : List D) (ks js : List NestedKey), nks xs = some ks → nks ys = some js → eqDs xs ys = NestedKey.beqAll ks js
  | [], [], _, _, ea, eb => by cases ea; cases eb; rfl
  | [], y :: ys, _, _, ea, eb => by
    cases ea
    unfold nks at eb
    split at eb
    · cases eb; rfl
    · cases eb
  | x :: xs, [], _, _, ea, eb => by
    cases eb
    unfold nks at ea
    split at ea
    · cases ea; rfl
    · cases ea
  | x :: xs, y :: ys, _, _, ea, eb => by
    unfold nks at ea eb
    split at ea
    · rename_i k ks e1 e2
      split at eb
      · rename_i j js f1 f2
        cases ea
        cases eb
        show (eqD x y && eqDs xs ys) = (NestedKey.beq k j && NestedKey.beqAll ks js)
        rw [eqD_nk x y k j e1 f1, eqDs_nk xs ys ks js e2 f2]
      · cases eb
    · cases ea
end
theorem eqD_dec {a b : D} {ka kb : NestedKey} (ha : nk a = some ka) (hb : nk b = some kb) : eqD a b = decide (ka = kb) := by rw [NestedKey.decide_eq]; exact eqD_nk a b ka kb ha hb
section
variable {pins : List (Addr × Obj)} {σ : L2.St} {s : Shared}
mutual
theorem nest_is (I : Inv X pins σ M.H s) : ∀ (d : D) (v : V) (u : Value) (k : NestedKey), RV X.K T M d v → RelV v u → nk d = some k → NestedIs s.heap k u
  | .non, v, u, k, r, rl, e => by cases e; rw [show v = .non from r] at rl; rw [show u = Value.none from rl]; exact .none
  | .bl b, v, u, k, r, rl, e => by cases e; rw [show v = .bl b from r] at rl; rw [show u = Value.bool b from rl]; exact .bool rfl
  | .int i, v, u, k, r, rl, e => by cases e; rw [show v = .int i from r] at rl; obtain ⟨t, rfl⟩ := rl; exact .int _ _
  | .str x, v, u, k, r, rl, e => by cases e; rw [show v = .str ⟨x.toArray⟩ from r] at rl; obtain ⟨t, rfl⟩ := rl; exact .text _ _
  | .tup xs, v, u, k, r, rl, e => by
    obtain ⟨a, vs, rfl, sq, rv⟩ := r
    rw [show u = Value.ref a from rl]
    unfold nk at e
    cases ex : nks xs with
    | none => rw [ex] at e; cases e
    | some ks =>
      rw [ex] at e
      cases e
      obtain ⟨its, rvl, ⟨o, ho, hc, n, hd⟩, _⟩ := I.tuple sq.1
      exact .tup ho hc hd (by simpa using nest_all I xs vs its ks rv rvl ex)
  | .lst _, _, _, _, _, _, e => by cases e
  | .dct _ _, _, _, _, _, _, e => by cases e
  | .set _, _, _, _, _, _, e => by cases e
  | .obj _ _, _, _, _, _, _, e => by cases e
  | .fn _, _, _, _, _, _, e => by cases e
  | .scr _, _, _, _, _, _, e => by cases e
theorem nest_all (I : Inv X pins σ M.H s) : ∀ (ds : List D) (vs : List V) (us : List Value) (ks : List NestedKey), RVs X.K T M ds vs → Vals vs us → nks ds = some ks → NestedAll s.heap ks us
  | [], vs, us, ks, r, rl, e => by cases e; rw [show vs = [] from r] at rl; cases rl; exact .nil
  | x :: xs, vs, us, ks, r, rl, e => by
    obtain ⟨v, rr, rfl, r1, r2⟩ := r
    cases rl with
    | cons q1 q2 =>
      unfold nks at e
      split at e
      · rename_i k ks' e1 e2
        cases e
        exact .cons (nest_is I x v _ k r1 q1 e1) (nest_all I xs rr _ ks' r2 q2 e2)
      · cases e
end
/-- the dict's object -/
theorem dn_of {a : Addr} {kvs : List NV} {ks : List D} (I : Inv X pins σ M.H s) (e : M.H a = some (DN X.prog X.w a kvs)) (hk : ks.all isNK = true) (hn : ks.map nk = kvs.map (fun p => some p.1)) (hr : RVs X.K T M ks (kvs.map fun p => V.ref p.2.1)) :
    kvs.length ≤ sizeLine ∧ (a == sysModules) = false ∧ ∃ xs, Paired NR kvs xs ∧ s.heap.DictOfH (nestedKind X.prog X.w) a xs := by
  obtain ⟨⟨z, y, xs, r, o, es, ep, h1, h2, h3, h4, h5⟩, w0⟩ := (show ObjOk X.prog X.w M.H s.heap a (.ext (DNp X.prog X.w a kvs)) from I.hok a _ e)
  refine ⟨z, y, xs, r, o, es, ep, h1, h2, h3, h4, ?_, h5⟩
  clear h4 h5 z e w0
  induction r generalizing ks with
  | nil => intro x hx; cases hx
  | @cons p q ps qs hq t ih =>
    cases ks with
    | nil => cases hn
    | cons d ds =>
      obtain ⟨v, rr, ev, r1, r2⟩ := hr
      have hk : (isNK d && ds.all isNK) = true := hk
      rw [Bool.and_eq_true] at hk
      have n1 : nk d = some p.1 := (List.cons.inj hn).1
      have n2 : ds.map nk = ps.map (fun p => some p.1) := (List.cons.inj hn).2
      have v1 : V.ref p.2.1 = v := (List.cons.inj ev).1
      have v2 : ps.map (fun p => V.ref p.2.1) = rr := (List.cons.inj ev).2
      subst v1 v2
      intro x hx
      rcases List.mem_cons.mp hx with rfl | hx
      · obtain ⟨kk, e1, e2⟩ := isNK_ok hk.1
        rw [n1] at e1
        have e1 := Option.some.inj e1
        refine ⟨nest_is I d _ _ _ r1 (by rw [hq.2.1]; exact rfl) (by rw [n1, hq.1]), ?_⟩
        rw [← hq.1, e1]
        exact e2
      · exact ih hk.2 n2 r2 x hx
end
def putN (kvs : List NV) (k : NestedKey) (b : Addr) (v : V) : List NV := if (kvs.any fun p => decide (p.1 = k)) = true then kvs.map (fun p => if p.1 = k then (p.1, p.2.1, v) else p) else kvs ++ [(k, b, v)]
theorem nr_any {kvs : List NV} {xs : List (NestedKey × Addr × Value)} (r : Paired NR kvs xs) (k : NestedKey) : (atKey xs k).isSome = kvs.any fun p => decide (p.1 = k) := by
  unfold atKey
  rw [Option.isSome_map]
  induction r with
  | nil => rfl
  | @cons p q ps qs hq t ih =>
    rw [List.any_cons, List.find?_cons, hq.1]
    by_cases h : q.1 = k
    · rw [decide_eq_true h]; rfl
    · rw [decide_eq_false h]; exact ih
theorem nr_map {kvs : List NV} {xs : List (NestedKey × Addr × Value)} (r : Paired NR kvs xs) (k : NestedKey) {v : V} {u : Value} (rv : RelV v u) : Paired NR (kvs.map fun p => if p.1 = k then (p.1, p.2.1, v) else p) (xs.map (PySem.putAt k u)) := by
  induction r with
  | nil => exact .nil
  | @cons p q ps qs hq t ih =>
    refine .cons ?_ ih
    unfold PySem.putAt
    show NR (if p.1 = k then (p.1, p.2.1, v) else p) _
    by_cases h : q.1 = k
    · rw [if_pos h, if_pos (hq.1.trans h)]; exact ⟨hq.1, hq.2.1, rv⟩
    · rw [if_neg h, if_neg (fun z => h (hq.1.symm.trans z))]; exact hq
theorem nr_put {kvs : List NV} {xs : List (NestedKey × Addr × Value)} (r : Paired NR kvs xs) (k : NestedKey) (b : Addr) {v : V} {u : Value} (rv : RelV v u) : Paired NR (putN kvs k b v) (storedH xs k b u) := by
  unfold putN storedH
  rw [nr_any r k]
  split
  · exact nr_map r k rv
  · exact Paired.snoc r ⟨rfl, rfl, rv⟩
theorem length_putN (kvs : List NV) (k : NestedKey) (b : Addr) (v : V) : (putN kvs k b v).length ≤ kvs.length + 1 := by
  unfold putN
  split
  · rw [List.length_map]; omega
  · rw [List.length_append]; exact Nat.le_refl _
theorem nkIn_ok {k : D} {kk : NestedKey} (hk : nk k = some kk) : ∀ {ks : List D} {kvs : List NV}, ks.map nk = kvs.map (fun p => some p.1) → nkIn k ks = kvs.any fun p => decide (p.1 = kk)
  | [], [], _ => rfl
  | [], _ :: _, e => by cases e
  | _ :: _, [], e => by cases e
  | d :: ks, p :: kvs, e => by
    have e1 : nk d = some p.1 := (List.cons.inj e).1
    have e2 : ks.map nk = kvs.map (fun p => some p.1) := (List.cons.inj e).2
    show (eqD d k || nkIn k ks) = (decide (p.1 = kk) || kvs.any _)
    rw [eqD_dec e1 hk, nkIn_ok hk e2]
theorem nkKs_all {k : D} {ks : List D} (hk : isNK k = true) (h : ks.all isNK = true) : (nkKs k ks).all isNK = true := by
  unfold nkKs
  split
  · exact h
  · rw [List.all_append, h]
    show (true && (isNK k && true)) = true
    rw [hk]; rfl
theorem nkKs_nk {k : D} {kk : NestedKey} {b : Addr} {v : V} (hk : nk k = some kk) {ks : List D} {kvs : List NV} (e : ks.map nk = kvs.map (fun p => some p.1)) : (nkKs k ks).map nk = (putN kvs kk b v).map (fun p => some p.1) := by
  unfold nkKs putN
  rw [nkIn_ok hk e]
  split
  · rw [e, List.map_map]
    congr 1
    funext p
    show some p.1 = some (if p.1 = kk then (p.1, p.2.1, v) else p).1
    split <;> rfl
  · rw [List.map_append, List.map_append, e]
    show _ ++ [nk k] = _ ++ [some kk]
    rw [hk]
theorem nkKs_rv {k : D} {kk : NestedKey} {b : Addr} {v : V} (hk : nk k = some kk) (hb : RV K T M k (.ref b)) {ks : List D} {kvs : List NV} (e : ks.map nk = kvs.map (fun p => some p.1)) (r : RVs K T M ks (kvs.map fun p => V.ref p.2.1)) :
    RVs K T M (nkKs k ks) ((putN kvs kk b v).map fun p => V.ref p.2.1) := by
  unfold nkKs putN
  rw [nkIn_ok hk e]
  split
  · have : (kvs.map fun p => if p.1 = kk then (p.1, p.2.1, v) else p).map (fun p : NV => V.ref p.2.1) = kvs.map fun p => V.ref p.2.1 := by
      rw [List.map_map]
      congr 1
      funext p
      show V.ref (if p.1 = kk then (p.1, p.2.1, v) else p).2.1 = _
      split <;> rfl
    rw [this]
    exact r
  · rw [List.map_append]
    exact r.append ⟨_, [], rfl, hb, rfl⟩
theorem nkVs_map {k : D} {kk : NestedKey} {w : W} {v : V} (hk : nk k = some kk) (hw : RW K T M w v) {ks : List D} {ws : List W} {kvs : List NV} (e : ks.map nk = kvs.map (fun p => some p.1)) (r : RWs K T M ws (kvs.map (·.2.2))) :
    RWs K T M (List.zipWith (fun a y => if eqD a k = true then w else y) ks ws) ((kvs.map fun p => if p.1 = kk then (p.1, p.2.1, v) else p).map (·.2.2)) := by
  induction kvs generalizing ks ws with
  | nil =>
    cases ks with
    | nil => exact rfl
    | cons _ _ => cases e
  | cons p kvs ih =>
    cases ks with
    | nil => cases e
    | cons d ks =>
      cases ws with
      | nil => cases (show p.2.2 :: kvs.map (·.2.2) = [] from r)
      | cons y ys =>
        obtain ⟨v1, r1, q, h1, h2⟩ := r
        have q : p.2.2 :: kvs.map (·.2.2) = v1 :: r1 := q
        cases q
        have e1 : nk d = some p.1 := (List.cons.inj e).1
        refine ⟨(if p.1 = kk then (p.1, p.2.1, v) else p).2.2, _, rfl, ?_, ih (List.cons.inj e).2 h2⟩
        show RW K T M (if eqD d k = true then w else y) _
        rw [eqD_dec e1 hk]
        by_cases h : p.1 = kk
        · rw [if_pos h, if_pos (decide_eq_true h)]; exact hw
        · rw [if_neg h, decide_eq_false h, if_neg Bool.false_ne_true]; exact h1
theorem nkVs_rw {k : D} {kk : NestedKey} {b : Addr} {w : W} {v : V} (hk : nk k = some kk) (hw : RW K T M w v) {ks : List D} {ws : List W} {kvs : List NV} (e : ks.map nk = kvs.map (fun p => some p.1)) (r : RWs K T M ws (kvs.map (·.2.2))) :
    RWs K T M (nkVs k w ks ws) ((putN kvs kk b v).map (·.2.2)) := by
  unfold nkVs putN
  rw [nkIn_ok hk e]
  split
  · exact nkVs_map hk hw e r
  · rw [List.map_append]
    exact r.append ⟨v, [], rfl, hw, rfl⟩
theorem plain_DN {P : Program} {w : World} {a : Addr} {kvs : List NV} : Plain (DN P w a kvs) := ⟨(fun _ z => by unfold DN at z; cases z), (fun _ _ z => by unfold DN at z; cases z)⟩
theorem dn_ok {P : Program} {w : World} {H : Hp} {h : Heap} {a : Addr} {kvs : List NV} (p : DNp P w a kvs h) : ObjOk P w H h a (DN P w a kvs) := by
  refine ⟨p, ?_, fun h1 h2 q st => ?_⟩
  · obtain ⟨_, _, _, _, o, _, _, e, _⟩ := p
    exact ⟨o, e⟩
  · obtain ⟨z, y, xs, r, o, es, ep, e, t⟩ := q
    exact ⟨z, y, xs, r, o, es, ep, st o e, t⟩
theorem room9 {A : Around} {P : Program} {w : World} (hu : A.units + 10 < cLine) : (nestedKind P w).room A.in1 := by
  show A.in1.units + 8 < cLine
  rw [Around.in1_units]
  omega
/-- {} -/
theorem je_dctN {pos : Pos} (tw : T.w = X.w) (tp : T.P = X.prog) : JE X T (.Dict [] [] pos) eDctN := by
  have base : PE X (.Dict [] [] pos) (fun _ H Q => ∀ p, H p = none → Q (.ref p) (upd H p (DN X.prog X.w p []))) := ⟨fun pins s σ H Q I h =>
    wpAny_Dict_empty ⟨.ref s.heap.objs.size, _, I.laid (a := s.heap.objs.size) (o := DN X.prog X.w s.heap.objs.size []) (t' := s.toks) (fun _ _ q => Heap.get?_push_of_some _ q) (Nat.le_refl _)
      (dn_ok ⟨Nat.zero_le _, beq_eq_false_iff_ne.mpr (Ne.symm (Nat.ne_of_lt I.big)), [], .nil, _, #[], 0, Heap.get?_push_size _ rfl, ⟨rfl, rfl, rfl⟩, rfl, rfl, List.nodup_nil⟩), rfl, h _ (I.hok.fresh (Nat.le_refl _))⟩⟩
  refine PE.weak base fun σ H Q h p hp => ?_
  obtain ⟨M, B, L, ρ, pt, h⟩ := h
  have eH := pt.eH
  subst eH
  exact new_place pt.rep pt.eA hp (o := .dcn [] []) (h := DN X.prog X.w p []) (fun k => ⟨[], by rw [tw, tp]; exact upd_same, rfl, rfl, rfl, rfl⟩) h
/-- x in d, by values -/
def rInN (K : PySem.W.Frag) (T : Tb) (neg : Bool) : R2 := fun x y H Q => ∃ M p n ks ws, M.H = H ∧ Rep K T M ∧ DV K T M p x ∧ y = .ref (M.m n) ∧ M.A[n]? = some (.dcn ks ws) ∧ isNK p = true ∧ Q (.bl (if neg = true then !nkIn p ks else nkIn p ks)) H
theorem dn_rv {p : D} {x : V} (h : isNK p = true) (d : DV K T M p x) : RV K T M p x := by
  cases p with
  | tup xs => exact d.rv (fun _ z => by cases z) (fun _ _ z => by cases z)
  | _ => cases h
theorem op_inN (tw : T.w = X.w) (tp : T.P = X.prog) (hu : X.A.units + 10 < cLine) : OpR X (compareOp .In) (rInN X.K T false) := by
  intro pins s σ H x y v u Q I rx ry h
  obtain ⟨M, p, n, ks, ws, rfl, R, d, rfl, en, hk, q⟩ := h
  obtain ⟨kvs, e1, e2, e3, e4, e5⟩ := R.at_ n _ en
  rw [tw, tp] at e1
  obtain ⟨kk, k1, k2⟩ := isNK_ok hk
  have rp := dn_rv hk d
  obtain ⟨z, hd, xs, rel, dd⟩ := dn_of I e1 e2 e3 e4
  rw [show u = Value.ref (M.m n) from ry]
  cases p with
  | tup ys =>
    obtain ⟨a, vs, rfl, sq, rv⟩ := rp
    rw [show v = Value.ref a from rx]
    have ki := nest_is I (.tup ys) _ _ _ ⟨a, vs, rfl, sq, rv⟩ (show RelV (.ref a) (.ref a) from rfl) k1
    refine wpAny_in_heap (room9 hu) ⟨ki, k2⟩ hd dd ?_
    rw [nr_any rel, ← nkIn_ok k1 e3]
    exact ⟨.bl _, M.H, I.tok _, rfl, q⟩
  | _ => cases hk
theorem op_notInN (tw : T.w = X.w) (tp : T.P = X.prog) (hu : X.A.units + 10 < cLine) : OpR X (compareOp .NotIn) (rInN X.K T true) := by
  intro pins s σ H x y v u Q I rx ry h
  obtain ⟨M, p, n, ks, ws, rfl, R, d, rfl, en, hk, q⟩ := h
  obtain ⟨kvs, e1, e2, e3, e4, e5⟩ := R.at_ n _ en
  rw [tw, tp] at e1
  obtain ⟨kk, k1, k2⟩ := isNK_ok hk
  have rp := dn_rv hk d
  obtain ⟨z, hd, xs, rel, dd⟩ := dn_of I e1 e2 e3 e4
  rw [show u = Value.ref (M.m n) from ry]
  cases p with
  | tup ys =>
    obtain ⟨a, vs, rfl, sq, rv⟩ := rp
    rw [show v = Value.ref a from rx]
    have ki := nest_is I (.tup ys) _ _ _ ⟨a, vs, rfl, sq, rv⟩ (show RelV (.ref a) (.ref a) from rfl) k1
    refine wpAny_notIn_heap (room9 hu) ⟨ki, k2⟩ hd dd ?_
    rw [nr_any rel, ← nkIn_ok k1 e3]
    exact ⟨.bl _, M.H, I.tok _, rfl, q⟩
  | _ => cases hk
theorem rd_inN {neg : Bool} {fa fb : SE} {σ : L2.St} {H : Hp} {Q : VK} (h : rE K T (eInN neg fa fb) σ H Q) : tOp (rInN K T neg) (rE K T fa) (rE K T fb) σ H Q := by
  obtain ⟨M, B, L, ρ, p, h⟩ := h
  refine ⟨M, B, L, ρ, p, (post.bind h).mono fun w L1 M1 eA R x q v rv => ?_⟩
  refine ⟨M1, B, L1, ρ, p.next eA R x, (post.bind q).mono fun w2 L2 M2 eA2 R2 x2 q2 v2 rv2 => ?_⟩
  obtain ⟨pd, e1, d1, q3⟩ := q2.view R2 eA2 (rv.ext R x2)
  cases w2 with
  | d _ => exact q3.elim
  | ref n =>
    dsimp only at q3
    unfold look at q3
    rw [← eA2] at q3
    cases e2 : M2.A[n]? with
    | none => rw [e2] at q3; exact q3.elim
    | some o =>
      rw [e2] at q3
      cases o with
      | dcn ks ws =>
        dsimp only at q3
        by_cases hk : isNK pd = true
        · rw [if_pos hk] at q3
          exact ⟨M2, pd, n, ks, ws, rfl, R2, d1, rv2.2, e2, hk, q3.here eA2 R2 _ rfl⟩
        · rw [if_neg hk] at q3; exact q3.elim
      | _ => exact q3.elim
theorem eInN_bool {neg : Bool} {fa fb : SE} : ∀ B ρ L w L', eInN neg fa fb B ρ L = .ok w L' → ∃ k, w = .d (.bl k) := fun B ρ L w L' h => by
  obtain ⟨x, L1, e1, h⟩ := bindI h
  obtain ⟨y, L2, e2, h⟩ := bindI h
  obtain ⟨p, L3, e3, h⟩ := bindI h
  split at h
  · split at h
    · split at h
      · cases h; exact ⟨_, rfl⟩
      · cases h
    · cases h
  · cases h
theorem je_inNf {a b : Expr} {fa fb : SE} {pos : Pos} (tw : T.w = X.w) (tp : T.P = X.prog) (hu : X.A.units + 10 < cLine) (ha : JE X T a fa) (hb : JE X T b fb) (hm : behindInMarks .In b = false := by first | exact nomark _ | rfl) : JE X T (.Compare a [.In] [b] pos) (eInN false fa fb) :=
  PE.weak (pe_cmpR (op_inN tw tp hu) ha hb hm) fun σ H Q h => rd_inN h
theorem je_inNt {a b : Expr} {fa fb : SE} {pos : Pos} (tw : T.w = X.w) (tp : T.P = X.prog) (hu : X.A.units + 10 < cLine) (ha : JE X T a fa) (hb : JE X T b fb) (hm : behindInMarks .NotIn b = false := by first | exact nomark _ | rfl) : JE X T (.Compare a [.NotIn] [b] pos) (eInN true fa fb) :=
  PE.weak (pe_cmpR (op_notInN tw tp hu) ha hb hm) fun σ H Q h => rd_inN h
theorem jt_inNf {a b : Expr} {fa fb : SE} {pos : Pos} (tw : T.w = X.w) (tp : T.P = X.prog) (hu : X.A.units + 10 < cLine) (ha : JE X T a fa) (hb : JE X T b fb) (hm : behindInMarks .In b = false := by first | exact nomark _ | rfl) : JT X T (.Compare a [.In] [b] pos) (tE (eInN false fa fb)) :=
  PT.weak (pt_cmpR (op_inN tw tp hu) ha hb hm) fun σ H Q h => rd_test (fun σ H Q h => rd_inN h) h eInN_bool
theorem jt_inNt {a b : Expr} {fa fb : SE} {pos : Pos} (tw : T.w = X.w) (tp : T.P = X.prog) (hu : X.A.units + 10 < cLine) (ha : JE X T a fa) (hb : JE X T b fb) (hm : behindInMarks .NotIn b = false := by first | exact nomark _ | rfl) : JT X T (.Compare a [.NotIn] [b] pos) (tE (eInN true fa fb)) :=
  PT.weak (pt_cmpR (op_notInN tw tp hu) ha hb hm) fun σ H Q h => rd_test (fun σ H Q h => rd_inN h) h eInN_bool
/-! ### o[k] = v -/
def rPut (K : PySem.W.Frag) (T : Tb) : TSet := fun o i v H Q => ∃ M B L x k w L', M.H = H ∧ M.A = B ++ L ∧ Rep K T M ∧ RW K T M x o ∧ DV K T M k i ∧ RW K T M w v ∧ putIn B L x k w = some L' ∧ ∀ M', M'.A = B ++ L' → Rep K T M' → Ext M M' → Q M'.H
theorem set_put (tw : T.w = X.w) (tp : T.P = X.prog) (hu : X.A.units + 10 < cLine) : PSet X (rPut X.K T) := by
  intro pins s σ H o i v ov iv u Q I ro ri rv h
  obtain ⟨M, B, L, x, k, w, L', rfl, eA, R, rx, dk, rw', ep, q⟩ := h
  unfold putIn at ep
  split at ep
  · rename_i n
    split at ep
    · cases ep
    · rename_i hb
      have at_ : ∀ ob, L[n - B.length]? = some ob → M.A[n]? = some ob := fun ob e => by rw [eA, List.getElem?_append_right (by omega)]; exact e
      have seta : ∀ ob, M.A.set n ob = B ++ L.set (n - B.length) ob := fun ob => by rw [eA, List.set_append_right _ _ (by omega)]
      split at ep
      · rename_i ws en
        split at ep
        · rename_i j
          split at ep
          · rename_i m em
            cases ep
            obtain ⟨vs, h1, h2⟩ := R.at_ n _ (at_ _ en)
            have gg := place_put (K := X.K) (T := T) (o' := .lst (ws.set m w)) (h' := .lst (vs.set m v)) R (at_ _ en) rfl rfl (plain_lst _) fun M' _ _ eA' eH E' => ⟨vs.set m v, by rw [eH]; exact upd_same, RWs.listSet (rw'.ext R E') m (h2.ext R E')⟩
            refine set_list pins s σ M.H o i v ov iv u Q I ro ri rv ⟨M.m n, vs, j, m, rx.2, dk.int, h1, ?_, q _ (seta _) gg.1 gg.2⟩
            rw [← h2.length]
            exact em
          · cases ep
        · cases ep
      · rename_i ks ws en
        split at ep
        · rename_i hk
          cases ep
          obtain ⟨kk, e1⟩ := keyD_ok hk.1
          have e2 := keyD_dv e1 dk
          obtain ⟨kvs, h1, h2, h3⟩ := R.at_ n _ (at_ _ en)
          have lk : kvs.length = ks.length := by simpa using (congrArg List.length h2).symm
          have gg := place_put (K := X.K) (T := T) (o' := .dct (putKs k ks) (putVs k w ks ws)) (h' := .dK (putK kvs kk v)) R (at_ _ en) rfl rfl (plain_dK _) fun M' _ _ eA' eH E' => ⟨putK kvs kk v, by rw [eH]; exact upd_same, putKs_ok e1 h2, putVs_ok e1 (rw'.ext R E') h2 (h3.ext R E')⟩
          refine set_dict (by omega) pins s σ M.H o i v ov iv u Q I ro ri rv ⟨M.m n, upd M.H (M.m n) (.dK (putK kvs kk v)), rx.2, ?_, q _ (seta _) gg.1 gg.2⟩
          rw [e2]
          exact DPut.k h1 (by rw [lk, ← sizeL_eq]; exact hk.2)
        · cases ep
      · rename_i ks ws en
        split at ep
        · rename_i hk
          cases ep
          obtain ⟨kk, k1, k2⟩ := isNK_ok hk.1
          have rp := dn_rv hk.1 dk
          obtain ⟨kvs, e1, e2, e3, e4, e5⟩ := R.at_ n _ (at_ _ en)
          have e1' : M.H (M.m n) = some (DN X.prog X.w (M.m n) kvs) := by rw [← tw, ← tp]; exact e1
          obtain ⟨z, hd, xs, rel, dd⟩ := dn_of I e1' e2 e3 e4
          have lk : kvs.length = ks.length := by simpa using (congrArg List.length e3).symm
          rw [rx.2] at ro
          rw [show ov = Value.ref (M.m n) from ro]
          cases k with
          | tup ys =>
            obtain ⟨b, vs, rfl, sq, rvs⟩ := rp
            rw [show iv = Value.ref b from ri]
            have rb : RV X.K T M (.tup ys) (.ref b) := ⟨b, vs, rfl, sq, rvs⟩
            have ki := nest_is I (.tup ys) _ _ _ rb (show RelV (.ref b) (.ref b) from rfl) k1
            have hz : xs.length ≤ sizeLine := by rw [← Paired.length rel]; exact z
            have gg := place_put (K := X.K) (T := T) (o' := .dcn (nkKs (.tup ys) ks) (nkVs (.tup ys) w ks ws)) (h' := DN X.prog X.w (M.m n) (putN kvs (.tup kk) b v)) R (at_ _ en) rfl rfl plain_DN
              fun M' _ _ eA' eH E' => ⟨putN kvs (.tup kk) b v, by rw [eH, tw, tp]; exact upd_same, nkKs_all hk.1 e2, nkKs_nk k1 e3, nkKs_rv k1 (RV.ext R E' _ _ rb) e3 (RVs.ext R E' _ _ e4), nkVs_rw k1 (rw'.ext R E') e3 (e5.ext R E')⟩
            refine wpAny_setItem_heap (hsz := hz) (room9 hu) ⟨ki, k2⟩ dd fun h' dd' hs => ?_
            obtain ⟨qo, es, epp, hq, h2, h3, h4, _, h5⟩ := dd'
            refine ⟨_, d_write I (by rw [e1']; exact True.intro) hs ⟨qo, hq⟩ (dn_ok ⟨?_, hd, _, nr_put rel (.tup kk) b rv, qo, es, epp, hq, h2, h3, h4, h5⟩), q _ (seta _) gg.1 gg.2⟩
            have l1 := length_putN kvs (.tup kk) b v
            have l2 := hk.2
            rw [← sizeL_eq]
            omega
          | _ => cases hk.1
        · cases ep
      · cases ep
  · cases ep
theorem jg_item {o i : Expr} {f g : SE} {pos : Pos} (tw : T.w = X.w) (tp : T.P = X.prog) (hu : X.A.units + 10 < cLine) (ho : JE X T o f) (hi : JE X T i g)
    (ha : ∀ v, assign (.Subscript o i pos) X.env v = (do
      let ov ← holding [v] (eval o X.env)
      let iv ← holding [v, ov] (eval i X.env)
      standAt pos
      holding [v, ov, iv] (setItem ov iv v)
      release [v, ov, iv] []) := by intro _; rfl) : JG X T (.Subscript o i pos) (gItem f g) [] :=
  PG.weak (pg_sub ho hi (set_put tw tp hu) ha) fun v σ H Q h => by
    obtain ⟨M, B, L, ρ, w, p, rw', h⟩ := h
    refine ⟨M, B, L, ρ, p, (post.bind h).mono fun x L1 M1 eA R x1 q u ru => ?_⟩
    refine ⟨M1, B, L1, ρ, p.next eA R x1, (post.bind q).mono fun y L2 M2 eA2 R2 x2 q2 t rt => ?_⟩
    obtain ⟨k, ek, dk, q3⟩ := q2.view R2 eA2 rt
    cases e : putIn B L2 x k w with
    | none => rw [e] at q3; exact q3.elim
    | some L3 =>
      rw [e] at q3
      refine ⟨M2, B, L2, x, k, w, L3, rfl, eA2, R2, ru.ext R x2, dk, (rw'.ext p.rep x1).ext R x2, e, fun M' a' R' x' => ?_⟩
      exact q3 M' a' R' x' σ ((((p.next eA R x1).next eA2 R2 x2).rs).ext R2 x') (Stay.refl _ _)
/-! ### several names -/
inductive NamesAt (X : Cx) : List Expr → List Nat → Prop
  | nil : NamesAt X [] []
  | cons {x : Str} {p : Pos} {es : List Expr} {i : Nat} {is : List Nat} : X.N[i]? = some x → Loc X.env.scope x → (X.fn x = true ∨ X.env.scope.names.lookup x = some .local) → NamesAt X es is → NamesAt X (.Name x p :: es) (i :: is)
def gNames : List Nat → TGs
  | [] => gNil
  | i :: is => gCons (gName i) (gNames is)
theorem pgs_names (hN : X.N.Nodup) : ∀ {es : List Expr} {is : List Nat}, NamesAt X es is → (assignEach es X.env).map (·.2) = es.map (fun e => assign e X.env) → PGs X es (gNames is)
  | _, _, .nil, _ => pgs_nil
  | _, _, .cons (x := x) (p := p) h1 h2 h3 h4, hs => by
    have hs' : assign _ X.env :: (assignEach _ X.env).map (·.2) = _ := hs
    exact pgs_cons (pg_name hN h1 h2 h3) (pgs_names hN h4 (List.cons.inj hs').2) rfl
theorem gNames_set {M : Mem} {H : Hp} {Q : L2.St → Hp → Prop} : ∀ {is : List Nat} {ws : List W} {vs : List V} {ρ ρ' : Sl} {σ : L2.St}, setAll is ws ρ = some ρ' → RWs K T M ws vs → RS K T M ρ σ → (∀ σ', RS K T M ρ' σ' → Q σ' H) → gNames is vs σ H Q
  | [], ws, vs, ρ, ρ', σ, e, r, rs, k => by
    cases ws with
    | nil => cases e; exact ⟨r, k σ rs⟩
    | cons _ _ => cases e
  | i :: is, ws, vs, ρ, ρ', σ, e, r, rs, k => by
    cases ws with
    | nil => cases e
    | cons w ws =>
      obtain ⟨v, q, rfl, r1, r2⟩ := r
      exact ⟨v, q, rfl, gNames_set (is := is) e r2 (rs.set r1 i) k⟩
theorem setAll_len : ∀ {is : List Nat} {ws : List W} {ρ ρ' : Sl}, setAll is ws ρ = some ρ' → ws.length = is.length
  | [], [], _, _, _ => rfl
  | [], _ :: _, _, _, e => by cases e
  | _ :: _, [], _, _, e => by cases e
  | i :: is, w :: ws, ρ, ρ', e => by rw [List.length_cons, List.length_cons, setAll_len (is := is) (ws := ws) (ρ := ρ.set i (some w)) e]
theorem js_parN {is : List Nat} {nms es : List Expr} {f : SA} {k k2 : Nat} {pt pt2 pos : Pos} (hc : X.calm = true) (hN : X.N.Nodup) (ha : JA X T es f) (hn : NamesAt X nms is) (hl : (assignEach nms X.env).length = is.length := by rfl)
    (hst : (assignEach nms X.env).findIdx? (·.1) = none := by rfl) (hm : (assignEach nms X.env).map (·.2) = nms.map (fun e => assign e X.env) := by rfl)
    (hs : swapsWithSole [.Tuple nms k pt] (.Tuple es k2 pt2) pos.line X.env = pure false := by rfl) (hw : swappedStores [.Tuple nms k pt] (.Tuple es k2 pt2) X.env = pure none := by rfl)
    (h1 : (assignEach [.Tuple nms k pt] X.env).map (·.2) = [assign (.Tuple nms k pt) X.env] := by rfl) : JS X T (.Assign [.Tuple nms k pt] (.Tuple es k2 pt2) pos) (sParN is f) :=
  PS.weak (ps_asg (pe_tup ha) (pg_tup hc (pgs_names hN hn hm) hl hst) hs hw h1) fun Dn σ H h => by
    obtain ⟨M, B, L, ρ, p, h⟩ := h
    refine ⟨M, B, L, ρ, p, (post.st h).mono fun ws L1 M1 eA R x q vs rvs => ?_⟩
    cases e : setAll is ws ρ with
    | none => rw [e] at q; exact q.elim
    | some ρ' =>
      rw [e] at q
      dsimp only at q
      by_cases hz : ws.length ≤ sizeL
      · rw [if_pos hz] at q
        refine ⟨by rw [← rvs.length, ← sizeL_eq]; exact hz, fun a ha => ?_⟩
        obtain ⟨R3, E3⟩ := garb (o := .tup vs) R ha
        refine ⟨a, vs, rfl, .inl (.inl upd_same), by rw [← rvs.length]; exact setAll_len e, ?_⟩
        exact gNames_set (M := { M1 with H := upd M1.H a (.tup vs) }) e (rvs.ext R E3) ((p.rs.ext p.rep x).ext R E3) fun σ' rs' => q { M1 with H := upd M1.H a (.tup vs) } σ' eA R3 E3 rs'
      · rw [if_neg hz] at q; exact q.elim
end
end Ev

set_option Elab.async false
set_option linter.all false
set_option maxRecDepth 100000
set_option maxHeartbeats 1000000
set_option autoImplicit false
/-! EvQ: t[::-1], -x, is True, sum, {}, lists put together that change; defs that call themselves. -/
namespace Ev
open PySem PySem.Spec PyProof.Rows L2
section
variable {X : Cx} {T : Tb} {K : PySem.W.Frag} {M : Mem}
/-- an operator of one value by data -/
theorem rd_1 {op : D → Option D} {f : SE} {σ : L2.St} {H : Hp} {Q : VK} {r : V → Hp → VK → Prop} (ok : ∀ (M : Mem) (p z : D) (x : V) (Q : VK), Rep K T M → DV K T M p x → op p = some z → (∀ M' v, M'.A = M.A → Rep K T M' → Ext M M' → RV K T M' z v → Q v M'.H) → r x M.H Q)
    (h : rE K T (e1 op f) σ H Q) : rE K T f σ H fun x H1 => r x H1 Q := by
  obtain ⟨M, B, L, ρ, p, h⟩ := h
  refine ⟨M, B, L, ρ, p, (post.bind h).mono fun w L1 M1 eA R x q v rv => ?_⟩
  obtain ⟨pd, _, dv, q⟩ := q.view R eA rv
  obtain ⟨z, ez, q⟩ := q.opt
  exact ok M1 pd z v Q R dv ez fun M' u a' R' x' ru => q M' (a'.trans eA) R' x' u ru
theorem je_rev {e : Expr} {f : SE} {k : Nat} {p1 p2 p3 pos : Pos} (he : JE X T e f) : JE X T (.Subscript e (.Slice none none (some (.UnaryOp .USub (.Constant (.int 1) k p1) p2)) p3) pos) (e1 opRev f) :=
  PE.weak (pe_revA he) fun σ H Q h => rd_1 (r := fun x H1 Q => (∃ a xs, x = .ref a ∧ SqL X.K H1 a xs ∧ ∀ p, H1 p = none → Q (.ref p) (upd H1 p (.lst xs.reverse))) ∨ (∃ a xs, x = .ref a ∧ SqT X.K H1 a xs ∧ ∀ p, H1 p = none → Q (.ref p) (upd H1 p (.tup xs.reverse)))) (fun M p z x Q R d e k => by
    have rev : ∀ {xs : List D} {vs : List V}, RVs X.K T M xs vs → RVs X.K T M xs.reverse vs.reverse := fun {xs vs} r => by
      induction xs generalizing vs with
      | nil => rw [show vs = [] from r]; exact rfl
      | cons x xs ih =>
        obtain ⟨v, q, rfl, r1, r2⟩ := r
        rw [List.reverse_cons, List.reverse_cons]
        exact (ih r2).append ⟨v, [], rfl, r1, rfl⟩
    cases p with
    | tup xs =>
      have e : (if rowy xs.reverse = false then some (D.tup xs.reverse) else none) = some z := e
      by_cases hr : rowy xs.reverse = false
      · rw [if_pos hr] at e
        cases e
        obtain ⟨a, vs, rfl, s1, r1⟩ := d.tup
        exact .inr ⟨a, vs, rfl, s1, new_tup R hr (rev r1) k⟩
      · rw [if_neg hr] at e; cases e
    | lst xs =>
      cases e
      obtain ⟨a, vs, rfl, s1, r1⟩ := d.lst
      exact .inl ⟨a, vs, rfl, SqL.of s1, new_lst R (rev r1) k⟩
    | _ => cases e) h
theorem je_neg {e : Expr} {f : SE} {pos : Pos} (he : JE X T e f) : JE X T (.UnaryOp .USub e pos) (e1 opNeg f) :=
  PE.weak (pe_un un_neg he) fun σ H Q h => rd_1 (r := rU fun i => .int (-i)) (fun M p z x Q R d e k => by
    cases p with
    | int i => cases e; exact ⟨i, d.int, k M _ rfl R (Ext.refl M) rfl⟩
    | _ => cases e) h
theorem opD_is : OpD X T (compareOp .Is) opIsB := by
  intro pins s σ H x y v u Q I rx ry h
  obtain ⟨M, p, q, z, rfl, R, d1, d2, e, k⟩ := h
  cases p with
  | bl a =>
    cases q with
    | bl b =>
      cases e
      refine op_isBl pins s σ _ x y v u Q I rx ry ⟨a, b, d1.bl, d2.bl, ?_⟩
      have : (a == b) = decide (a = b) := by cases a <;> cases b <;> rfl
      rw [← this]
      exact k M _ rfl R (Ext.refl M) rfl
    | _ => cases e
  | _ => cases q <;> cases e
theorem opIsB_bool : ∀ p q z, opIsB p q = some z → ∃ k, z = .bl k := fun p q z e => by
  cases p with
  | bl a =>
    cases q with
    | bl b => cases e; exact ⟨_, rfl⟩
    | _ => cases e
  | _ => cases q <;> cases e
theorem cd_sum (hc : X.calm = true) : CallD X T (.builtin "sum") bSum := call_D1 rfl (fun _ _ _ => by simp [bSum]) fun pins s σ M p z x u Q I rx R d e k => by
  cases p with
  | lst xs =>
    have e : (match allI xs with | some is => some (D.int is.sum) | none => none) = some z := e
    cases ei : allI xs with
    | none => rw [ei] at e; cases e
    | some is =>
      rw [ei] at e
      cases e
      obtain ⟨a, vs, rfl, s1, r1⟩ := d.lst
      exact cr_sum hc pins s σ _ _ [u] Q I (.cons rx .nil) ⟨a, is, rfl, by rw [← allI_ok ei r1]; exact SqL.of s1, k M _ rfl R (Ext.refl M) rfl⟩
  | _ => cases e
/-- {} as data -/
theorem je_dct0 {pos : Pos} : JE X T (.Dict [] [] pos) (eC (.dct [] [])) := PE.weak pe_dnewK fun σ H Q h p hp => by
  obtain ⟨M, B, L, ρ, pt, h⟩ := h
  have eH := pt.eH
  subst eH
  obtain ⟨R', E'⟩ := garb (o := .dK []) pt.rep hp
  exact h { M with H := upd M.H p (.dK []) } pt.eA R' E' (.ref p) ⟨p, [], rfl, sep_new pt.rep hp, upd_same, rfl, rfl⟩
/-- a + b of lists, that may be changed -/
theorem je_addM {a b : Expr} {fa fb : SE} {pos : Pos} (ha : JE X T a fa) (hb : JE X T b fb) : JE X T (.BinOp a .Add b pos) (eAddM fa fb) :=
  PE.weak (pe_op op_cat ha hb) fun σ H Q h => by
    obtain ⟨M, B, L, ρ, p, h⟩ := h
    refine ⟨M, B, L, ρ, p, (post.bind h).mono fun w L1 M1 eA R x q v rv => ?_⟩
    refine ⟨M1, B, L1, ρ, p.next eA R x, (post.bind q).mono fun w2 L2 M2 eA2 R2 x2 q2 v2 rv2 => ?_⟩
    obtain ⟨pd, _, d1, q3⟩ := q2.view R2 eA2 (rv.ext R x2)
    obtain ⟨qd, _, d2, q4⟩ := q3.view R2 eA2 rv2
    obtain ⟨xs, e1, q5⟩ := q4.opt
    obtain ⟨ys, e2, q6⟩ := q5.opt
    obtain ⟨hl, q7⟩ := q6.guard
    have hl := of_decide_eq_true hl
    clear q2 q3 q4 q5 q6
    cases pd with
    | lst xs' =>
      cases e1
      cases qd with
      | lst ys' =>
        cases e2
        obtain ⟨a1, vs, rfl, s1, r1⟩ := d1.lst
        obtain ⟨a2, us, rfl, s2, r2⟩ := d2.lst
        refine ⟨a1, a2, vs, us, rfl, rfl, s1, s2, by rw [← r1.length, ← r2.length, ← sizeL_eq]; exact hl, fun b hb => ?_⟩
        exact new_place R2 eA2 hb (o := .lst ((xs ++ ys).map .d)) (h := .lst (vs ++ us)) (fun k => ⟨vs ++ us, upd_same, RWs.ofD ((RVs.keeps k _ _ r1).append (RVs.keeps k _ _ r2))⟩) q7
      | _ => cases e2
    | _ => cases e1
/-- sep.join(texts) -/
theorem allS_ok : ∀ {xs : List D} {ss : List (List Nat)} {vs : List V}, allS xs = some ss → RVs K T M xs vs → vs = ss.map fun s => V.str ⟨s.toArray⟩
  | [], ss, vs, e, r => by cases e; exact r
  | x :: xs, ss, vs, e, r => by
    obtain ⟨v, rr, rfl, r1, r2⟩ := r
    cases x with
    | str s =>
      unfold allS at e
      cases q : allS xs with
      | none => rw [q] at e; cases e
      | some js =>
        rw [q] at e
        cases e
        rw [allS_ok q r2, show v = V.str ⟨s.toArray⟩ from r1]
        rfl
    | _ => cases e
theorem joinS_eq (a : List Nat) : ∀ ss : List (List Nat), joinS a ss = TL.joinL a ss
  | [] => rfl
  | [_] => rfl
  | p :: q :: r => by
    show p ++ (a ++ joinS a (q :: r)) = p ++ (a ++ TL.joinL a (q :: r))
    rw [joinS_eq a (q :: r)]
theorem join_str (a : List Nat) (ss : List (List Nat)) : Txt.join (⟨a.toArray⟩ : Str) (ss.map fun s => (⟨s.toArray⟩ : Str)) = ⟨(joinS a ss).toArray⟩ := by
  rw [joinS_eq]
  exact SX.join_S a ss
theorem je_join {x : Str} {sep : List Nat} {j : Nat} {p0 : Pos} {e : Expr} {g : SE} {apos cpos : Pos} (he : JE X T e g) (hx : x = ⟨sep.toArray⟩ := by decide) (hbase : attributeBase (.Constant (.str x) j p0) "join" X.env (eval (.Constant (.str x) j p0) X.env) = eval (.Constant (.str x) j p0) X.env := by rfl)
    (hfew : ((backTo cpos (starEach [e] X.env)).all (fun x => !x.1) && (backToKw cpos (keywordEach [] X.env)).all (fun x => x.1.isSome)
      && decide ([e].length + ([] : List Keyword).length + (if ([] : List Keyword).isEmpty then 0 else 1) < 30)) = true := by rfl)
    (hline : (apos.endLine == cpos.line) = true := by rfl) (hs : starEach [e] X.env = (false, eval e X.env) :: starEach [] X.env := by rfl) (hplain : (backTo cpos (starEach [] X.env)).any (·.1) = false := by rfl) : JE X T (.Call (.Attribute (.Constant (.str x) j p0) "join" apos) [e] [] cpos) (e1 (opJoin (.str sep)) g) := by
  have hA : JA X T [e] (aCons g aNil) := ja_cons he ja_nil hs
  refine PE.weak (pe_bm PySem.F.plainAttrs_str PySem.F.slot_str_join PySem.F.type_str_join mt_join pe_str hA hbase hfew hline hs hplain) fun σ H Q h => ?_
  refine ⟨rfl, ?_⟩
  obtain ⟨M, B, L, ρ, p, h⟩ := h
  refine ⟨M, B, L, ρ, p, ?_⟩
  show post X.K T M B ((g B ρ L).bind fun x L1 => (aNil B ρ L1).bind fun xs L2 => Res.ok (x :: xs) L2) _
  have q := post.bind h
  cases e1 : g B ρ L with
  | exc _ _ _ => rw [e1] at q; exact q.elim
  | bad => rw [e1] at q; exact q.elim
  | ok y L2 =>
    rw [e1] at q
    intro M2 eA2 R2 x2 vs rvs
    obtain ⟨u, r, rfl, ru, rfl⟩ := rvs
    have q3 := q M2 eA2 R2 x2
    obtain ⟨qd, _, d2, q5⟩ := q3.view R2 eA2 ru
    obtain ⟨z, ez, q6⟩ := q5.opt
    cases qd with
    | lst xs =>
      have ez : (match allS xs with | some ss => if (ss.map List.length).sum + ss.length * sep.length ≤ sizeL then some (D.str (joinS sep ss)) else none | none => none) = some z := ez
      cases es : allS xs with
      | none => rw [es] at ez; cases ez
      | some ss =>
        rw [es] at ez
        dsimp only at ez
        split at ez
        · rename_i hl
          cases ez
          obtain ⟨b, us, rfl, s1, r1⟩ := d2.lst
          rw [allS_ok es r1] at s1
          have e2 : (ss.map fun s => V.str ⟨s.toArray⟩) = (ss.map fun s => (⟨s.toArray⟩ : Str)).map V.str := by rw [List.map_map]; rfl
          rw [e2] at s1
          refine ⟨x, b, ss.map fun s => (⟨s.toArray⟩ : Str), rfl, rfl, .inl (SqL.of s1), ?_, ?_⟩
          · have e3 : ((ss.map fun s => (⟨s.toArray⟩ : Str)).map (·.length)) = ss.map List.length := by
              rw [List.map_map]
              refine List.map_congr_left fun s _ => ?_
              exact str_len s
            rw [e3, List.length_map, hx, str_len]
            exact hl
          · rw [hx, join_str]
            exact q6.here eA2 R2 _ rfl
        · cases ez
    | _ => cases ez
end
/-! ### defs that call themselves -/
theorem fn_bad {P : Program} {w : World} {K : PySem.W.Frag} {T : Tb} {mg : Str → Option Value} {base : Heap} {k : Nat} {f : Addr} {fd : FuncData} {ps : List Str} : FnG P w K mg base CX0 k f fd ps (spOf K T ps.length badFn) :=
  ⟨fun vs H Q E h => h.1, fun A ou s H args us vs Q E hg hr he hb hv h => by
    obtain ⟨_, M, B, L, ws, _, _, _, _, h⟩ := h
    exact h.elim⟩
end Ev

set_option Elab.async false
set_option linter.all false
set_option maxRecDepth 100000
set_option maxHeartbeats 1000000
set_option autoImplicit false
/-! EvI: instances: attributes, methods, making. -/
namespace Ev
open PySem PySem.Spec PyProof.Rows L2
section
variable {X : Cx} {T : Tb} {K : PySem.W.Frag} {M : Mem} {B L : Hs}
theorem strInj {s t : List Nat} (h : (⟨s.toArray⟩ : Str) = ⟨t.toArray⟩) : s = t := by
  have := congrArg (fun x : Str => x.cps.toList) h
  simpa using this
theorem lookup_getF {f : List Nat} : ∀ {fs : List (List Nat × W)} {gs : List (Str × V)}, gs.map (·.1) = fs.map (fun p => (⟨p.1.toArray⟩ : Str)) → RWs K T M (fs.map (·.2)) (gs.map (·.2)) →
    (∀ w, getF f fs = some w → ∃ v, gs.lookup ⟨f.toArray⟩ = some v ∧ RW K T M w v) ∧ (getF f fs = none → gs.lookup ⟨f.toArray⟩ = none)
  | [], [], _, _ => ⟨(fun w e => by cases e), fun _ => rfl⟩
  | [], _ :: _, e, _ => by cases e
  | _ :: _, [], e, _ => by cases e
  | (k, x) :: fs, (g, y) :: gs, e, h => by
    have e1 : g = ⟨k.toArray⟩ := (List.cons.inj e).1
    have e2 : gs.map (·.1) = fs.map (fun p => (⟨p.1.toArray⟩ : Str)) := (List.cons.inj e).2
    obtain ⟨v, r, q, h1, h2⟩ := h
    have q : y :: gs.map (·.2) = v :: r := q
    cases q
    have ih := lookup_getF (f := f) e2 h2
    unfold getF
    by_cases hk : k = f
    · rw [if_pos hk]
      have hb : ((⟨f.toArray⟩ : Str) == g) = true := by rw [e1, hk]; exact beq_self_eq_true _
      have l : ((g, y) :: gs).lookup ⟨f.toArray⟩ = some y := by
        show (match ((⟨f.toArray⟩ : Str) == g) with | true => some y | false => gs.lookup _) = _
        rw [hb]
      exact ⟨(fun w z => by cases z; exact ⟨y, l, h1⟩), (fun z => by cases z)⟩
    · rw [if_neg hk]
      have hb : ((⟨f.toArray⟩ : Str) == g) = false := beq_eq_false_iff_ne.mpr fun z => hk (strInj (e1.symm.trans z.symm))
      have l : ((g, y) :: gs).lookup ⟨f.toArray⟩ = gs.lookup ⟨f.toArray⟩ := by
        show (match ((⟨f.toArray⟩ : Str) == g) with | true => some y | false => gs.lookup _) = _
        rw [hb]
      rw [l]
      exact ih
theorem putF_putFs {f : List Nat} {w : W} {v : V} (r : RW K T M w v) : ∀ {fs : List (List Nat × W)} {gs : List (Str × V)}, gs.map (·.1) = fs.map (fun p => (⟨p.1.toArray⟩ : Str)) → RWs K T M (fs.map (·.2)) (gs.map (·.2)) →
    (putF ⟨f.toArray⟩ v gs).map (·.1) = (putFs f w fs).map (fun p => (⟨p.1.toArray⟩ : Str)) ∧ RWs K T M ((putFs f w fs).map (·.2)) ((putF ⟨f.toArray⟩ v gs).map (·.2))
  | [], [], _, _ => ⟨rfl, v, [], rfl, r, rfl⟩
  | [], _ :: _, e, _ => by cases e
  | _ :: _, [], e, _ => by cases e
  | (k, x) :: fs, (g, y) :: gs, e, h => by
    have e1 : g = ⟨k.toArray⟩ := (List.cons.inj e).1
    have e2 : gs.map (·.1) = fs.map (fun p => (⟨p.1.toArray⟩ : Str)) := (List.cons.inj e).2
    obtain ⟨u, t, q, h1, h2⟩ := h
    have q : y :: gs.map (·.2) = u :: t := q
    cases q
    have ih := putF_putFs (f := f) r e2 h2
    unfold putFs putF
    by_cases hk : k = f
    · rw [if_pos hk, if_pos (by rw [e1, hk])]
      exact ⟨by show g :: _ = _ :: _; rw [e1, e2], v, _, rfl, r, h2⟩
    · rw [if_neg hk, if_neg (fun z => hk (strInj (e1.symm.trans z)))]
      exact ⟨by show g :: _ = _ :: _; rw [e1, ih.1], y, _, rfl, h1, ih.2⟩
/-- what an instance is -/
theorem ins_at (R : Rep K T M) (eA : M.A = B ++ L) {x : W} {v : V} {n c : Nat} {fs : List (List Nat × W)} (h : insAt B L x = some (n, c, fs)) (r : RW K T M x v) :
    x = .ref n ∧ M.A[n]? = some (.ins c fs) ∧ v = .ref (M.m n) ∧ ∃ dx gs, M.H (M.m n) = some (.ins (T.cls c) dx gs) ∧ gs.map (·.1) = fs.map (fun p => (⟨p.1.toArray⟩ : Str)) ∧ RWs K T M (fs.map (·.2)) (gs.map (·.2)) := by
  unfold insAt at h
  cases x with
  | d _ => cases h
  | ref k =>
    dsimp only at h
    split at h
    · rename_i c' fs' e
      cases h
      have e : M.A[n]? = some (.ins c fs) := by rw [eA]; exact e
      exact ⟨rfl, e, r.2, R.at_ n _ e⟩
    · cases h
theorem je_fld {o : Expr} {f : SE} {c : Nat} {nm : List Nat} {x : Str} {pos : Pos} (ho : JE X T o f) (hc : Cls X.K (T.cls c)) (hn : NoAttr X.K (T.cls c) x) (hx : x = ⟨nm.toArray⟩ := by decide) (hb : attributeBase o x X.env (eval o X.env) = eval o X.env := by rfl) : JE X T (.Attribute o x pos) (eFld c nm f) :=
  PE.weak (pe_fld ho hb) fun σ H Q h => by
    obtain ⟨M, B, L, ρ, p, h⟩ := h
    refine ⟨M, B, L, ρ, p, (post.bind h).mono fun w L1 M1 eA R ext q v rv => ?_⟩
    obtain ⟨⟨n, c', fs⟩, ei, q1⟩ := q.opt
    obtain ⟨hg, q2⟩ := q1.guard
    have hg' : c' = c := of_decide_eq_true hg
    obtain ⟨u, eu, q3⟩ := q2.opt
    obtain ⟨_, _, ev, dx, gs, h1, h2, h3⟩ := ins_at R eA ei rv
    rw [hg'] at h1
    obtain ⟨y, e1, r1⟩ := (lookup_getF h2 h3).1 u eu
    exact ⟨_, _, dx, gs, y, ev, h1, hc, hn, by rw [hx]; exact e1, q3.here eA R y r1⟩
theorem plain_ins {C dx : Addr} {gs : List (Str × V)} : Plain (.ins C dx gs) := ⟨(fun _ z => by cases z), (fun _ _ z => by cases z)⟩
theorem js_fld {o value : Expr} {f g : SE} {c : Nat} {nm : List Nat} {x : Str} {pos pos' : Pos} (ho : JE X T o f) (hv : JE X T value g) (hc : Cls X.K (T.cls c)) (hn : NoAttr X.K (T.cls c) x) (hx : x = ⟨nm.toArray⟩ := by decide)
    (hs : swapsWith value (some (.Attribute o x pos')) pos.line X.env = pure false := by rfl) : JS X T (.Assign [.Attribute o x pos'] value pos) (Ev.sFld c nm f g) :=
  PS.weak (ps_fld ho hv hs) fun Dn σ H h => by
    obtain ⟨M, B, L, ρ, p, h⟩ := h
    refine ⟨M, B, L, ρ, p, (post.st h).mono fun z L1 M1 eA1 R1 x1 q1 v rv => ?_⟩
    refine ⟨M1, B, L1, ρ, p.next eA1 R1 x1, (post.st q1).mono fun w L2 M2 eA2 R2 x2 q2 u ru => ?_⟩
    obtain ⟨i, ei, q3⟩ := post.opt1 (post.st q2)
    obtain ⟨n, c', fs⟩ := i
    have q4 := q3.here eA2 R2
    obtain ⟨hg, q5⟩ : (decide (c' = c ∧ B.length ≤ n ∧ fs.length < 1000)) = true ∧ postS X.K T M2 B (.next ρ (L2.set (n - B.length) (.ins c (putFs nm z fs)))) Dn := by
      cases e : decide (c' = c ∧ B.length ≤ n ∧ fs.length < 1000) with
      | true => 
        refine ⟨rfl, ?_⟩
        unfold guardR Res.st at q4
        dsimp only at q4
        rw [e] at q4
        exact q4
      | false =>
        unfold guardR Res.st at q4
        dsimp only at q4
        rw [e] at q4
        exact q4.elim
    have hg := of_decide_eq_true hg
    obtain ⟨rfl, hB, hl⟩ := hg
    obtain ⟨rfl, e0, rfl, dx, gs, h1, h2, h3⟩ := ins_at R2 eA2 ei ru
    have hlen : gs.length < 1000 := by
      have := congrArg List.length h2
      rw [List.length_map, List.length_map] at this
      omega
    refine ⟨_, _, dx, gs, rfl, h1, hc, hn, hlen, ?_⟩
    have pp := place_put (o' := .ins c' (putFs nm z fs)) (h' := .ins (T.cls c') dx (putF x v gs)) R2 e0 rfl rfl plain_ins (fun M' em eS eA' eH e => by
      have rz : RW X.K T M' z v := (rv.ext R1 x2).ext R2 e
      have h3' := h3.ext R2 e
      have := putF_putFs (f := nm) rz h2 h3'
      rw [← hx] at this
      exact ⟨dx, _, by rw [eH]; exact upd_same, this.1, this.2⟩)
    have pt2 := (p.next eA1 R1 x1).next eA2 R2 x2
    refine q5 _ σ ?_ pp.1 pp.2 (pt2.rs.ext R2 pp.2)
    show M2.A.set n _ = _
    rw [eA2, List.set_append_right _ _ hB]
end
end Ev

set_option Elab.async false
set_option linter.all false
set_option maxRecDepth 100000
set_option maxHeartbeats 1000000
set_option autoImplicit false
/-! EvI2: methods and making. -/
namespace Ev
open PySem PySem.Spec PyProof.Rows L2
section
variable {X : Cx} {T : Tb} {CX : CXT} {k : Nat} {f C : Addr} {fd : FuncData} {ps : List Str} {sp : Sp} {E : XK} {m x : Str} {o e : Expr} {es : List Expr} {ta : TE} {t : TA} {apos pos p : Pos} {pl : Sem Bool}
theorem pe_methG (he : PE X o ta) (c : Cls X.K C) (hm : Meth X.K C m f) (F : FnG X.prog X.w X.K X.mg X.base CX k f fd ps sp) (hgu : X.A.guards = some []) (hr : Room k X.A) (hb : Binds X.K fd ps []) (hx : Passes CX X E) (ha : PA X (e :: es) t)
    (hst : starEach (e :: es) X.env = (false, eval e X.env) :: starEach es X.env) (hpl : (backTo pos (starEach es X.env)).any (·.1) = false)
    (ht : eval (.Call (.Attribute o m apos) (e :: es) [] pos) X.env = (do
      let ov ← eval o X.env
      standAt apos.atName
      let (f, first) ← holding [ov] (getMethod ov m pl)
      callWith pos f first (backTo pos (starEach (e :: es) X.env)) (backToKw pos (keywordEach [] X.env)))) :
    PE X (.Call (.Attribute o m apos) (e :: es) [] pos) (fun σ H Q => ta σ H fun x H1 => ∃ a dx fs, x = .ref a ∧ H1 a = some (.ins C dx fs) ∧ fs.lookup m = none ∧ t σ H1 fun vs H2 => sp (x :: vs) H2 Q E) := by
  refine ⟨fun pins s σ H Q I h => ?_⟩
  refine PySem.W.methodCall_KW (pl := pl) (thn (he.run pins s σ H _ I h) fun u s1 ⟨x, H1, I1, rx, a, dx, fs, ex, ea, l, q⟩ => ?_) ht
  subst ex
  obtain rfl : u = Value.ref a := rx
  refine getmeth_ok I1 ea c hm l ?_
  refine PySem.W.callWith_K (first := [.ref a]) (h₀ := X.base) I.ok.mod.kin hm.kp (thn (ha.run pos pins s1 σ H1 _ I1 q) fun us s2 ⟨vs, H2, I2, r, q2⟩ => ⟨I2.kIn, ?_⟩) hst hpl
  have rr : Vals (V.ref a :: vs) (Value.ref a :: us) := .cons rfl r
  have ll : ((Value.ref a :: us) ++ ([] : List Value)).length = ps.length := by rw [List.append_nil, ← rr.length]; exact F.ln _ _ _ _ q2
  have b := hb s2 (Value.ref a :: us) I2.kIn ll
  rw [List.append_nil] at b
  exact F.call hgu hr hx I2 b rr q2
theorem pe_methG0 (he : PE X o ta) (c : Cls X.K C) (hm : Meth X.K C m f) (F : FnG X.prog X.w X.K X.mg X.base CX k f fd ps sp) (hgu : X.A.guards = some []) (hr : Room k X.A) (hb : Binds X.K fd ps []) (hx : Passes CX X E)
    (ht : eval (.Call (.Attribute o m apos) [] [] pos) X.env = (do
      let ov ← eval o X.env
      standAt apos.atName
      let (f, first) ← holding [ov] (getMethod ov m pl)
      callWith pos f first (backTo pos (starEach [] X.env)) (backToKw pos (keywordEach [] X.env)))) :
    PE X (.Call (.Attribute o m apos) [] [] pos) (fun σ H Q => ta σ H fun x H1 => ∃ a dx fs, x = .ref a ∧ H1 a = some (.ins C dx fs) ∧ fs.lookup m = none ∧ sp [x] H1 Q E) := by
  refine ⟨fun pins s σ H Q I h => ?_⟩
  refine PySem.W.methodCall_KW (pl := pl) (thn (he.run pins s σ H _ I h) fun u s1 ⟨x, H1, I1, rx, a, dx, fs, ex, ea, l, q⟩ => ?_) ht
  subst ex
  obtain rfl : u = Value.ref a := rx
  refine getmeth_ok I1 ea c hm l ?_
  refine PySem.W.callWith_K0 (first := [.ref a]) I1.kIn hm.kp ?_
  have rr : Vals [V.ref a] [Value.ref a] := .cons rfl .nil
  have ll : ([Value.ref a] ++ ([] : List Value)).length = ps.length := by rw [List.append_nil, ← rr.length]; exact F.ln _ _ _ _ q
  have b := hb s1 [Value.ref a] I1.kIn ll
  rw [List.append_nil] at b
  exact F.call hgu hr hx I1 b rr q
theorem run_makeG {pins : List (Addr × Obj)} {σ : L2.St} {H : Hp} {s : Shared} {Q : VK} {us : List Value} {vs : List V} (M : Mk X.K C f) (F : FnG X.prog X.w X.K X.mg X.base CX k f fd ps sp) (hgu : X.A.guards = some []) (hr : Room (k + 1) X.A) (hb : Binds X.K fd ps [])
    (hx : Passes CX X E) (I : Inv X pins σ H s) (r : Vals vs us)
    (h : ∀ x dx, H x = none → H dx = none → dx ≠ x → sp (.ref x :: vs) (upd (upd H dx (.own x)) x (.ins C dx [])) (fun v H2 => v = .non ∧ Q (.ref x) H2) E) :
    wpAny (model X.prog X.w) X.A (PySem.call (.ref C) us) (EP X pins σ Q) X.xe s := by
  have hq := h (s.heap.objs.size + 1) s.heap.objs.size (I.hok.fresh (Nat.le_succ _)) (I.hok.fresh (Nat.le_refl _)) (Nat.ne_of_lt (Nat.lt_succ_self _))
  have I2 := Inv.made (C := C) I
  have r2 : Vals (V.ref (s.heap.objs.size + 1) :: vs) (Value.ref (s.heap.objs.size + 1) :: us) := .cons rfl r
  have hl : ((Value.ref (s.heap.objs.size + 1) :: us) ++ ([] : List Value)).length = ps.length := by rw [List.append_nil, ← r2.length]; exact F.ln _ _ _ _ hq
  have b := hb _ (Value.ref (s.heap.objs.size + 1) :: us) I2.kIn hl
  rw [List.append_nil] at b
  refine wpAny_call (make_map (f := f) I.kIn M.makes M.init (beq_iff_eq.mp M.fn) (codeAny_mono (F.go _ X.stack _ _ ⟨Value.ref (s.heap.objs.size + 1) :: us, []⟩ (Value.ref (s.heap.objs.size + 1) :: us) _ _ E hgu (hr.make C us [])
    (I2.env0.make C us []) b r2 hq) fun r s' hq' => ?_))
  cases r with
  | error e => exact hx pins σ _ _ e s' I2 hq'
  | ok fl =>
    cases fl with
    | ret u =>
      obtain ⟨v, H', I3, rv, ev, q3⟩ := I2.after hq'
      subst ev
      exact ⟨rv, ⟨V.ref (s.heap.objs.size + 1), H', I3, rfl, q3⟩⟩
    | next => exact False.elim hq'
    | brk => exact False.elim hq'
    | cont => exact False.elim hq'
theorem pe_makeG (M : Mk X.K C f) (F : FnG X.prog X.w X.K X.mg X.base CX k f fd ps sp) (hgu : X.A.guards = some []) (hr : Room (k + 1) X.A) (hg : Gl X x) (hm : X.mg x = some (.ref C)) (hb : Binds X.K fd ps []) (hx : Passes CX X E)
    (ha : PA X (e :: es) t) (hdb : (x == ("__debug__" : Str)) = false) (he : starEach (e :: es) X.env = (false, eval e X.env) :: starEach es X.env) (hpl : (backTo pos (starEach es X.env)).any (·.1) = false) :
    PE X (.Call (.Name x p) (e :: es) [] pos) (fun σ H Q => t σ H fun vs H1 => ∀ x dx, H1 x = none → H1 dx = none → dx ≠ x → sp (.ref x :: vs) (upd (upd H1 dx (.own x)) x (.ins C dx [])) (fun v H2 => v = .non ∧ Q (.ref x) H2) E) := by
  refine ⟨fun pins s σ H Q I h => ?_⟩
  refine wpAny_Call_Name_kw (ld_glob I hg hm ?_ hdb)
  refine PySem.W.callWith_K (h₀ := X.base) I.ok.mod.kin M.kp (thn (ha.run pos pins s σ H _ I h) fun us s1 ⟨vs, H1, I1, r, q⟩ => ⟨I1.kIn, ?_⟩) he hpl
  exact run_makeG M F hgu hr hb hx I1 r q
end
section
variable {X : Cx} {T : Tb} {k : Nat} {f : Addr} {fd : FuncData} {ps : List Str} {m x : Str} {o e : Expr} {es : List Expr} {apos pos p : Pos} {pl : Sem Bool} {c np : Nat} {nm : List Nat} {F : Fn} {fo : SE} {a : SA}
theorem je_meth (ho : JE X T o fo) (hc : Cls X.K (T.cls c)) (hm : Meth X.K (T.cls c) m f) (G : FnG X.prog X.w X.K X.mg X.base CX0 k f fd ps (spOf X.K T np F)) (hgu : X.A.guards = some []) (hr : Room k X.A) (hb : Binds X.K fd ps []) (ha : JA X T (e :: es) a) (hx : m = ⟨nm.toArray⟩ := by decide)
    (hst : starEach (e :: es) X.env = (false, eval e X.env) :: starEach es X.env := by rfl) (hpl : (backTo pos (starEach es X.env)).any (·.1) = false := by rfl)
    (ht : eval (.Call (.Attribute o m apos) (e :: es) [] pos) X.env = (do
      let ov ← eval o X.env
      standAt apos.atName
      let (f, first) ← holding [ov] (getMethod ov m pl)
      callWith pos f first (backTo pos (starEach (e :: es) X.env)) (backToKw pos (keywordEach [] X.env))) := by rfl) : JE X T (.Call (.Attribute o m apos) (e :: es) [] pos) (eMeth c nm np F fo a) :=
  PE.weak (pe_methG ho hc hm G hgu hr hb pass0 ha hst hpl ht) fun σ H Q h => by
    obtain ⟨M, B, L, ρ, p, h⟩ := h
    refine ⟨M, B, L, ρ, p, (post.bind h).mono fun w L1 M1 eA R ext q v rv => ?_⟩
    obtain ⟨⟨n, c', fs⟩, ei, q1⟩ := q.opt
    obtain ⟨hg, q2⟩ := q1.guard
    rw [Bool.and_eq_true] at hg
    have hg' : c' = c := of_decide_eq_true hg.1
    obtain ⟨ew, _, ev, dx, gs, h1, h2, h3⟩ := ins_at R eA ei rv
    rw [hg'] at h1
    refine ⟨_, dx, gs, ev, h1, by rw [hx]; exact (lookup_getF h2 h3).2 (Option.isNone_iff_eq_none.mp hg.2), M1, B, L1, ρ, p.next eA R ext, (post.bind q2).mono fun ws L2 M2 eA2 R2 x2 q3 vs rvs => ?_⟩
    obtain ⟨hl, q4⟩ := q3.guard
    have hl : ws.length + 1 = np := of_decide_eq_true hl
    exact ⟨by show vs.length + 1 = np; rw [← rvs.length]; exact hl, M2, B, L2, w :: ws, rfl, eA2, R2, ⟨v, vs, rfl, rv.ext R x2, rvs⟩, q4⟩
theorem je_meth0 (ho : JE X T o fo) (hc : Cls X.K (T.cls c)) (hm : Meth X.K (T.cls c) m f) (G : FnG X.prog X.w X.K X.mg X.base CX0 k f fd ps (spOf X.K T 1 F)) (hgu : X.A.guards = some []) (hr : Room k X.A) (hb : Binds X.K fd ps []) (hx : m = ⟨nm.toArray⟩ := by decide)
    (ht : eval (.Call (.Attribute o m apos) [] [] pos) X.env = (do
      let ov ← eval o X.env
      standAt apos.atName
      let (f, first) ← holding [ov] (getMethod ov m pl)
      callWith pos f first (backTo pos (starEach [] X.env)) (backToKw pos (keywordEach [] X.env))) := by rfl) : JE X T (.Call (.Attribute o m apos) [] [] pos) (eMeth c nm 1 F fo aNil) :=
  PE.weak (pe_methG0 ho hc hm G hgu hr hb pass0 ht) fun σ H Q h => by
    obtain ⟨M, B, L, ρ, p, h⟩ := h
    refine ⟨M, B, L, ρ, p, (post.bind h).mono fun w L1 M1 eA R ext q v rv => ?_⟩
    obtain ⟨⟨n, c', fs⟩, ei, q1⟩ := q.opt
    obtain ⟨hg, q2⟩ := q1.guard
    rw [Bool.and_eq_true] at hg
    have hg' : c' = c := of_decide_eq_true hg.1
    obtain ⟨ew, _, ev, dx, gs, h1, h2, h3⟩ := ins_at R eA ei rv
    rw [hg'] at h1
    exact ⟨_, dx, gs, ev, h1, by rw [hx]; exact (lookup_getF h2 h3).2 (Option.isNone_iff_eq_none.mp hg.2), rfl, M1, B, L1, [w], rfl, eA, R, ⟨v, [], rfl, rv, rfl⟩, q2⟩
theorem je_make (hM : Mk X.K (T.cls c) f) (G : FnG X.prog X.w X.K X.mg X.base CX0 k f fd ps (spOf X.K T np F)) (hgu : X.A.guards = some []) (hr : Room (k + 1) X.A) (hm : X.mg x = some (.ref (T.cls c))) (hb : Binds X.K fd ps []) (ha : JA X T (e :: es) a) (hg : Gl X x := by rfl)
    (hdb : (x == ("__debug__" : Str)) = false := by decide) (he : starEach (e :: es) X.env = (false, eval e X.env) :: starEach es X.env := by rfl) (hpl : (backTo pos (starEach es X.env)).any (·.1) = false := by rfl) : JE X T (.Call (.Name x p) (e :: es) [] pos) (eMake c np F a) :=
  PE.weak (pe_makeG hM G hgu hr hg hm hb pass0 ha hdb he hpl) fun σ H Q h => by
    obtain ⟨M, B, L, ρ, p, h⟩ := h
    refine ⟨M, B, L, ρ, p, (post.bind h).mono fun ws L1 M1 eA R ext q vs rvs y dx hy hdx hne => ?_⟩
    obtain ⟨hl, q1⟩ := q.guard
    have hl : ws.length + 1 = np := of_decide_eq_true hl
    have g1 := garb (o := .own y) R hdx
    have hy' : ({ M1 with H := upd M1.H dx (.own y) } : Mem).H y = none := (upd_ne (fun z : y = dx => hne z.symm)).trans hy
    have R2 := more_rep (p := y) (h := .ins (T.cls c) dx []) (o := .ins c []) (S := M1.S) g1.1 (.inl hy') (fun a ha => ⟨ha, fun z => by
      obtain ⟨⟨u, h1, _⟩, _⟩ := R.sc a ha
      rw [z, hy] at h1
      cases h1⟩) ⟨dx, [], upd_same, rfl, rfl⟩
    have x2 := more_ext (p := y) (h := .ins (T.cls c) dx []) (o := .ins c []) (Ext0.refl { M1 with H := upd M1.H dx (.own y) }) hy' (fun _ _ => rfl) g1.1
    have x3 := g1.2.trans x2
    have lA : M1.A.length = B.length + L1.length := by rw [eA, List.length_append]
    have eA2 : (({ M1 with H := upd M1.H dx (.own y) } : Mem).more y (.ins (T.cls c) dx []) (.ins c []) M1.S).A = B ++ (L1 ++ [.ins c []]) := by
      show M1.A ++ [Ob.ins c []] = _
      rw [eA, List.append_assoc]
    have m0 : (({ M1 with H := upd M1.H dx (.own y) } : Mem).more y (.ins (T.cls c) dx []) (.ins c []) M1.S).m (B.length + L1.length) = y := by
      show (if B.length + L1.length = M1.A.length then y else _) = y
      rw [if_pos lA.symm]
    refine ⟨by show vs.length + 1 = np; rw [← rvs.length]; exact hl, _, B, L1 ++ [.ins c []], .ref (B.length + L1.length) :: ws, rfl, eA2, R2, ⟨.ref y, vs, rfl, ⟨?_, by rw [m0]⟩, rvs.ext R x3⟩, ?_⟩
    · rw [eA2, List.length_append, List.length_append]
      show _ < _ + (_ + 1)
      omega
    · refine (post.bind (post.later q1 x3)).mono fun z L2 M3 eA3 R3 x4 q2 v rv => ?_
      obtain ⟨hz, q3⟩ := q2.guard
      have ez : z = .d .non := by
        unfold nonW at hz
        split at hz
        · rfl
        · cases hz
      subst ez
      refine ⟨rv, q3.here eA3 R3 (.ref y) ⟨?_, ?_⟩⟩
      · refine Nat.lt_of_lt_of_le ?_ x4.len
        rw [eA2, List.length_append, List.length_append]
        show _ < _ + (_ + 1)
        omega
      · rw [x4.same _ (by
          rw [eA2, List.length_append, List.length_append]
          show _ < _ + (_ + 1)
          omega), m0]
end
end Ev

set_option Elab.async false
set_option linter.all false
set_option maxRecDepth 100000
set_option maxHeartbeats 1000000
set_option autoImplicit false
/-! EvZ: zip of two lists, of two tuples. -/
namespace Ev
open PySem PySem.Spec PyProof.Rows L2
def zipD : D → D → Option (List D)
  | .lst xs, .lst ys => if (xs.zip ys).all (fun p => !rowy [p.1, p.2]) = true then some ((xs.zip ys).map fun p => .tup [p.1, p.2]) else none
  | .tup xs, .tup ys => if (xs.zip ys).all (fun p => !rowy [p.1, p.2]) = true then some ((xs.zip ys).map fun p => .tup [p.1, p.2]) else none
  | _, _ => none
def zipW : List W → Option (List D)
  | [.d p, .d q] => zipD p q
  | _ => none
def iZip (a : SA) : SI := fun B ρ L => (a B ρ L).bind fun ws L1 => ofOpt (zipW ws) L1
section
variable {X : Cx} {T : Tb} {K : PySem.W.Frag} {B : Hs} {M0 : Mem}
theorem wk_zip {J : It} {xs ys : List D} {us vs : List V} (nr : (xs.zip ys).all (fun p => !rowy [p.1, p.2]) = true) (R0 : Rep K T M0) (ru : RVs K T M0 xs us) (rv : RVs K T M0 ys vs)
    (go : ∀ H i x y, At K T B M0 H → us[i]? = some x → vs[i]? = some y → J.go i H) (stop : ∀ H i, At K T B M0 H → us.length ≤ i ∨ vs.length ≤ i → J.stop i H)
    (yld : ∀ H i v H', At K T B M0 H → J.yld i H v H' → ∃ t x y, v = .ref t ∧ H t = none ∧ H' = upd H t (.tup [x, y]) ∧ us[i]? = some x ∧ vs[i]? = some y) :
    Wk K T J ((xs.zip ys).map fun p => .tup [p.1, p.2]) B M0 := by
  have ln : ((xs.zip ys).map fun p => D.tup [p.1, p.2]).length = min us.length vs.length := by rw [List.length_map, List.length_zip, ru.length, rv.length]
  refine ⟨fun i H v H' => ∃ t x y, v = .ref t ∧ H t = none ∧ H' = upd H t (.tup [x, y]) ∧ us[i]? = some x ∧ vs[i]? = some y, ⟨fun i H hi g => ?_, fun H g => ?_, fun i H v H' hi g y => yld H i v H' g y⟩, fun i v H' M L' x y eA R e hx => ?_⟩
  · rw [ln] at hi
    exact go H i _ _ g (List.getElem?_eq_getElem (by omega)) (List.getElem?_eq_getElem (by omega))
  · rw [ln]
    exact stop H _ g (by omega)
  · obtain ⟨t, x1, y1, rfl, ht, rfl, h1, h2⟩ := y
    rw [List.getElem?_map] at hx
    cases hz : (xs.zip ys)[i]? with
    | none => rw [hz] at hx; cases hx
    | some p =>
      rw [hz] at hx
      cases hx
      obtain ⟨z1, z2⟩ := p
      have nr' : rowy [z1, z2] = false := by
        have := List.all_eq_true.mp nr _ (List.mem_of_getElem? hz)
        rw [Bool.not_eq_true'] at this
        exact this
      have hz := List.getElem?_zip_eq_some.mp hz
      have g := garb (o := .tup [x1, y1]) R ht
      obtain ⟨u1, e1, r1⟩ := ru.get hz.1
      obtain ⟨u2, e2, r2⟩ := rv.get hz.2
      rw [h1] at e1
      rw [h2] at e2
      cases e1
      cases e2
      refine ⟨{ M with H := upd M.H t (.tup [x1, y1]) }, rfl, rfl, g.1, g.2, t, [x1, y1], rfl, ⟨.inl (.inl upd_same), fun z => by rw [nr'] at z; cases z⟩, x1, [y1], rfl, RV.ext R g.2 _ _ (RV.ext0 R0 e _ _ r1), y1, [], rfl, RV.ext R g.2 _ _ (RV.ext0 R0 e _ _ r2), rfl⟩
theorem sq_l {a : Addr} {us : List V} {H : Hp} (s : Sep M0 a) (l : M0.H a = some (.lst us)) (g : At K T B M0 H) : SqL K H a us := by
  obtain ⟨M, L', rfl, _, _, e⟩ := g
  exact .inl (.inl (e.keep _ _ l s))
theorem sq_t {a : Addr} {us : List V} {H : Hp} (R0 : Rep K T M0) (l : SqT K M0.H a us) (g : At K T B M0 H) : SqT K H a us := by
  obtain ⟨M, L', rfl, _, _, e⟩ := g
  exact e.sqT R0 l
theorem ji_zip {e e2 : Expr} {f : SA} {p pos tpos : Pos} {elts : List Expr} {kk : Nat} (hm : X.mg "zip" = none) (ha : JA X T [e, e2] f) (hg : Gl X "zip" := by rfl)
    (hs : starEach [e, e2] X.env = (false, eval e X.env) :: starEach [e2] X.env := by rfl) (hpl : (backTo pos (starEach [e2] X.env)).any (·.1) = false := by rfl) :
    JI X T (.Tuple elts kk tpos) (.Call (.Name "zip" p) [e, e2] [] pos) (Ev.iZip f) := by
  refine PI.weak (RZ.pi_zipA hg hm ha hs hpl) fun σ H R h => ?_
  obtain ⟨M, B, L, ρ, p, h⟩ := h
  refine ⟨M, B, L, ρ, p, (post.bind h).mono fun ws L1 M1 eA R1 x q vs rvs => ?_⟩
  obtain ⟨zs, ez, q⟩ := post.opt1 q
  unfold zipW at ez
  split at ez
  · rename_i d1 d2
    obtain ⟨v1, r1, rfl, h1, v2, r2, rfl, h2, rfl⟩ := rvs
    have h1 : RV X.K T M1 d1 v1 := h1
    have h2 : RV X.K T M1 d2 v2 := h2
    unfold zipD at ez
    split at ez
    · rename_i xs ys
      split at ez
      rotate_left
      · cases ez
      rename_i nr
      cases ez
      obtain ⟨a, us, rfl, sa, la, ra⟩ := h1
      obtain ⟨b, ts, rfl, sb, lb, rb⟩ := h2
      refine ⟨a, b, us, ts, rfl, .inl ⟨.inl (.inl la), .inl (.inl lb), q.here eA R1 _ (wk_zip nr R1 ra rb (fun H i x y g hx hy => ?_) (fun H i g hh => ?_) (fun H i v H' g y => ?_))⟩⟩
      · exact ⟨us, ts, x, y, sq_l sa la g, sq_l sb lb g, hx, hy⟩
      · exact ⟨us, ts, sq_l sa la g, sq_l sb lb g, hh⟩
      · obtain ⟨t, x, y, e1, e2, e3, f1, f2⟩ := y
        exact ⟨t, x, y, e1, e2, e3, f1 us (sq_l sa la g), f2 ts (sq_l sb lb g)⟩
    · rename_i xs ys
      split at ez
      rotate_left
      · cases ez
      rename_i nr
      cases ez
      obtain ⟨a, us, rfl, la, ra⟩ := h1
      obtain ⟨b, ts, rfl, lb, rb⟩ := h2
      have la := la.1
      have lb := lb.1
      refine ⟨a, b, us, ts, rfl, .inr ⟨la, lb, q.here eA R1 _ (wk_zip nr R1 ra rb (fun H i x y g hx hy => ?_) (fun H i g hh => ?_) (fun H i v H' g y => ?_))⟩⟩
      · exact ⟨us, ts, x, y, sq_t R1 la g, sq_t R1 lb g, hx, hy⟩
      · exact ⟨us, ts, sq_t R1 la g, sq_t R1 lb g, hh⟩
      · obtain ⟨t, x, y, e1, e2, e3, f1, f2⟩ := y
        exact ⟨t, x, y, e1, e2, e3, f1 us (sq_t R1 la g), f2 ts (sq_t R1 lb g)⟩
    · cases ez
  · cases ez
end
end Ev

set_option Elab.async false
set_option linter.all false
set_option maxRecDepth 100000
set_option maxHeartbeats 1000000
set_option autoImplicit false
/-! EvN: dicts with tuple keys, read. -/
namespace Ev
open PySem PySem.Spec PyProof.Rows L2
def nkGet {α : Type} (k : D) : List D → List α → Option α
  | a :: ks, y :: ys => if eqD a k = true then some y else nkGet k ks ys
  | _, _ => none
def dcnAt (B L : Hs) : W → Option (List D × List W)
  | .ref n => match look B L n with
    | some (.dcn ks ws) => some (ks, ws)
    | _ => none
  | _ => none
/-- d[k] -/
def eIxN (o i : SE) : SE := fun B ρ L => (o B ρ L).bind fun x L1 => (i B ρ L1).bind fun y L2 => (vwR B L2 y).bind fun p L2 => (ofOpt (dcnAt B L2 x) L2).bind fun kw L2 => (guardR (isNK p) L2).bind fun _ L2 => (ofOpt (nkGet p kw.1 kw.2) L2).bind fun w L2 => .ok w L2
section
variable {X : Cx} {T : Tb} {K : PySem.W.Frag} {M : Mem} {B L : Hs}
theorem nr_get {k : D} {kk : NestedKey} (hk : nk k = some kk) : ∀ {kvs : List NV} {xs : List (NestedKey × Addr × Value)} {ks : List D} {ws : List W}, Paired NR kvs xs → ks.map nk = kvs.map (fun p => some p.1) → RWs K T M ws (kvs.map (·.2.2)) →
    (∀ w, nkGet k ks ws = some w → ∃ v q, atKey xs kk = some q ∧ RW K T M w v ∧ RelV v q.2) ∧ (nkGet k ks ws = none → atKey xs kk = none)
  | _, _, [], ws, .nil, _, _ => ⟨(fun w e => by cases e), fun _ => rfl⟩
  | _, _, _ :: _, ws, .nil, e, _ => by cases e
  | _, _, [], ws, .cons _ _, e, _ => by cases e
  | _, _, d :: ks, ws, .cons (a := p) (b := q) (l₁ := ps) (l₂ := qs) h t, e, r => by
    have e1 : nk d = some p.1 := (List.cons.inj e).1
    have e2 : ks.map nk = ps.map (fun p => some p.1) := (List.cons.inj e).2
    cases ws with
    | nil => cases (show p.2.2 :: ps.map (·.2.2) = [] from r)
    | cons y ys =>
      obtain ⟨v, r1, q1, h1, h2⟩ := r
      have q1 : p.2.2 :: ps.map (·.2.2) = v :: r1 := q1
      cases q1
      have ih := nr_get hk t e2 h2
      unfold nkGet
      have d1 := eqD_dec e1 hk
      unfold atKey
      by_cases hh : p.1 = kk
      · rw [d1, decide_eq_true hh, if_pos rfl]
        have : (q :: qs).find? (fun x => decide (x.1 = kk)) = some q := by
          rw [List.find?_cons, show decide (q.1 = kk) = true from decide_eq_true (h.1.symm.trans hh)]
        rw [this]
        exact ⟨(fun w e => by cases e; exact ⟨_, _, rfl, h1, h.2.2⟩), (fun e => by cases e)⟩
      · rw [d1, decide_eq_false hh, if_neg Bool.false_ne_true]
        have : (q :: qs).find? (fun x => decide (x.1 = kk)) = qs.find? (fun x => decide (x.1 = kk)) := by
          rw [List.find?_cons, show decide (q.1 = kk) = false from decide_eq_false fun z => hh (h.1.trans z)]
        rw [this]
        exact ih
def rIxN (K : PySem.W.Frag) (T : Tb) : R2 := fun x y H Q => ∃ M p n ks ws w, M.H = H ∧ Rep K T M ∧ DV K T M p y ∧ x = .ref (M.m n) ∧ M.A[n]? = some (.dcn ks ws) ∧ isNK p = true ∧ nkGet p ks ws = some w ∧ ∀ v, RW K T M w v → Q v H
theorem ix_N (tw : T.w = X.w) (tp : T.P = X.prog) (hu : X.A.units + 10 < cLine) : IxR X (rIxN X.K T) := by
  intro value slice pins s σ H x y v u Q I rx ry h hs
  obtain ⟨M, p, n, ks, ws, w, rfl, R, d, rfl, en, hk, hw, q⟩ := h
  obtain ⟨kvs, e1, e2, e3, e4, e5⟩ := R.at_ n _ en
  rw [tw, tp] at e1
  obtain ⟨kk, k1, k2⟩ := isNK_ok hk
  have rp := dn_rv hk d
  obtain ⟨z, hd, xs, rel, dd⟩ := dn_of I e1 e2 e3 e4
  obtain rfl : v = Value.ref (M.m n) := rx
  cases p with
  | tup ys =>
    obtain ⟨a, vs, rfl, sq, rv⟩ := rp
    obtain rfl : u = Value.ref a := ry
    have ki := nest_is I (.tup ys) _ _ _ ⟨a, vs, rfl, sq, rv⟩ (show RelV (.ref a) (.ref a) from rfl) k1
    obtain ⟨v', qq, g1, g2, g3⟩ := (nr_get k1 rel e3 e5).1 w hw
    exact tail_any dd.typeIs PySem.F.slot_dict_getitem.lookup (wpAny_getItem_heap (room9 hu) ⟨ki, k2⟩ dd g1 ⟨v', M.H, I.tok _, g3, q v' g2⟩) hs
  | _ => cases hk
theorem dcn_at (eA : M.A = B ++ L) {x : W} {v : V} {kw : List D × List W} (h : dcnAt B L x = some kw) (r : RW K T M x v) : ∃ n, v = .ref (M.m n) ∧ M.A[n]? = some (.dcn kw.1 kw.2) := by
  unfold dcnAt at h
  cases x with
  | d _ => cases h
  | ref k =>
    dsimp only at h
    split at h
    · rename_i ks ws e
      cases h
      exact ⟨k, r.2, by rw [eA]; exact e⟩
    · cases h
theorem je_ixN {a b : Expr} {fa fb : SE} {pos : Pos} (tw : T.w = X.w) (tp : T.P = X.prog) (hu : X.A.units + 10 < cLine) (ha : JE X T a fa) (hb : JE X T b fb) (hs : PlainIx b := by exact fun _ _ => rfl) : JE X T (.Subscript a b pos) (eIxN fa fb) :=
  PE.weak (pe_ix (ix_N tw tp hu) ha hb hs) fun σ H Q h => by
    obtain ⟨M, B, L, ρ, p, h⟩ := h
    refine ⟨M, B, L, ρ, p, (post.bind h).mono fun w L1 M1 eA R x q v rv => ?_⟩
    refine ⟨M1, B, L1, ρ, p.next eA R x, (post.bind q).mono fun w2 L2 M2 eA2 R2 x2 q2 v2 rv2 => ?_⟩
    obtain ⟨pd, e1, d1, q3⟩ := q2.view R2 eA2 rv2
    obtain ⟨kw, e2, q4⟩ := q3.opt
    obtain ⟨hk, q5⟩ := q4.guard
    obtain ⟨w3, e3, q6⟩ := q5.opt
    obtain ⟨n, rfl, en⟩ := dcn_at eA2 e2 (rv.ext R x2)
    exact ⟨M2, pd, n, kw.1, kw.2, w3, rfl, R2, d1, rfl, en, hk, e3, q6.here eA2 R2⟩
end
end Ev

set_option Elab.async false
set_option linter.all false
set_option maxRecDepth 100000
set_option maxHeartbeats 1000000
set_option autoImplicit false
/-! EvN2: d.get(k, x) with tuple keys. -/
namespace Ev
open PySem PySem.Spec PyProof.Rows L2
def eGetN (o k x : SE) : SE := fun B ρ L => (o B ρ L).bind fun w L1 => (guardR (dcnAt B L1 w).isSome L1).bind fun _ L1 => (k B ρ L1).bind fun y L2 => (x B ρ L2).bind fun z L3 => (vwR B L3 y).bind fun p L3 => (ofOpt (dcnAt B L3 w) L3).bind fun kw L3 =>
  (guardR (isNK p) L3).bind fun _ L3 => .ok ((nkGet p kw.1 kw.2).getD z) L3
section
variable {X : Cx} {T : Tb} {K : PySem.W.Frag} {M : Mem} {B L : Hs} {o e f : Expr} {td ty tx : TE} {apos cpos : Pos}
theorem dcn_ty {pins : List (Addr × Obj)} {σ : L2.St} {s : Shared} {n : Nat} {ks : List D} {ws : List W} (tw : T.w = X.w) (tp : T.P = X.prog) (I : Inv X pins σ M.H s) (R : Rep X.K T M) (en : M.A[n]? = some (.dcn ks ws)) :
    s.TypeIs (.ref (M.m n)) "dict" ∧ (∀ b, Value.ref (M.m n) = .ref b → ∃ ob, s.heap.get? b = some ob ∧ ob.dict = none) := by
  obtain ⟨kvs, e1, e2, e3, e4, e5⟩ := R.at_ n _ en
  rw [tw, tp] at e1
  obtain ⟨z, hd, xs, rel, dd⟩ := dn_of I e1 e2 e3 e4
  refine ⟨dd.typeIs, fun b q => ?_⟩
  cases q
  obtain ⟨ob, es, ep, h1, h2, _⟩ := dd
  exact ⟨ob, h1, h2.2.1⟩
theorem pe_getN (tw : T.w = X.w) (tp : T.P = X.prog) (hu : X.A.units + 10 < cLine) (ho : PE X o td) (he : PE X e ty) (hf : PE X f tx) (m : M2 X o "get" apos e f cpos) : PE X (.Call (.Attribute o "get" apos) [e, f] [] cpos)
    (fun σ H Q => td σ H fun x H1 => (∃ M n ks ws, M.H = H1 ∧ Rep X.K T M ∧ x = .ref (M.m n) ∧ M.A[n]? = some (.dcn ks ws)) ∧ ty σ H1 fun y H2 => tx σ H2 fun z H3 =>
      ∃ M n ks ws p w3, M.H = H3 ∧ Rep X.K T M ∧ x = .ref (M.m n) ∧ M.A[n]? = some (.dcn ks ws) ∧ DV X.K T M p y ∧ isNK p = true ∧ RW X.K T M w3 z ∧ ∀ v, RW X.K T M ((nkGet p ks ws).getD w3) v → Q v H3) := by
  refine ⟨fun pins s σ H Q I h => ?_⟩
  refine wpAny_Call_method m.base m.few m.line PySem.F.plainAttrs_dict PySem.F.slot_dict_get PySem.F.type_dict_get (thn (ho.run pins s σ H _ I h) fun u s1 ⟨x, H1, I1, rx, ⟨M, n, ks, ws, eH, R, ex, en⟩, q1⟩ => ?_)
  subst ex eH
  obtain rfl : u = Value.ref (M.m n) := rx
  obtain ⟨t1, t2⟩ := dcn_ty tw tp I1 R en
  refine ⟨t1, t2, ?_⟩
  rw [m.trees]
  refine Calls.callWith_builtin rfl (Calls.evalArgs_plain (Calls.spliced_cons (thn (he.run pins s1 σ M.H _ I1 q1) fun iv s2 ⟨y, H2, I2, ry, q2⟩ =>
    Calls.spliced_cons (thn (hf.run pins s2 σ H2 _ I2 q2) fun fv s3 ⟨z, H3, I3, rz, M3, n3, ks3, ws3, p, w3, eH3, R3, ex3, en3, d3, hk, r3, q3⟩ => Calls.spliced_nil ?_))))
  subst eH3
  obtain ⟨kvs, e1, e2, e3, e4, e5⟩ := R3.at_ n3 _ en3
  rw [tw, tp] at e1
  obtain ⟨kk, k1, k2⟩ := isNK_ok hk
  have rp := dn_rv hk d3
  obtain ⟨zz, hd, xs, rel, dd⟩ := dn_of I3 e1 e2 e3 e4
  cases p with
  | tup ys =>
    obtain ⟨a, vs, rfl, sq, rv⟩ := rp
    obtain rfl : iv = Value.ref a := ry
    have ki := nest_is I3 (.tup ys) _ _ _ ⟨a, vs, rfl, sq, rv⟩ (show RelV (.ref a) (.ref a) from rfl) k1
    have em : M.m n = M3.m n3 := V.ref.inj ex3
    rw [em]
    have g := nr_get k1 rel e3 e5
    refine call_meetsIn PySem.F.slot_dict_get dd.typeIs PySem.F.entry_dict_get (PySem.F.args_dict_get_3 _ _ _) (meetsH_dict_get_default (nestedKind X.prog X.w) _ a hd fv) ⟨room9 hu, _, xs, ⟨ki, k2⟩, dd, ?_⟩
    cases hw : nkGet (.tup ys) ks3 ws3 with
    | none =>
      rw [g.2 hw]
      rw [hw] at q3
      exact ⟨z, M3.H, I3.tok _, rz, q3 z r3⟩
    | some w =>
      obtain ⟨v', qq, g1, g2, g3⟩ := g.1 w hw
      rw [g1]
      rw [hw] at q3
      exact ⟨v', M3.H, I3.tok _, g3, q3 v' g2⟩
  | _ => cases hk
theorem je_getN {fo fe ff : SE} (tw : T.w = X.w) (tp : T.P = X.prog) (hu : X.A.units + 10 < cLine) (ho : JE X T o fo) (he : JE X T e fe) (hf : JE X T f ff) (m : M2 X o "get" apos e f cpos := by exact ⟨rfl, rfl, rfl, rfl⟩) : JE X T (.Call (.Attribute o "get" apos) [e, f] [] cpos) (eGetN fo fe ff) :=
  PE.weak (pe_getN tw tp hu ho he hf m) fun σ H Q h => by
    obtain ⟨M, B, L, ρ, p, h⟩ := h
    refine ⟨M, B, L, ρ, p, (post.bind h).mono fun w L1 M1 eA R x q v rv => ?_⟩
    obtain ⟨hg, q0⟩ := q.guard
    obtain ⟨kw0, e0⟩ := Option.isSome_iff_exists.mp hg
    obtain ⟨n0, ev0, en0⟩ := dcn_at eA e0 rv
    refine ⟨⟨M1, n0, kw0.1, kw0.2, rfl, R, ev0, en0⟩, M1, B, L1, ρ, p.next eA R x, (post.bind q0).mono fun w2 L2 M2 eA2 R2 x2 q2 v2 rv2 => ?_⟩
    refine ⟨M2, B, L2, ρ, (p.next eA R x).next eA2 R2 x2, (post.bind q2).mono fun w3 L3 M3 eA3 R3 x3 q3 v3 rv3 => ?_⟩
    obtain ⟨pd, e1, d1, q4⟩ := q3.view R3 eA3 (rv2.ext R2 x3)
    obtain ⟨kw, e2, q5⟩ := q4.opt
    obtain ⟨hk, q6⟩ := q5.guard
    obtain ⟨n, ev, en⟩ := dcn_at eA3 e2 ((rv.ext R x2).ext R2 x3)
    exact ⟨M3, n, kw.1, kw.2, pd, w3, rfl, R3, ev, en, d1, hk, rv3, q6.here eA3 R3⟩
end
end Ev

set_option Elab.async false
set_option linter.all false
set_option maxRecDepth 100000
set_option maxHeartbeats 1000000
set_option autoImplicit false
/-! EvSt: sorting pairs of texts. -/
namespace Ev
open PySem PySem.Spec PyProof.Rows L2 Srt SrtO
abbrev SS2 := List Nat × List Nat
def lexP (p q : SS2) : Bool := if p.1 = q.1 then decide (p.2 < q.2) else decide (p.1 < q.1)
def IsPairS (h : Heap) (v : Value) (p : SS2) : Prop := ∃ a o t u n, v = .ref a ∧ h.get? a = some o ∧ o.cls = .type "tuple" ∧ o.data = .seq #[.str ⟨p.1.toArray⟩ t, .str ⟨p.2.toArray⟩ u] n
theorem IsPairS.keeps {h h' : Heap} {v : Value} {p : SS2} (x : IsPairS h v p) (k : ∀ b o, h.get? b = some o → o.cls = .type "tuple" → h'.get? b = some o) : IsPairS h' v p := by
  obtain ⟨a, o, t, u, n, e, ho, hc, hd⟩ := x
  exact ⟨a, o, t, u, n, e, k _ _ ho hc, hc, hd⟩
theorem ltN_irr (s : List Nat) : ¬ s < s := List.lt_irrefl s
theorem swo_lexP (k : Value → SS2) : Swo fun v u => lexP (k v) (k u) := by
  refine ⟨fun x y h => ?_, fun x y z h1 h2 => ?_⟩
  · unfold lexP at h ⊢
    by_cases e : (k x).1 = (k y).1
    · rw [if_pos e] at h
      rw [if_pos e.symm]
      exact decide_eq_false fun z => List.lt_asymm (of_decide_eq_true h) z
    · rw [if_neg e] at h
      rw [if_neg fun z => e z.symm]
      exact decide_eq_false fun z => List.lt_asymm (of_decide_eq_true h) z
  · unfold lexP at h1 h2 ⊢
    by_cases e : (k y).1 = (k x).1
    · rw [if_pos e] at h1
      by_cases f : (k z).1 = (k y).1
      · rw [if_pos f] at h2
        rw [if_pos (f.trans e)]
        refine decide_eq_false fun w => ?_
        have a := List.not_lt.mp (of_decide_eq_false h1)
        have b := List.not_lt.mp (of_decide_eq_false h2)
        exact List.not_lt.mpr (List.le_trans a b) w
      · rw [if_neg f] at h2
        rw [if_neg fun w => f (w.trans e.symm), ← e]
        exact h2
    · rw [if_neg e] at h1
      by_cases f : (k z).1 = (k y).1
      · rw [if_neg fun w => e (f.symm.trans w), f]
        exact h1
      · rw [if_neg f] at h2
        have a := List.not_lt.mp (of_decide_eq_false h1)
        have b := List.not_lt.mp (of_decide_eq_false h2)
        have c : (k x).1 ≤ (k z).1 := List.le_trans a b
        by_cases g : (k z).1 = (k x).1
        · rw [g] at b
          exact absurd (List.le_antisymm b a) e
        · rw [if_neg g]
          exact decide_eq_false fun w => List.not_lt.mpr c w
section
variable {prog : Program} {w : World} {A : Around} {s : Shared}
theorem str_beq {x y : List Nat} : ((⟨x.toArray⟩ : Str) == ⟨y.toArray⟩) = decide (x = y) := by
  by_cases q : x = y
  · rw [decide_eq_true q, q]; exact beq_self_eq_true _
  · rw [decide_eq_false q]
    refine beq_eq_false_iff_ne.mpr fun z => q ?_
    have := congrArg (fun x : Str => x.cps.toList) z
    simpa using this
theorem pair_cmpS {vs : List Value} {k : Value → SS2} (hp : ∀ v ∈ vs, IsPairS s.heap v (k v)) : Cmp prog w A s (tuples' true) (fun p => p.1 ∈ vs) (lt2 fun v u => lexP (k v) (k u)) := by
  intro p q hm hm'
  have h1 := hp _ hm
  have h2 := hp _ hm'
  show wpAny (model prog w) A (keyLt' (tuples' true) p.1 q.1) (fun r s' => s' = s ∧ r = lexP (k p.1) (k q.1)) (fun _ _ => False) s
  unfold lexP
  obtain ⟨a, o, t, u, n, e, ho, hc, hd⟩ := h1
  obtain ⟨a', o', t', u', n', e', ho', hc', hd'⟩ := h2
  generalize k p.1 = X at hd ⊢
  generalize k q.1 = Y at hd' ⊢
  obtain ⟨x, y⟩ := X
  obtain ⟨x', y'⟩ := Y
  dsimp only at hd hd' ⊢
  rw [e, e']
  refine PySem.W.kat_lt ho hd ho' hd' ?_
  show PySem.W.KatLex prog w A true (decide (2 < 2)) _ [(.str ⟨x.toArray⟩ t, .str ⟨x'.toArray⟩ t'), (.str ⟨y.toArray⟩ u, .str ⟨y'.toArray⟩ u')] 0 s
  refine PySem.W.kat_cons (SeqAt.EqAt.str_str _ t _ t' prog w _ _ ?_)
  refine PySem.W.kat_go (fun e1 => ?_) (fun e1 => ?_)
  · have ex : x = x' := by rw [str_beq] at e1; exact of_decide_eq_true e1
    refine PySem.W.kat_yes (PySem.W.kat_cons (SeqAt.EqAt.str_str _ u _ u' prog w _ _ ?_))
    refine PySem.W.kat_go (fun e2 => ?_) (fun e2 => ?_)
    · have ey : y = y' := by rw [str_beq] at e2; exact of_decide_eq_true e2
      have e3 : (if x = x' then decide (y < y') else decide (x < x')) = false := by
        rw [if_pos ex, ey]
        exact decide_eq_false (List.lt_irrefl _)
      exact PySem.W.kat_yes (PySem.W.kat_nil ⟨rfl, e3.symm⟩)
    · have e3 : (if x = x' then decide (y < y') else decide (x < x')) = decide (y < y') := if_pos ex
      refine PySem.W.kat_no (PySem.W.kat_one _ _ (PyProof.Rows.lt_str ?_))
      exact (show s = s ∧ decide (y < y') = (if x = x' then decide (y < y') else decide (x < x')) from ⟨rfl, e3.symm⟩)
  · have ex : ¬ x = x' := by rw [str_beq] at e1; exact of_decide_eq_false e1
    have e3 : (if x = x' then decide (y < y') else decide (x < x')) = decide (x < x') := if_neg ex
    exact PySem.W.kat_no (oneLt_str ⟨rfl, e3.symm⟩)
theorem firstsS {h : Heap} : ∀ {vs : List Value}, (∀ v ∈ vs, ∃ p, IsPairS h v p) → ∃ fs : List Value, PySem.W.KatTups h vs fs ∧ fs.length = vs.length ∧ ∀ f ∈ fs, ∃ x t, f = Value.str x t
  | [], _ => ⟨[], PySem.W.KatTups.nil, rfl, fun _ hm => by simp at hm⟩
  | v :: vs, hp => by
    obtain ⟨fs, h1, h2, h3⟩ := firstsS (vs := vs) fun v' hm => hp v' (List.mem_cons_of_mem _ hm)
    obtain ⟨p, a, o, t, u, n, e, ho, hc, hd⟩ := hp v (List.mem_cons_self ..)
    subst e
    refine ⟨.str ⟨p.1.toArray⟩ t :: fs, PySem.W.KatTups.cons ho hc hd rfl h1, by rw [List.length_cons, List.length_cons, h2], fun f hm => ?_⟩
    rcases List.mem_cons.mp hm with rfl | hm
    · exact ⟨_, t, rfl⟩
    · exact h3 f hm
theorem pairsS_sortable {a : Addr} {vs : List Value} {k : Value → SS2} (h0 : 0 < vs.length) (hp : ∀ v ∈ vs, IsPairS s.heap v (k v)) (ha : ∀ o, s.heap.get? a = some o → o.cls ≠ .type "tuple") : SortableO prog w A s a vs fun v u => lexP (k v) (k u) := by
  intro h' keep
  have hp' : ∀ v ∈ vs, IsPairS h' v (k v) := fun v hm => (hp v hm).keeps fun b o e c => keep b o (fun z => by subst z; exact ha o e c) e
  obtain ⟨fs, h1, h2, h3⟩ := firstsS fun v hm => ⟨_, hp' v hm⟩
  refine ⟨tuples' true, fun Q E hq => ?_, pair_cmpS hp'⟩
  refine PySem.W.kat_kind (T := .type "str") h1 (by omega) (fun f hm => ?_) (by rfl) ?_
  · obtain ⟨x, t, rfl⟩ := h3 f hm
    exact PySem.W.Looks.now
  · have e : (Value.type "str" != Value.type "tuple") = true := by first | decide +kernel | rfl | decide
    rw [e]
    exact hq
end
end Ev

set_option Elab.async false
set_option linter.all false
set_option maxRecDepth 100000
set_option maxHeartbeats 1000000
set_option autoImplicit false
/-! EvSr: sorted(x), x a thing that is walked. -/
namespace Ev
open PySem PySem.Spec PyProof.Rows L2 Srt SrtO
section
variable {prog : Program} {w : World} {A : Around} {E : Value → Shared → Prop} {s : Shared} {T : String} {r d : Addr} {n : Nat} {P : Nat → Value → Prop} {OK : Heap → Prop} {ltv : Value → Value → Bool} {Q : Value → Shared → Prop}
theorem sorted_src (O : Swo ltv) (K : PySem.W.KdlSrc prog w T r d n P OK) (hh : A.handled = none) (hok : OK s.heap) (hn : n ≤ sizeLine)
    (hS : ∀ (s1 : Shared) (a : Addr) (vs : List Value), vs.length = n → (∀ (j : Nat) (v : Value), vs[j]? = some v → P j v) → s1.heap.get? a = some (seqObj "list" vs.toArray 0) → (∀ b o, s.heap.get? b = some o → b ≠ a ∧ s1.heap.get? b = some o) → 2 ≤ n → SortableO prog w A.in1.in1 s1 a vs ltv)
    (h : ∀ (h' : Heap) (tk : Nat) (a : Addr) (vs out : List Value), vs.length = n → (∀ (j : Nat) (v : Value), vs[j]? = some v → P j v) → Srtd ltv out → Stb ltv out vs → (∀ b o, s.heap.get? b = some o → h'.get? b = some o) → s.heap.get? a = none → (∃ m, h'.get? a = some (seqObj "list" out.toArray m)) → Q (.ref a) { s with heap := h', toks := tk }) :
    wpAny (model prog w) A (PySem.call (.builtin "sorted") [.ref r]) Q E s := by
  refine Calls.call_function_entry kind_sorted plain_sorted entry_sorted (args_sorted1 _) ?_
  unfold Builtin.«sorted»
  refine wpAny_bind (m := checkCount "sorted" 1 1 _) (wpAny_pure ?_)
  refine wpAny_bind (PySem.W.kdu_collect (A := A.in1) K hh hok hn fun h' tk acc hk hacc => ?_)
  have hl : acc.toList.length = n := by rw [Array.length_toList]; exact hacc.1
  have hP : ∀ (j : Nat) (v : Value), acc.toList[j]? = some v → P j v := fun j v e => hacc.2 j v (by rw [← Array.getElem?_toList]; exact e)
  refine wpAny_bind (wpAny_newList ?_ (by rw [hl]; exact hn))
  generalize acc.toList = vs at hl hP ⊢
  have hoL : (h'.push (seqObj "list" vs.toArray 0)).get? h'.objs.size = some (seqObj "list" vs.toArray 0) := Heap.get?_push_size _ rfl
  have keep : ∀ b o, s.heap.get? b = some o → b ≠ h'.objs.size ∧ (h'.push (seqObj "list" vs.toArray 0)).get? b = some o := fun b o q =>
    ⟨Nat.ne_of_lt (Heap.lt_size (hk b o q)), Heap.get?_push_of_some _ (hk b o q)⟩
  show wpAny _ _ _ _ _ { s with heap := h'.push (seqObj "list" vs.toArray 0), toks := tk }
  refine wpAny_bind (wpAny_holding (wpAny_call_entry slot_list_sort ⟨_, hoL, rfl⟩ entry_list_sort (list_sort_ord O hoL (by rw [hl]; exact hn) (fun h2 => hS _ _ vs hl hP hoL keep (by omega)) fun out hs hb => ⟨_, rfl, ?_⟩) (args_list_sort _)))
  refine wpAny_pure ⟨_, rfl, h _ tk _ vs out hl hP hs hb (fun b o q => ?_) ?_ ?_⟩
  · rw [show ({ s with heap := h'.push (seqObj "list" vs.toArray 0), toks := tk } : Shared).heap = h'.push (seqObj "list" vs.toArray 0) from rfl, sortedHeap_old (keep b o q).1 (Heap.lt_size (keep b o q).2)]
    exact (keep b o q).2
  · cases e : s.heap.get? h'.objs.size with
    | none => rfl
    | some o => exact absurd (Heap.lt_size (hk _ _ e)) (Nat.lt_irrefl _)
  · exact sortedHeap_at hoL
end
end Ev

set_option Elab.async false
set_option linter.all false
set_option maxRecDepth 100000
set_option maxHeartbeats 1000000
set_option autoImplicit false
/-! EvSp: pairs of texts in order, by insertion. -/
namespace Ev
open SrtO
def insP (p : SS2) : List SS2 → List SS2
  | [] => [p]
  | q :: r => if lexP q p = true then q :: insP p r else p :: q :: r
def sortP : List SS2 → List SS2
  | [] => []
  | p :: r => insP p (sortP r)
theorem lexP_anti {x y : SS2} (h1 : lexP x y = false) (h2 : lexP y x = false) : x = y := by
  obtain ⟨a, b⟩ := x
  obtain ⟨c, d⟩ := y
  unfold lexP at h1 h2
  dsimp only at h1 h2
  by_cases e : a = c
  · rw [if_pos e] at h1
    rw [if_pos e.symm] at h2
    rw [e, List.le_antisymm (List.not_lt.mp (of_decide_eq_false h2)) (List.not_lt.mp (of_decide_eq_false h1))]
  · rw [if_neg e] at h1
    rw [if_neg fun z => e z.symm] at h2
    exact absurd (List.le_antisymm (List.not_lt.mp (of_decide_eq_false h2)) (List.not_lt.mp (of_decide_eq_false h1))) e
theorem swoP : Swo lexP := by
  have s := fun k => swo_lexP k
  refine ⟨fun x y h => ?_, fun x y z h1 h2 => ?_⟩
  · have := (s fun v => match v with | .none => x | _ => y).asym (.none) (.bool true) h
    exact this
  · have := (s fun v => match v with | .none => x | .bool true => y | _ => z).tr (.none) (.bool true) (.bool false) h1 h2
    exact this
theorem insP_perm (p : SS2) : ∀ l : List SS2, (insP p l).Perm (p :: l)
  | [] => List.Perm.refl _
  | q :: r => by
    unfold insP
    split
    · exact (List.Perm.cons q (insP_perm p r)).trans (List.Perm.swap p q r)
    · exact List.Perm.refl _
theorem sortP_perm : ∀ l : List SS2, (sortP l).Perm l
  | [] => List.Perm.refl _
  | p :: r => (insP_perm p (sortP r)).trans (List.Perm.cons p (sortP_perm r))
theorem insP_srtd (p : SS2) : ∀ l : List SS2, Srtd lexP l → Srtd lexP (insP p l)
  | [], _ => srtd_one p
  | q :: r, h => by
    have h' := List.pairwise_cons.mp h
    unfold insP
    split
    · rename_i c
      refine List.pairwise_cons.mpr ⟨fun y hy => ?_, insP_srtd p r h'.2⟩
      rcases List.mem_cons.mp ((insP_perm p r).mem_iff.mp hy) with rfl | hy
      · exact swoP.asym _ _ c
      · exact h'.1 y hy
    · rename_i c
      have c : lexP q p = false := by
        cases e : lexP q p
        · rfl
        · exact absurd e c
      refine List.pairwise_cons.mpr ⟨fun y hy => ?_, h⟩
      rcases List.mem_cons.mp hy with rfl | hy
      · exact c
      · exact swoP.tr _ _ _ c (h'.1 y hy)
theorem sortP_srtd : ∀ l : List SS2, Srtd lexP (sortP l)
  | [] => List.Pairwise.nil
  | p :: r => insP_srtd p _ (sortP_srtd r)
theorem srtd_uniq : ∀ {l m : List SS2}, Srtd lexP l → Srtd lexP m → l.Perm m → l = m
  | [], m, _, _, p => by rw [List.Perm.nil_eq p]
  | a :: l, [], _, _, p => by cases List.Perm.eq_nil p
  | a :: l, b :: m, h1, h2, p => by
    have g1 := List.pairwise_cons.mp h1
    have g2 := List.pairwise_cons.mp h2
    have e : a = b := by
      rcases List.mem_cons.mp (p.mem_iff.mp (List.mem_cons_self ..) : a ∈ b :: m) with e | ha
      · exact e
      · rcases List.mem_cons.mp (p.mem_iff.mpr (List.mem_cons_self ..) : b ∈ a :: l) with e | hb
        · exact e.symm
        · exact lexP_anti (g2.1 a ha) (g1.1 b hb)
    subst e
    rw [srtd_uniq g1.2 g2.2 (List.Perm.cons_inv p)]
theorem sortP_uniq {l ps : List SS2} (h : Srtd lexP l) (p : l.Perm ps) : l = sortP ps := srtd_uniq h (sortP_srtd ps) (p.trans (sortP_perm ps).symm)
end Ev

set_option Elab.async false
set_option linter.all false
set_option maxRecDepth 100000
set_option maxHeartbeats 1000000
set_option autoImplicit false
/-! EvSn: sorted(d), d a dict whose keys are pairs of texts. -/
namespace Ev
open PySem PySem.Spec PyProof.Rows L2 Srt SrtO
def pairD (p : SS2) : D := .tup [.str p.1, .str p.2]
def unD : D → Option SS2
  | .tup [.str a, .str b] => some (a, b)
  | _ => none
def unDs : List D → Option (List SS2)
  | [] => some []
  | x :: xs => match unD x, unDs xs with
    | some p, some ps => some (p :: ps)
    | _, _ => none
def eSortN (o : SE) : SE := fun B ρ L => (o B ρ L).bind fun x L1 => (ofOpt (dcnAt B L1 x) L1).bind fun kw L1 => (ofOpt (unDs kw.1) L1).bind fun ps L1 => .ok (.d (.lst ((sortP ps).map pairD))) L1
theorem unD_eq {x : D} {p : SS2} (h : unD x = some p) : x = pairD p := by
  unfold unD at h
  split at h
  · cases h; rfl
  · cases h
theorem unDs_eq : ∀ {xs : List D} {ps : List SS2}, unDs xs = some ps → xs = ps.map pairD
  | [], ps, h => by cases h; rfl
  | x :: xs, ps, h => by
    unfold unDs at h
    split at h
    · rename_i p qs e1 e2
      cases h
      rw [unD_eq e1, unDs_eq e2]
      rfl
    · cases h
theorem isPairS_fun {h : Heap} {v : Value} {p q : SS2} (x : IsPairS h v p) (y : IsPairS h v q) : p = q := by
  obtain ⟨a, o, t, u, n, e, ho, hc, hd⟩ := x
  obtain ⟨a', o', t', u', n', e', ho', hc', hd'⟩ := y
  rw [e] at e'
  cases e'
  rw [ho] at ho'
  cases ho'
  rw [hd] at hd'
  injection hd' with h1 _
  have h2 := congrArg Array.toList h1
  simp only [List.cons.injEq, Value.str.injEq] at h2
  obtain ⟨⟨h3, _⟩, ⟨h4, _⟩, _⟩ := h2
  have h3 := congrArg (fun x : Str => x.cps.toList) h3
  have h4 := congrArg (fun x : Str => x.cps.toList) h4
  simp at h3 h4
  exact Prod.ext h3 h4
open Classical in
noncomputable def keyP (h : Heap) (v : Value) : SS2 := if x : ∃ p, IsPairS h v p then Classical.choose x else ([], [])
theorem keyP_eq {h : Heap} {v : Value} {p : SS2} (x : IsPairS h v p) : keyP h v = p := by
  unfold keyP
  rw [dif_pos ⟨p, x⟩]
  exact isPairS_fun (Classical.choose_spec (⟨p, x⟩ : ∃ p, IsPairS h v p)) x
section
variable {X : Cx} {T : Tb} {K : PySem.W.Frag} {M : Mem} {B L : Hs} {pins : List (Addr × Obj)} {σ : L2.St} {s : Shared}
theorem pair_is (I : Inv X pins σ M.H s) {p : SS2} {a : Addr} (r : RV X.K T M (pairD p) (.ref a)) : IsPairS s.heap (.ref a) p := by
  obtain ⟨b, vs, e, sq, rv⟩ := r
  cases e
  obtain ⟨v1, r1, rfl, e1, v2, r2, rfl, e2, e3⟩ := rv
  obtain rfl : r2 = [] := e3
  obtain rfl : v1 = .str ⟨p.1.toArray⟩ := e1
  obtain rfl : v2 = .str ⟨p.2.toArray⟩ := e2
  obtain ⟨its, rr, ⟨o, ho, hc, n, hd⟩, _⟩ := I.tuple sq.1
  obtain ⟨u1, u2, rfl, ri, rj⟩ := vals2 rr
  obtain ⟨t1, rfl⟩ := ri
  obtain ⟨t2, rfl⟩ := rj
  exact ⟨a, o, t1, t2, n, rfl, ho, hc, hd⟩
def rSortN (K : PySem.W.Frag) (T : Tb) : List V → Hp → VK → Prop := fun xs H Q => ∃ M n ks ws ps, M.H = H ∧ Rep K T M ∧ xs = [V.ref (M.m n)] ∧ M.A[n]? = some (.dcn ks ws) ∧ unDs ks = some ps ∧ ∀ M' v, M'.A = M.A → Rep K T M' → Ext M M' → RV K T M' (.lst ((sortP ps).map pairD)) v → Q v M'.H
theorem rvs_get : ∀ {xs : List D} {vs : List V} {i : Nat} {v : V}, RVs K T M xs vs → vs[i]? = some v → ∃ d, xs[i]? = some d ∧ RV K T M d v
  | [], vs, i, v, h, e => by
    rw [show vs = [] from h] at e
    simp at e
  | x :: xs, vs, i, v, h, e => by
    obtain ⟨u, r, rfl, h1, h2⟩ := h
    cases i with
    | zero => cases e; exact ⟨x, rfl, h1⟩
    | succ i =>
      obtain ⟨d, h3, h4⟩ := rvs_get (xs := xs) (i := i) h2 e
      exact ⟨d, h3, h4⟩
theorem paired_get {α β : Type} {R : α → β → Prop} {xs : List α} {ys : List β} (h : Paired R xs ys) : ∀ {i : Nat} {y : β}, ys[i]? = some y → ∃ x, xs[i]? = some x ∧ R x y := by
  induction h with
  | nil => intro i y e; simp at e
  | cons h t ih =>
    intro i y e
    cases i with
    | zero => cases e; exact ⟨_, rfl, h⟩
    | succ i => exact ih e
theorem rvs_out {f : Value → SS2} : ∀ {out : List Value}, (∀ v ∈ out, ∃ a, v = .ref a ∧ RV K T M (pairD (f v)) (.ref a)) → RVs K T M ((out.map f).map pairD) (out.map backV)
  | [], _ => rfl
  | v :: out, h => by
    obtain ⟨a, e, r⟩ := h v List.mem_cons_self
    refine ⟨.ref a, out.map backV, by subst e; rfl, r, rvs_out fun u hu => h u (List.mem_cons_of_mem _ hu)⟩
theorem cr_sortN (tw : T.w = X.w) (tp : T.P = X.prog) (hc : X.calm = true) : CallR X (.builtin "sorted") (rSortN X.K T) := by
  intro pins s σ H xs us Q I r h
  obtain ⟨M, n, ks, ws, ps, rfl, R, rfl, en, ek, k⟩ := h
  rw [Vals.ref1 r]
  obtain ⟨kvs, e1, e2, e3, e4, e5⟩ := R.at_ n _ en
  rw [tw, tp] at e1
  obtain ⟨hz, lo, xs, rel, dd⟩ := dn_of I e1 e2 e3 e4
  obtain ⟨es, ep, raw, hsz, hes⟩ := dd.raw
  have hks := unDs_eq ek
  have lkv : kvs.length = xs.length := rel.length
  have lks : ks.length = kvs.length := by have := congrArg List.length e3; simpa using this
  -- the i-th key
  have key : ∀ (i : Nat) (v : Value), (∃ hi : i < es.size, v = es[i].key) → ∃ a p, v = .ref a ∧ ps[i]? = some p ∧ RV X.K T M (pairD p) (.ref a) := fun i v ⟨hi, e⟩ => by
    obtain ⟨y, hy, hk, _, _⟩ := hes i hi
    obtain ⟨x, hx, hr⟩ := paired_get rel hy
    have hx' : (kvs.map fun p => V.ref p.2.1)[i]? = some (V.ref x.2.1) := by rw [List.getElem?_map, hx]; rfl
    obtain ⟨d, hd, rd⟩ := rvs_get e4 hx'
    rw [hks, List.getElem?_map] at hd
    cases hp : ps[i]? with
    | none => rw [hp] at hd; cases hd
    | some p =>
      rw [hp] at hd
      cases hd
      refine ⟨x.2.1, p, ?_, rfl, rd⟩
      rw [e, hk, hr.2.1]
  have hkey : ∀ (i : Nat) (v : Value), (∃ hi : i < es.size, v = es[i].key) → ps[i]? = some (keyP s.heap v) ∧ IsPairS s.heap v (keyP s.heap v) ∧ ∃ a, v = .ref a ∧ RV X.K T M (pairD (keyP s.heap v)) (.ref a) := fun i v h => by
    obtain ⟨a, p, rfl, hp, rp⟩ := key i v h
    have hi := pair_is I rp
    rw [keyP_eq hi]
    exact ⟨hp, hi, a, rfl, rp⟩
  have hn : es.size ≤ sizeLine := by rw [hsz, ← lkv]; exact hz
  refine sorted_src (ltv := fun v u => lexP (keyP s.heap v) (keyP s.heap u)) (swo_lexP _) (PySem.KdlSrc.rawDict (es := es) (ep := ep) lo) (I.ok.hd hc) raw hn (fun s1 a vs hl hP ha keep h2 => ?_) (fun h' tk a vs out hl hP hs hb kp hna hout => ?_)
  · refine pairsS_sortable (by omega) (fun v hv => ?_) (fun o ho => ?_)
    · obtain ⟨i, hi⟩ := List.getElem?_of_mem hv
      exact (hkey i v (hP i v hi)).2.1.keeps fun b o hb _ => (keep b o hb).2
    · rw [ha] at ho
      cases ho
      exact (by decide : Value.type "list" ≠ Value.type "tuple")
  · have hmem : ∀ v ∈ out, ∃ b, v = .ref b ∧ RV X.K T M (pairD (keyP s.heap v)) (.ref b) := fun v hv => by
      obtain ⟨i, hi⟩ := List.getElem?_of_mem (hb.perm.mem_iff.mp hv)
      exact (hkey i v (hP i v hi)).2.2
    have hvs : vs.map (keyP s.heap) = ps := by
      refine List.ext_getElem? fun i => ?_
      rw [List.getElem?_map]
      cases hi : vs[i]? with
      | none =>
        have l1 := List.getElem?_eq_none_iff.mp hi
        have l2 : ps.length = ks.length := by rw [hks, List.length_map]
        exact (List.getElem?_eq_none_iff.mpr (by omega)).symm
      | some v => exact (hkey i v (hP i v hi)).1.symm
    have hout' : out.map (keyP s.heap) = sortP ps := sortP_uniq (srtd_map (lt := lexP) hs) (by rw [← hvs]; exact hb.perm.map _)
    have hne : M.H a = none := I.hok.gone hna
    obtain ⟨m, hm⟩ := hout
    have rr : RVs X.K T M ((sortP ps).map pairD) (out.map backV) := by rw [← hout']; exact rvs_out hmem
    refine ⟨.ref a, upd M.H a (.lst (out.map backV)), I.laidN kp hna hne ⟨?_, out, m, vals_back fun u hu => ?_, hm⟩, rfl, new_lst R rr k a hne⟩
    · rw [List.length_map, hb.len, hl]
      exact hn
    · obtain ⟨b, e, _⟩ := hmem u hu
      exact ⟨b, e⟩
theorem je_sortN {e : Expr} {f : SE} {p pos : Pos} (tw : T.w = X.w) (tp : T.P = X.prog) (hc : X.calm = true) (hm : X.mg "sorted" = none) (ha : JE X T e f) (hg : Gl X "sorted" := by rfl) (hv : bootBuiltins "sorted" = some (.builtin "sorted") := by decide +kernel)
    (hs : starEach [e] X.env = [(false, eval e X.env)] := by rfl) (hpl : (backTo pos (starEach ([] : List Expr) X.env)).any (·.1) = false := by rfl) : JE X T (.Call (.Name "sorted" p) [e] [] pos) (eSortN f) := by
  have hA : JA X T [e] (aCons f aNil) := ja_cons ha ja_nil (by rw [hs]; rfl)
  refine PE.weak (pe_callB (cr_sortN tw tp hc) hg hm hv hA (by decide) (by decide) (by rw [hs]; rfl) hpl) fun σ H Q h => ?_
  obtain ⟨M, B, L, ρ, p, h⟩ := h
  refine ⟨M, B, L, ρ, p, ?_⟩
  show post X.K T M B ((f B ρ L).bind fun x L1 => (aNil B ρ L1).bind fun xs L2 => Res.ok (x :: xs) L2) _
  unfold eSortN at h
  have h := post.bind h
  cases e1 : f B ρ L with
  | exc _ _ _ => rw [e1] at h; exact h.elim
  | bad => rw [e1] at h; exact h.elim
  | ok w L1 =>
    rw [e1] at h
    intro M1 eA R x vs rvs
    obtain ⟨v, r, rfl, rv, rfl⟩ := rvs
    have q := h M1 eA R x
    obtain ⟨kw, e2, q⟩ := q.opt
    obtain ⟨ps, e3, q⟩ := q.opt
    obtain ⟨n, rfl, en⟩ := dcn_at eA e2 rv
    exact ⟨M1, n, kw.1, kw.2, ps, rfl, R, rfl, en, e3, fun M' v a' R' x' rv => q M' (a'.trans eA) R' x' v rv⟩
end
end Ev

set_option Elab.async false
set_option linter.all false
set_option maxRecDepth 100000
set_option maxHeartbeats 1000000
set_option autoImplicit false
/-! EvSs: sorted(d), d a dict whose keys are texts. -/
namespace Ev
open PySem PySem.Spec PyProof.Rows L2 Srt SrtO
def ltS (p q : List Nat) : Bool := decide (p < q)
def insS (p : List Nat) : List (List Nat) → List (List Nat)
  | [] => [p]
  | q :: r => if ltS q p = true then q :: insS p r else p :: q :: r
def sortS : List (List Nat) → List (List Nat)
  | [] => []
  | p :: r => insS p (sortS r)
theorem ltS_anti {x y : List Nat} (h1 : ltS x y = false) (h2 : ltS y x = false) : x = y :=
  List.le_antisymm (List.not_lt.mp (of_decide_eq_false h2)) (List.not_lt.mp (of_decide_eq_false h1))
theorem swoS : Swo ltS := ⟨fun x y h => decide_eq_false fun z => List.lt_asymm (of_decide_eq_true h) z, fun x y z h1 h2 => decide_eq_false fun w =>
  List.not_lt.mpr (List.le_trans (List.not_lt.mp (of_decide_eq_false h1)) (List.not_lt.mp (of_decide_eq_false h2))) w⟩
theorem insS_perm (p : List Nat) : ∀ l : List (List Nat), (insS p l).Perm (p :: l)
  | [] => List.Perm.refl _
  | q :: r => by
    unfold insS
    split
    · exact (List.Perm.cons q (insS_perm p r)).trans (List.Perm.swap p q r)
    · exact List.Perm.refl _
theorem sortS_perm : ∀ l : List (List Nat), (sortS l).Perm l
  | [] => List.Perm.refl _
  | p :: r => (insS_perm p (sortS r)).trans (List.Perm.cons p (sortS_perm r))
theorem insS_srtd (p : List Nat) : ∀ l : List (List Nat), Srtd ltS l → Srtd ltS (insS p l)
  | [], _ => srtd_one p
  | q :: r, h => by
    have h' := List.pairwise_cons.mp h
    unfold insS
    split
    · rename_i c
      refine List.pairwise_cons.mpr ⟨fun y hy => ?_, insS_srtd p r h'.2⟩
      rcases List.mem_cons.mp ((insS_perm p r).mem_iff.mp hy) with rfl | hy
      · exact swoS.asym _ _ c
      · exact h'.1 y hy
    · rename_i c
      have c : ltS q p = false := by
        cases e : ltS q p
        · rfl
        · exact absurd e c
      refine List.pairwise_cons.mpr ⟨fun y hy => ?_, h⟩
      rcases List.mem_cons.mp hy with rfl | hy
      · exact c
      · exact swoS.tr _ _ _ c (h'.1 y hy)
theorem sortS_srtd : ∀ l : List (List Nat), Srtd ltS (sortS l)
  | [] => List.Pairwise.nil
  | p :: r => insS_srtd p _ (sortS_srtd r)
theorem srtdS_uniq : ∀ {l m : List (List Nat)}, Srtd ltS l → Srtd ltS m → l.Perm m → l = m
  | [], m, _, _, p => by rw [List.Perm.nil_eq p]
  | a :: l, [], _, _, p => by cases List.Perm.eq_nil p
  | a :: l, b :: m, h1, h2, p => by
    have g1 := List.pairwise_cons.mp h1
    have g2 := List.pairwise_cons.mp h2
    have e : a = b := by
      rcases List.mem_cons.mp (p.mem_iff.mp (List.mem_cons_self ..) : a ∈ b :: m) with e | ha
      · exact e
      · rcases List.mem_cons.mp (p.mem_iff.mpr (List.mem_cons_self ..) : b ∈ a :: l) with e | hb
        · exact e.symm
        · exact ltS_anti (g2.1 a ha) (g1.1 b hb)
    subst e
    rw [srtdS_uniq g1.2 g2.2 (List.Perm.cons_inv p)]
theorem sortS_uniq {l ps : List (List Nat)} (h : Srtd ltS l) (p : l.Perm ps) : l = sortS ps := srtdS_uniq h (sortS_srtd ps) (p.trans (sortS_perm ps).symm)
def sv (v : Value) : List Nat := (strOf v).cps.toList
theorem swo_sv : Swo fun v u => ltS (sv v) (sv u) := ⟨fun x y h => swoS.asym _ _ h, fun x y z h1 h2 => swoS.tr _ _ _ h1 h2⟩
section
variable {prog : Program} {w : World} {A : Around} {s : Shared}
theorem str_cmpS {vs : List Value} (hp : ∀ v ∈ vs, ∃ x t, v = Value.str x t) : Cmp prog w A s oneType' (fun p => p.1 ∈ vs) (lt2 fun v u => ltS (sv v) (sv u)) := by
  intro p q hm hm'
  obtain ⟨a, t, e⟩ := hp _ hm
  obtain ⟨b, u, e'⟩ := hp _ hm'
  show wpAny (model prog w) A (keyLt' oneType' p.1 q.1) (fun r s' => s' = s ∧ r = ltS (sv p.1) (sv q.1)) (fun _ _ => False) s
  rw [e, e', keyLt'_oneType]
  exact oneLt_str ⟨rfl, rfl⟩
theorem strs_sortable {a : Addr} {vs : List Value} (hp : ∀ v ∈ vs, ∃ x t, v = Value.str x t) (h2 : 2 ≤ vs.length) : SortableO prog w A s a vs fun v u => ltS (sv v) (sv u) := by
  intro h' _
  refine ⟨oneType', fun Q E hq => ?_, str_cmpS hp⟩
  have hS := strsAre_map vs hp
  match vs, hS, h2 with
  | v1 :: v2 :: rest, hI, _ =>
    rw [keyKind_strs hI]
    exact wpAny_pure hq
  | [], _, h => exact absurd h (by decide)
  | [v], _, h => exact absurd h (by simp)
end
def bSorted : List D → Option D
  | [.dct ks _] => match allS ks with
    | some ss => some (.lst ((sortS ss).map .str))
    | none => none
  | _ => none
theorem allS_eq : ∀ {xs : List D} {ss : List (List Nat)}, allS xs = some ss → xs = ss.map .str
  | [], ss, h => by cases h; rfl
  | .str s :: r, ss, h => by
    unfold allS at h
    split at h
    · rename_i qs e
      cases h
      rw [allS_eq e]
      rfl
    · cases h
section
variable {X : Cx} {T : Tb} {K : PySem.W.Frag} {M : Mem} {B L : Hs} {pins : List (Addr × Obj)} {σ : L2.St} {s : Shared}
theorem rvs_strs : ∀ {ss : List (List Nat)}, RVs K T M (ss.map .str) (ss.map fun x => V.str ⟨x.toArray⟩)
  | [] => rfl
  | x :: ss => ⟨_, _, rfl, rfl, rvs_strs⟩
theorem vals_sv : ∀ {out : List Value}, (∀ v ∈ out, ∃ x t, v = Value.str x t) → Vals ((out.map sv).map fun x => V.str ⟨x.toArray⟩) out
  | [], _ => .nil
  | v :: out, h => by
    obtain ⟨x, t, rfl⟩ := h v List.mem_cons_self
    exact .cons ⟨t, by simp [sv, strOf]⟩ (vals_sv fun u hu => h u (List.mem_cons_of_mem _ hu))
theorem cd_sorted (hc : X.calm = true) : CallD X T (.builtin "sorted") bSorted := call_D1 rfl (fun _ _ _ => by simp [bSorted]) fun pins s σ M p z x u Q I rx R d e k => by
  cases p with
  | dct ks vs =>
    obtain ⟨a, kvs, rfl, ha, hk, _⟩ := d.dct
    obtain rfl : u = Value.ref a := rx
    have e : (match allS ks with | some ss => some (D.lst ((sortS ss).map .str)) | none => none) = some z := e
    cases es0 : allS ks with
    | none => rw [es0] at e; cases e
    | some ss =>
      rw [es0] at e
      cases e
      have hks := allS_eq es0
      obtain ⟨hz, lo, vs', rel, dd⟩ := I.hok a _ ha
      obtain ⟨es, ep, raw, hsz, hes⟩ := dd.raw
      have lkv : kvs.length = vs'.length := rel.length
      have lks : ks.length = kvs.length := by have := congrArg List.length hk; simpa using this
      have hkey : ∀ (i : Nat) (v : Value), (∃ hi : i < es.size, v = es[i].key) → ss[i]? = some (sv v) ∧ ∃ x t, v = Value.str x t := fun i v ⟨hi, e⟩ => by
        have hi' : i < vs'.length := by omega
        obtain ⟨hik, _⟩ := hes i hi vs'[i].1 vs'[i].2 (by rw [List.getElem?_eq_getElem hi'])
        obtain ⟨x, hx, hr⟩ := paired_get rel (List.getElem?_eq_getElem hi')
        have h1 : (kvs.map fun p => some p.1)[i]? = some (some x.1) := by rw [List.getElem?_map, hx]; rfl
        rw [← hk, hks, List.map_map, List.getElem?_map] at h1
        cases hp : ss[i]? with
        | none => rw [hp] at h1; cases h1
        | some t =>
          rw [hp] at h1
          have h1 := Option.some.inj h1
          have h1 : some (Sum.inr ⟨t.toArray⟩) = some x.1 := h1
          have h1 := Option.some.inj h1
          rw [← hr.1, ← h1] at hik
          have hik : keyIs (Sum.inr ⟨t.toArray⟩) es[i].key = true := hik
          rcases keyIs_shape hik with ⟨j, tk, e1, _⟩ | ⟨y, tk, e1, e2⟩
          · cases e1
          · cases e1
            rw [e, e2]
            exact ⟨by simp [sv, strOf], _, _, rfl⟩
      have hn : es.size ≤ sizeLine := by rw [hsz, ← lkv]; exact hz
      refine sorted_src (ltv := fun v u => ltS (sv v) (sv u)) swo_sv (PySem.KdlSrc.rawDict (es := es) (ep := ep) lo) (I.ok.hd hc) raw hn (fun s1 a' vs hl hP ha keep h2 => ?_) (fun h' tk a' vs out hl hP hs hb kp hna hout => ?_)
      · refine strs_sortable (fun v hv => ?_) (by omega)
        obtain ⟨i, hi⟩ := List.getElem?_of_mem hv
        exact (hkey i v (hP i v hi)).2
      · have hmem : ∀ v ∈ out, ∃ x t, v = Value.str x t := fun v hv => by
          obtain ⟨i, hi⟩ := List.getElem?_of_mem (hb.perm.mem_iff.mp hv)
          exact (hkey i v (hP i v hi)).2
        have hvs : vs.map sv = ss := by
          refine List.ext_getElem? fun i => ?_
          rw [List.getElem?_map]
          cases hi : vs[i]? with
          | none =>
            have l1 := List.getElem?_eq_none_iff.mp hi
            have l2 : ss.length = ks.length := by rw [hks, List.length_map]
            exact (List.getElem?_eq_none_iff.mpr (by omega)).symm
          | some v => exact (hkey i v (hP i v hi)).1.symm
        have hout' : out.map sv = sortS ss := sortS_uniq (srtd_map (lt := ltS) hs) (by rw [← hvs]; exact hb.perm.map _)
        have hne : M.H a' = none := I.hok.gone hna
        obtain ⟨m, hm⟩ := hout
        have rr : RVs X.K T M ((sortS ss).map .str) ((out.map sv).map fun x => V.str ⟨x.toArray⟩) := by rw [← hout']; exact rvs_strs
        refine ⟨.ref a', upd M.H a' (.lst ((out.map sv).map fun x => V.str ⟨x.toArray⟩)), I.laidN kp hna hne ⟨?_, out, m, vals_sv hmem, hm⟩, rfl, new_lst R rr k a' hne⟩
        rw [List.length_map, List.length_map, hb.len, hl]
        exact hn
  | _ => cases e
end
end Ev

set_option Elab.async false
set_option linter.all false
set_option maxRecDepth 100000
set_option maxHeartbeats 1000000
set_option autoImplicit false
/-! EvDn: dict(rows), rows a tuple of pairs whose keys are tuples. -/
namespace Ev
open PySem PySem.Spec PyProof.Rows L2
def mergeN : List D → List W → List D → List D → List D × List W
  | ks, ws, k :: ks', x :: xs' => mergeN (nkKs k ks) (nkVs k (.d x) ks ws) ks' xs'
  | ks, ws, _, _ => (ks, ws)
def rowsD : D → Option (List D × List D)
  | .tup xs => if rowy xs = true then match unpair xs with
      | some kv => if kv.1.all isNK = true then some kv else none
      | none => none
    else none
  | _ => none
/-- dict(rows) -/
def eDictN (o : SE) : SE := fun B ρ L => (o B ρ L).bind fun x L1 => (vwR B L1 x).bind fun p L1 => (ofOpt (rowsD p) L1).bind fun kv L1 => .ok (.ref (B.length + L1.length)) (L1 ++ [.dcn (mergeN [] [] kv.1 kv.2).1 (mergeN [] [] kv.1 kv.2).2])
theorem rowsD_eq {p : D} {kv : List D × List D} (h : rowsD p = some kv) : ∃ xs, p = .tup xs ∧ rowy xs = true ∧ unpair xs = some kv ∧ kv.1.all isNK = true := by
  unfold rowsD at h
  split at h
  · rename_i xs
    split at h
    · rename_i hr
      split at h
      · rename_i kv' e
        split at h
        · rename_i hk
          cases h
          exact ⟨xs, rfl, hr, e, hk⟩
        · cases h
      · cases h
    · cases h
  · cases h
def putAllN (kvs : List NV) (ps : List NV) : List NV := ps.foldl (fun acc p => putN acc p.1 p.2.1 p.2.2) kvs
theorem length_putAllN : ∀ (ps kvs : List NV), (putAllN kvs ps).length ≤ kvs.length + ps.length
  | [], kvs => Nat.le_refl _
  | p :: ps, kvs => by
    have h1 := length_putAllN ps (putN kvs p.1 p.2.1 p.2.2)
    have h2 := length_putN kvs p.1 p.2.1 p.2.2
    show (putAllN (putN kvs p.1 p.2.1 p.2.2) ps).length ≤ kvs.length + (ps.length + 1)
    omega
theorem nr_putAll {qs : List NV} {ps : List (NestedKey × Addr × Value)} (r : Paired NR qs ps) : ∀ {kvs : List NV} {xs : List (NestedKey × Addr × Value)}, Paired NR kvs xs → Paired NR (putAllN kvs qs) (storedAllH xs ps) := by
  induction r with
  | nil => intro kvs xs h; exact h
  | cons h t ih =>
    intro kvs xs r
    obtain ⟨h1, h2, h3⟩ := h
    rename_i p q _ _
    have := nr_put r p.1 p.2.1 h3
    exact ih (by show Paired NR (putN kvs p.1 p.2.1 p.2.2) (storedH xs q.1 q.2.1 q.2.2); rw [← h1, ← h2]; exact this)
section
variable {X : Cx} {T : Tb} {K : PySem.W.Frag} {M : Mem} {B L : Hs} {pins : List (Addr × Obj)} {σ : L2.St} {s : Shared}
theorem mergeN_ok : ∀ {ks' ds : List D} {qs : List NV} {ks : List D} {ws : List W} {kvs : List NV}, ks'.all isNK = true → ks'.map nk = qs.map (fun p => some p.1) → RVs K T M ks' (qs.map fun p => V.ref p.2.1) → RVs K T M ds (qs.map (·.2.2)) →
    ks.all isNK = true → ks.map nk = kvs.map (fun p => some p.1) → RVs K T M ks (kvs.map fun p => V.ref p.2.1) → RWs K T M ws (kvs.map (·.2.2)) →
    (mergeN ks ws ks' ds).1.all isNK = true ∧ (mergeN ks ws ks' ds).1.map nk = (putAllN kvs qs).map (fun p => some p.1) ∧ RVs K T M (mergeN ks ws ks' ds).1 ((putAllN kvs qs).map fun p => V.ref p.2.1) ∧ RWs K T M (mergeN ks ws ks' ds).2 ((putAllN kvs qs).map (·.2.2))
  | [], ds, [], ks, ws, kvs, _, _, _, _, b1, b2, b3, b4 => by unfold mergeN; exact ⟨b1, b2, b3, b4⟩
  | [], ds, _ :: _, ks, ws, kvs, _, a2, _, _, b1, b2, b3, b4 => by cases a2
  | _ :: _, ds, [], ks, ws, kvs, _, a2, _, _, b1, b2, b3, b4 => by cases a2
  | k :: ks', ds, q :: qs, ks, ws, kvs, a1, a2, a3, a4, b1, b2, b3, b4 => by
    cases ds with
    | nil => cases (show q.2.2 :: qs.map (·.2.2) = [] from a4)
    | cons x ds =>
      have a1 : (isNK k && ks'.all isNK) = true := a1
      rw [Bool.and_eq_true] at a1
      have e1 : nk k = some q.1 := (List.cons.inj a2).1
      have e2 : ks'.map nk = qs.map (fun p => some p.1) := (List.cons.inj a2).2
      obtain ⟨v, r, eq1, r1, r2⟩ := a3
      have eq1 : V.ref q.2.1 :: qs.map (fun p => V.ref p.2.1) = v :: r := eq1
      cases eq1
      obtain ⟨v2, r', eq2, s1, s2⟩ := a4
      have eq2 : q.2.2 :: qs.map (·.2.2) = v2 :: r' := eq2
      cases eq2
      have s1 : RW K T M (.d x) q.2.2 := s1
      exact mergeN_ok (ks' := ks') (ds := ds) (qs := qs) a1.2 e2 r2 s2 (nkKs_all a1.1 b1) (nkKs_nk e1 b2) (nkKs_rv e1 r1 b2 b3) (nkVs_rw e1 s1 b2 b4)
theorem unpairN_ok (I : Inv X pins σ M.H s) : ∀ {xs ks ds : List D} {vs : List V} {its : List Value}, unpair xs = some (ks, ds) → ks.all isNK = true → RVs X.K T M xs vs → Vals vs its →
    ∃ (Ts : List Addr) (kvs : List NV) (ps : List (NestedKey × Addr × Value)), its = Ts.map Value.ref ∧ Paired NR kvs ps ∧ Paired (fun (t : Addr) (p : NestedKey × Addr × Value) => PairAt s.heap t (.ref p.2.1) p.2.2) Ts ps ∧ ks.map nk = kvs.map (fun p => some p.1) ∧
      RVs X.K T M ks (kvs.map fun p => V.ref p.2.1) ∧ RVs X.K T M ds (kvs.map (·.2.2)) ∧ ∀ x ∈ ps, (nestedKind X.prog X.w).is s.heap x.1 x.2.1
  | [], ks, ds, vs, its, e, _, r, rr => by
    cases e
    rw [show vs = [] from r] at rr
    cases rr
    exact ⟨[], [], [], rfl, .nil, .nil, rfl, rfl, rfl, fun x hx => by cases hx⟩
  | x :: xs, ks, ds, vs, its, e, hk, r, rr => by
    unfold unpair at e
    split at e
    · cases ‹_ :: _ = []›
    · rename_i k v r0 eq
      cases eq
      split at e
      · rename_i ks' vs' eu
        cases e
        have hk : (isNK k && ks'.all isNK) = true := hk
        rw [Bool.and_eq_true] at hk
        obtain ⟨v1, r1, rfl, h1, h2⟩ := r
        cases rr with
        | cons ra rb =>
        obtain ⟨Ts, kvs, ps, rfl, f1, f2, f3, f4, f5, f6⟩ := unpairN_ok I eu hk.2 h2 rb
        obtain ⟨a, us, rfl, sq, u1, t1, rfl, a1, u2, t2, rfl, a2, a3⟩ := h1
        have a3 : t2 = [] := a3
        subst a3
        obtain ⟨its2, rr2, ht, _⟩ := I.tuple sq.1
        obtain ⟨w1, w2, rfl, ri, rj⟩ := vals2 rr2
        cases k with
        | tup ys =>
          obtain ⟨kk, k1, k2⟩ := isNK_ok hk.1
          have a1' := a1
          obtain ⟨b, us2, rfl, sq2, rv2⟩ := a1'
          obtain rfl : w1 = Value.ref b := ri
          obtain rfl : _ = Value.ref a := ra
          have ki := nest_is I (.tup ys) _ _ _ a1 (show RelV (.ref b) (.ref b) from rfl) k1
          refine ⟨a :: Ts, (.tup kk, b, u2) :: kvs, (.tup kk, b, w2) :: ps, rfl, .cons ⟨rfl, rfl, rj⟩ f1, .cons (.inl ht) f2, ?_, ⟨_, _, rfl, a1, f4⟩, ⟨_, _, rfl, a2, f5⟩, fun x hx => ?_⟩
          · rw [List.map_cons, List.map_cons, k1, f3]
          · rcases List.mem_cons.mp hx with rfl | hx
            · exact ⟨ki, k2⟩
            · exact f6 x hx
        | _ => cases hk.1
      · cases e
    · cases e
theorem Inv.plain {a : Addr} (I : Inv X pins σ M.H s) (h : PlT X.K M.H a) : ∃ o : Obj, s.heap.get? a = some o ∧ o.dict = none := by
  rcases h with ⟨o, vs, h, hd⟩ | ⟨o, h, hd⟩
  · exact ⟨o, (show s.heap.get? a = some o ∧ _ from I.hok a _ h).1, hd⟩
  · exact ⟨o, I.kIn a o h, hd⟩
theorem room92 {A : Around} {P : Program} {w : World} (hu : A.units + 12 < cLine) : (nestedKind P w).room A.in1.in1 := by
  show A.in1.in1.units + 8 < cLine
  rw [Around.in1_units, Around.in1_units]
  omega
def rDictN (K : PySem.W.Frag) (T : Tb) : List V → Hp → VK → Prop := fun xs H Q => ∃ M B L p v kv, M.H = H ∧ M.A = B ++ L ∧ Rep K T M ∧ xs = [v] ∧ DV K T M p v ∧ rowsD p = some kv ∧
  post K T M B (.ok (.ref (B.length + L.length)) (L ++ [.dcn (mergeN [] [] kv.1 kv.2).1 (mergeN [] [] kv.1 kv.2).2])) fun w _ M' => ∀ v, RW K T M' w v → Q v M'.H
theorem cr_dictN (tw : T.w = X.w) (tp : T.P = X.prog) (hc : X.calm = true) (hu : X.A.units + 12 < cLine) : CallR X (.type "dict") (rDictN X.K T) := by
  intro pins s σ H xs us Q I r h
  obtain ⟨M, B, L, p, v, kv, rfl, eA, R, rfl, d, e, k⟩ := h
  obtain ⟨ys, rfl, hr, hun, hnk⟩ := rowsD_eq e
  obtain ⟨ks, ds⟩ := kv
  obtain ⟨a, vs, rfl, sq, rv⟩ := d.tupP
  rw [Vals.ref1 r]
  obtain ⟨its, rr, ht, hz⟩ := I.tuple sq.1
  obtain ⟨o, ho, hod⟩ := Inv.plain I (sq.2 hr)
  obtain ⟨o', ho', hc', n, hd'⟩ := ht
  rw [ho] at ho'
  cases ho'
  obtain ⟨Ts, kvs, ps, rfl, f1, f2, f3, f4, f5, f6⟩ := unpairN_ok I hun hnk rv rr
  have l1 : Ts.length = ps.length := f2.length
  have l2 : kvs.length = ps.length := f1.length
  have l3 : vs.length = Ts.length := by have := rr.length; rw [List.length_map] at this; exact this
  refine call_dict_pairsH (knd := nestedKind X.prog X.w) (ps := ps) (PairArg.tuple a (Ts.map Value.ref).toArray (fun j => Ts.getD j 0) (ps.map fun p => (Value.ref p.2.1, p.2.2))) (I.ok.hd hc) (room92 hu) ?_ ?_ ?_ ?_ fun h' tk dd' kp => ?_
  · refine ⟨⟨o, n, ho, hc', hod, hd'⟩, by simp [l1], fun j k v hj => ?_⟩
    rw [List.getElem?_map] at hj
    cases hp : ps[j]? with
    | none => rw [hp] at hj; cases hj
    | some p =>
      rw [hp] at hj
      cases hj
      obtain ⟨t, ht, hpa⟩ := paired_get f2 hp
      have ed : Ts.getD j 0 = t := by rw [List.getD_eq_getElem?_getD, ht]; rfl
      show (Ts.map Value.ref).toArray[j]? = some (Value.ref (Ts.getD j 0)) ∧ PairAt s.heap (Ts.getD j 0) _ _
      rw [ed]
      refine ⟨?_, hpa⟩
      simp [ht]
  · refine ⟨by simp, fun i key v hi => ?_⟩
    have hi : (ps.map fun p => (Value.ref p.2.1, p.2.2))[i]? = some (key, v) := hi
    rw [List.getElem?_map] at hi
    cases hp : ps[i]? with
    | none => rw [hp] at hi; cases hi
    | some p =>
      rw [hp] at hi
      cases hi
      exact ⟨p.1, p.2.1, rfl, rfl⟩
  · intro h' hk x hx
    exact nestedKind_stays.stays (fun b o vs n e q => hk b o (Nat.ne_of_lt (Heap.lt_size e)) (fun z => nomatch z) e) (f6 x hx)
  · rw [List.length_map, ← l1, ← l3]; exact hz
  · obtain ⟨qo, es, epp, hq, h2, h3, h4, _, h5⟩ := dd'
    have m := mergeN_ok (K := X.K) (T := T) (M := M) (ks := []) (ws := []) (kvs := []) hnk f3 f4 f5 rfl rfl rfl rfl
    have hf : M.H s.heap.objs.size = none := I.hok.fresh (Nat.le_refl _)
    refine ⟨.ref s.heap.objs.size, upd M.H s.heap.objs.size (DN X.prog X.w s.heap.objs.size (putAllN [] kvs)), I.laid (a := s.heap.objs.size) (o := DN X.prog X.w s.heap.objs.size (putAllN [] kvs)) (t' := tk) (fun b u q => kp b u (fun z => nomatch z) q) (Nat.le_refl _)
      (dn_ok ⟨?_, beq_eq_false_iff_ne.mpr (Ne.symm (Nat.ne_of_lt I.big)), _, nr_putAll f1 .nil, qo, es, epp, hq, h2, h3, h4, h5⟩), rfl, ?_⟩
    · have := length_putAllN kvs []
      rw [List.length_nil] at this
      omega
    · exact new_place R eA hf (o := .dcn (mergeN [] [] ks ds).1 (mergeN [] [] ks ds).2) (h := DN X.prog X.w s.heap.objs.size (putAllN [] kvs)) (fun kk => ⟨putAllN [] kvs, by rw [tw, tp]; exact upd_same, m.1, m.2.1, RVs.keeps kk _ _ m.2.2.1, RWs.keeps kk m.2.2.2⟩) k
theorem je_dictN {e : Expr} {f : SE} {p pos : Pos} (tw : T.w = X.w) (tp : T.P = X.prog) (hc : X.calm = true) (hu : X.A.units + 12 < cLine) (hm : X.mg "dict" = none) (ha : JE X T e f) (hg : Gl X "dict" := by rfl) (hv : bootBuiltins "dict" = some (.type "dict") := by decide +kernel)
    (hs : starEach [e] X.env = [(false, eval e X.env)] := by rfl) (hpl : (backTo pos (starEach ([] : List Expr) X.env)).any (·.1) = false := by rfl) : JE X T (.Call (.Name "dict" p) [e] [] pos) (eDictN f) := by
  have hA : JA X T [e] (aCons f aNil) := ja_cons ha ja_nil (by rw [hs]; rfl)
  refine PE.weak (pe_callTy (cr_dictN tw tp hc hu) hg hm hv hA (by decide) (by decide) (by rw [hs]; rfl) hpl) fun σ H Q h => ?_
  obtain ⟨M, B, L, ρ, p, h⟩ := h
  refine ⟨M, B, L, ρ, p, ?_⟩
  show post X.K T M B ((f B ρ L).bind fun x L1 => (aNil B ρ L1).bind fun xs L2 => Res.ok (x :: xs) L2) _
  unfold eDictN at h
  have h := post.bind h
  cases e1 : f B ρ L with
  | exc _ _ _ => rw [e1] at h; exact h.elim
  | bad => rw [e1] at h; exact h.elim
  | ok w L1 =>
    rw [e1] at h
    intro M1 eA R x vs rvs
    obtain ⟨v, r, rfl, rv, rfl⟩ := rvs
    have q := h M1 eA R x
    obtain ⟨pd, _, dv, q⟩ := q.view R eA rv
    obtain ⟨kv, e3, q⟩ := q.opt
    exact ⟨M1, B, L1, pd, v, kv, rfl, eA, R, rfl, dv, e3, q⟩
/-- {}, that may be changed -/
theorem je_dctM0 {pos : Pos} : JE X T (.Dict [] [] pos) (eDctM []) := PE.weak pe_dnewK fun σ H Q h p hp => by
  obtain ⟨M, B, L, ρ, pt, h⟩ := h
  have eH := pt.eH
  subst eH
  exact new_place pt.rep pt.eA hp (o := .dct [] []) (h := .dK []) (fun k => ⟨[], upd_same, rfl, rfl⟩) h
end
end Ev

set_option Elab.async false
set_option linter.all false
set_option maxRecDepth 100000
set_option maxHeartbeats 1000000
set_option autoImplicit false
/-! EvH: what the written part tells by names: the head's hook with facts of one's own. -/
namespace Ev
open PySem PySem.Spec PyProof.Rows L2
/-! ### written data -/
mutual
def kD (K : PySem.W.Frag) : D → Value → Bool
  | .non, .none => true
  | .bl b, .bool c => b == c
  | .int i, .int j _ => decide (i = j)
  | .str x, .str y _ => decide (x = y.cps.toList)
  | .tup xs, .ref a => (match K.lookup a with
    | some ⟨.type c, dd, .seq its _, _⟩ => dd.isNone && decide (c = "tuple") && (decide (its.size ≤ sizeLine) && kDs K xs its.toList)
    | _ => false)
  | _, _ => false
def kDs (K : PySem.W.Frag) : List D → List Value → Bool
  | [], [] => true
  | x :: xs, u :: us => kD K x u && kDs K xs us
  | _, _ => false
end
section
variable {K : PySem.W.Frag} {T : Tb}
mutual
theorem kD_ok : ∀ {d : D} {u : Value}, kD K d u = true → ∃ v, RelV v u ∧ ∀ M, RV K T M d v
  | .non, u, h => by
    cases u with
    | none => exact ⟨.non, rfl, fun _ => rfl⟩
    | _ => cases h
  | .bl b, u, h => by
    cases u with
    | bool c =>
      have e : b = c := eq_of_beq (show (b == c) = true from h)
      exact ⟨.bl b, by rw [e]; rfl, fun _ => rfl⟩
    | _ => cases h
  | .int i, u, h => by
    cases u with
    | int j t =>
      have e : i = j := of_decide_eq_true h
      exact ⟨.int i, ⟨t, by rw [e]⟩, fun _ => rfl⟩
    | _ => cases h
  | .str x, u, h => by
    cases u with
    | str y t =>
      have e : x = y.cps.toList := of_decide_eq_true h
      exact ⟨.str y, ⟨t, rfl⟩, fun _ => by show V.str y = V.str _; rw [e]⟩
    | _ => cases h
  | .tup xs, u, h => by
    cases u with
    | ref a =>
      unfold kD at h
      cases q : K.lookup a with
      | none => rw [q] at h; cases h
      | some o =>
        obtain ⟨oc, od, dt, osl⟩ := o
        rw [q] at h
        cases oc with
        | type c =>
          cases dt with
          | seq its n =>
            have h' : (od.isNone && decide (c = "tuple") && (decide (its.size ≤ sizeLine) && kDs K xs its.toList)) = true := h
            rw [Bool.and_eq_true, Bool.and_eq_true, Bool.and_eq_true] at h'
            have hod : od = none := Option.isNone_iff_eq_none.mp h'.1.1
            obtain ⟨vs, r1, r2⟩ := kDs_ok h'.2.2
            exact ⟨.ref a, rfl, fun M => ⟨a, vs, rfl, ⟨.inr ⟨_, its, n, q, congrArg Value.type (of_decide_eq_true h'.1.2), rfl, of_decide_eq_true h'.2.1, r1⟩, fun _ => .inr ⟨_, q, hod⟩⟩, r2 M⟩⟩
          | _ => cases h
        | _ => cases dt <;> cases h
    | _ => cases h
  | .lst _, u, h => by cases u <;> cases h
  | .dct _ _, u, h => by cases u <;> cases h
  | .set _, u, h => by cases u <;> cases h
  | .obj _ _, u, h => by cases u <;> cases h
  | .fn _, u, h => by cases u <;> cases h
  | .scr _, u, h => by cases u <;> cases h
theorem kDs_ok : ∀ {ds : List D} {us : List Value}, kDs K ds us = true → ∃ vs, Vals vs us ∧ ∀ M, RVs K T M ds vs
  | [], us, h => by
    cases us with
    | nil => exact ⟨[], .nil, fun _ => rfl⟩
    | cons _ _ => cases h
  | d :: ds, us, h => by
    cases us with
    | nil => cases h
    | cons u us =>
      have h' : (kD K d u && kDs K ds us) = true := h
      rw [Bool.and_eq_true] at h'
      obtain ⟨v, r1, r2⟩ := kD_ok h'.1
      obtain ⟨vs, r3, r4⟩ := kDs_ok h'.2
      exact ⟨v :: vs, .cons r1 r3, fun M => ⟨v, vs, rfl, r2 M, r4 M⟩⟩
end
end
/-! ### facts by names -/
def mcT : Value := .type "type"
/-- the def behind a static method -/
def smAt (x m : Str) (K : PySem.W.Frag) : Addr := match PySem.W.recIn K (He.ma K (He.ga K x) m) "staticmethod" with
  | some (.ref g :: _) => g
  | _ => 0
/-- a method's def -/
def mAt (x m : Str) (K : PySem.W.Frag) : Addr := He.ma K (He.ga K x) m
def fcls (x : Str) (K : PySem.W.Frag) : Bool := (He.Fa.cls x).ok K
def fnoat (x f : Str) (K : PySem.W.Frag) : Bool := (He.Fa.noat x f).ok K
def fmeth (x m : Str) (K : PySem.W.Frag) : Bool := (He.Fa.meth x m).ok K
def fmkr (x : Str) (K : PySem.W.Frag) : Bool := (He.Fa.mkr x).ok K
def gloAt (x : Str) (K : PySem.W.Frag) : Addr := He.ga K x
def isGlo (x : Str) (K : PySem.W.Frag) : Bool := decide (PySem.W.nsIn K mainGlobals x = some (some (.ref (He.ga K x))))
def isFree (x : Str) (K : PySem.W.Frag) : Bool := decide (PySem.W.nsIn K mainGlobals x = some none)
def isDat (x : Str) (d : D) (K : PySem.W.Frag) : Bool := match PySem.W.nsIn K mainGlobals x with
  | some (some u) => kD K d u
  | _ => false
def isCls (x : Str) (K : PySem.W.Frag) : Bool := PySem.W.readsIn K (He.ga K x) mcT && decide (PySem.W.specialIn K (.ref (He.ga K x)) "__getattribute__" = some (some (.builtin "type.__getattribute__")))
def isCon (x f : Str) (d : D) (K : PySem.W.Frag) : Bool := match PySem.W.findCls K (.ref (He.ga K x)) mcT f with
  | some (.val u) => kD K d u
  | _ => false
def isSta (x m : Str) (K : PySem.W.Frag) : Bool := (match PySem.W.findCls K (.ref (He.ga K x)) mcT m with
  | some (.get g a o t) => decide (g = .builtin "staticmethod.__get__") && (decide (a = .ref (He.ma K (He.ga K x) m)) && (decide (o = .none) && decide (t = .ref (He.ga K x))))
  | _ => false) && (match PySem.W.recIn K (He.ma K (He.ga K x) m) "staticmethod" with
  | some (.ref _ :: _) => true
  | _ => false)
section
variable {K : PySem.W.Frag} {h : Heap} {mg : Str → Option Value} {T : Tb} {x m f : Str} {d : D}
theorem glo_of (I : K.In h) (G : h.Ns mainGlobals mg) (c : isGlo x K = true) : mg x = some (.ref (He.ga K x)) := PySem.W.mg_of I G (of_decide_eq_true c)
theorem free_of (I : K.In h) (G : h.Ns mainGlobals mg) (c : isFree x K = true) : mg x = none := PySem.W.mg_none_of I G (of_decide_eq_true c)
theorem dat_of (I : K.In h) (G : h.Ns mainGlobals mg) (c : isDat x d K = true) : ∃ u v, mg x = some u ∧ RelV v u ∧ ∀ M, RV K T M d v := by
  unfold isDat at c
  split at c
  · rename_i u e
    obtain ⟨v, r1, r2⟩ := kD_ok (T := T) c
    exact ⟨u, v, PySem.W.mg_of I G e, r1, r2⟩
  · cases c
theorem cls_of (c : isCls x K = true) : ClX.CRead K (He.ga K x) mcT := by
  unfold isCls at c
  rw [Bool.and_eq_true] at c
  exact ⟨c.1, of_decide_eq_true c.2⟩
theorem con_of (c : isCon x f d K = true) : ∃ v u, ClX.CVal K (He.ga K x) mcT f v u ∧ ∀ M, RV K T M d v := by
  unfold isCon at c
  split at c
  · rename_i u e
    obtain ⟨v, r1, r2⟩ := kD_ok (T := T) c
    exact ⟨v, u, ⟨e, r1⟩, r2⟩
  · cases c
theorem sta_of (c : isSta x m K = true) : SMet K (He.ga K x) mcT m (He.ma K (He.ga K x) m) (smAt x m K) := by
  unfold isSta at c
  rw [Bool.and_eq_true] at c
  obtain ⟨c1, c2⟩ := c
  refine ⟨?_, ?_⟩
  · split at c1
    · rename_i g a o t e
      rw [Bool.and_eq_true, Bool.and_eq_true, Bool.and_eq_true] at c1
      obtain ⟨h1, h2, h3, h4⟩ := c1
      rw [e, of_decide_eq_true h1, of_decide_eq_true h2, of_decide_eq_true h3, of_decide_eq_true h4]
    · cases c1
  · unfold smAt
    split at c2
    · rename_i g r e
      exact ⟨r, by rw [e]⟩
    · cases c2
end
/-! ### defs -/
structure DH where
  at_ : PySem.W.Frag → Addr
  name : Str
  qual : Str
  params : Arguments
  body : List Stmt
  scope : Scope
def DH.val (d : DH) : He.FnW := some (d.name, d.qual, d.params, .stmts d.body, d.scope, mainGlobals, [], builtinsNs)
def fnH (K : PySem.W.Frag) (a : Addr) : He.FnW := match K.lookup a with
  | some ⟨_, _, .func fd, _⟩ => some (fd.name, fd.qualname, fd.params, fd.body, fd.scope, fd.globals, fd.closure, fd.builtins)
  | _ => none
def DH.ok (K : PySem.W.Frag) (d : DH) : Bool := PySem.W.keepIn K (.ref (d.at_ K)) && (match K.lookup (d.at_ K) with
  | some ⟨_, _, .func fd, _⟩ => PySem.W.codeIn K fd.code d.qual && He.dflB K fd.defaults []
  | _ => false)
theorem DH.fun {K : PySem.W.Frag} {d : DH} (e : fnH K (d.at_ K) = d.val) (c : d.ok K = true) : ∃ fd, FunD K d.name d.qual d.params d.body d.scope [] [] (d.at_ K) fd := by
  unfold DH.ok at c
  rw [Bool.and_eq_true] at c
  unfold fnH at e
  cases q : K.lookup (d.at_ K) with
  | none => rw [q] at e; cases e
  | some o =>
    obtain ⟨oc, od, dt, osl⟩ := o
    rw [q] at e c
    cases dt with
    | func fd =>
      obtain ⟨n1, n2, n3, n4, n5, n6, n7, n8, n9, n10, n11, n12, n13, n14, n15⟩ := fd
      have e2 : some (n1, n2, n3, n4, n5, n6, n7, n15) = some (d.name, d.qual, d.params, FuncBody.stmts d.body, d.scope, mainGlobals, ([] : List (Str × Addr)), builtinsNs) := e
      simp only [Option.some.injEq, Prod.mk.injEq] at e2
      obtain ⟨g1, g2, g3, g4, g5, g6, g7, g8⟩ := e2
      subst g1 g2 g3 g4 g5 g6 g7 g8
      have c3 : (PySem.W.codeIn K n13 d.qual && He.dflB K n8 []) = true := c.2
      rw [Bool.and_eq_true] at c3
      exact ⟨_, ⟨oc, od, n8, n9, n10, n11, n12, n13, n14, osl, rfl, q, c3.1, He.dflB_ok c3.2, .inl rfl⟩, c.1⟩
    | _ => cases e
/-! ### the hook -/
abbrev Fc := PySem.W.Frag → Bool
def obsV (fs : List Fc) (ds : List DH) (K : PySem.W.Frag) : Bool × List He.FnW := (fs.all (fun f => f K) && ds.all (fun d => d.ok K), ds.map fun d => fnH K (d.at_ K))
def goodV (ds : List DH) : Bool × List He.FnW := (true, ds.map DH.val)
/-- what the module's names, and the statics, reach in n steps -/
def asV (g : Addr → Option Obj) : Nat → List Addr
  | 0 => [mainGlobals, cStatics]
  | n + 1 => He.growD g (asV g n)
def obsVG (n : Nat) (fs : List Fc) (ds : List DH) (g : Addr → Option Obj) : Bool × List He.FnW := obsV fs ds (He.frG g (asV g n))
def hookV (n : Nat) (fs : List Fc) (ds : List DH) : PySem.W.Hook where
  α := Bool × List He.FnW
  obs := fun s => obsVG n fs ds s.heap.get?
  val := fun _ => goodV ds
  says := fun _ h => ∃ K : PySem.W.Frag, K.In h ∧ obsV fs ds K = goodV ds
  of := fun _ _ e => ⟨_, He.frG_in, e⟩
  keeps := fun _ _ _ ⟨K, hK, c⟩ k => ⟨K, PySem.W.Frag.In.keeps hK k, c⟩
theorem obsVG_eq {n : Nat} {fs : List Fc} {ds : List DH} {g : Addr → Option Obj} {s : Shared} (h : ∀ a, g a = s.heap.get? a) : obsVG n fs ds g = (hookV n fs ds).obs s := by
  rw [show g = s.heap.get? from funext h]
  rfl
section
variable {fs : List Fc} {ds : List DH} {K : PySem.W.Frag}
theorem said_fact (c : obsV fs ds K = goodV ds) (i : Nat) {f : Fc} (h : fs[i]? = some f := by rfl) : f K = true := by
  have c1 : (fs.all (fun f => f K) && ds.all (fun d => d.ok K)) = true := congrArg Prod.fst c
  rw [Bool.and_eq_true] at c1
  exact List.all_eq_true.mp c1.1 f (List.mem_of_getElem? h)
theorem said_def (c : obsV fs ds K = goodV ds) (i : Nat) {d : DH} (h : ds[i]? = some d := by rfl) : ∃ fd, FunD K d.name d.qual d.params d.body d.scope [] [] (d.at_ K) fd := by
  have c1 : (fs.all (fun f => f K) && ds.all (fun d => d.ok K)) = true := congrArg Prod.fst c
  rw [Bool.and_eq_true] at c1
  have c2 : (ds.map fun d => fnH K (d.at_ K)) = ds.map DH.val := congrArg Prod.snd c
  have c3 : (ds.map fun d => fnH K (d.at_ K))[i]? = (ds.map DH.val)[i]? := by rw [c2]
  rw [List.getElem?_map, List.getElem?_map, h] at c3
  exact DH.fun (Option.some.inj c3) (List.all_eq_true.mp c1.2 d (List.mem_of_getElem? h))
end
/-! ### three names at once -/
section
variable {X : Cx} {T : Tb}
theorem js_par3 {i j l : Nat} {x y z : Str} {a b c : Expr} {f : SA} {px py pz pt pos : Pos} {kt k2 : Nat} {pt2 : Pos} (hc : X.calm = true) (hN : X.N.Nodup) (ha : JA X T [a, b, c] f) (hi : X.N[i]? = some x := by rfl) (hj : X.N[j]? = some y := by rfl) (hl : X.N[l]? = some z := by rfl)
    (hij : i ≠ j := by decide) (hil : i ≠ l := by decide) (hjl : j ≠ l := by decide) (hx : X.env.scope.names.lookup x = some .local := by rfl) (hy : X.env.scope.names.lookup y = some .local := by rfl) (hz : X.env.scope.names.lookup z = some .local := by rfl)
    (hw : swappedStores [.Tuple [.Name x px, .Name y py, .Name z pz] kt pt] (.Tuple [a, b, c] k2 pt2) X.env = pure (some [x, y, z]) := by rfl) (hs : swapsWithSole [.Tuple [.Name x px, .Name y py, .Name z pz] kt pt] (.Tuple [a, b, c] k2 pt2) pos.line X.env = pure false := by rfl) :
    JS X T (.Assign [.Tuple [.Name x px, .Name y py, .Name z pz] kt pt] (.Tuple [a, b, c] k2 pt2) pos) (sPar3 i j l f) := PS.weak (ps_par3 hc hN hi hj hl hij hil hjl hx hy hz ha hw hs) fun Dn σ H h => by
  obtain ⟨M, B, L, ρ, p, h⟩ := h
  refine ⟨M, B, L, ρ, p, (post.st h).mono fun ws L1 M1 eA R x q vs rvs => ?_⟩
  match ws, q, rvs with
  | [w1, w2, w3], q, rvs =>
    obtain ⟨v1, s1, rfl, a1, v2, s2, rfl, a2, v3, s3, rfl, a3, rfl⟩ := rvs
    exact ⟨v1, v2, v3, rfl, q.ext_next eA R ((((p.rs.ext p.rep x).set a1 i).set a2 j).set a3 l)⟩
  | [], q, _ => exact q.elim
  | [_], q, _ => exact q.elim
  | [_, _], q, _ => exact q.elim
  | _ :: _ :: _ :: _ :: _, q, _ => exact q.elim
end
end Ev

set_option Elab.async false
set_option linter.all false
set_option maxRecDepth 100000
set_option maxHeartbeats 1000000
set_option autoImplicit false
/-! EvJ: small words for printed walks. -/
namespace Ev
open PySem PySem.Spec PyProof.Rows L2
theorem u0 {k : Nat} {A : Around} (r : Room k A) : A.units < cLine := by have := r.un; omega
theorem u1 {k : Nat} {A : Around} (r : Room k A) : A.units + 1 < cLine := by have := r.un; omega
theorem u10 {k : Nat} {A : Around} (r : Room k A) : A.units + 10 < cLine := by have := r.un; omega
theorem u12 {k : Nat} {A : Around} (r : Room k A) : A.units + 12 < cLine := by have := r.un; omega
theorem u64 {k : Nat} {A : Around} (r : Room k A) : A.units + 64 < cLine := by have := r.un; omega
theorem u65 {k : Nat} {A : Around} (r : Room k A) : A.units + 65 < cLine := by have := r.un; omega
theorem u66 {k : Nat} {A : Around} (r : Room k A) : A.units + 66 < cLine := by have := r.un; omega
/-- a statement of a class's body -/
def inCls (s : Stmt) (j : Nat) : Stmt := match s with
  | .ClassDef (body := b) .. => b.getD j (.Pass ⟨0, 0, 0, 0⟩)
  | _ => .Pass ⟨0, 0, 0, 0⟩
theorem kw_binds {K : PySem.W.Frag} {x qual : Str} {params : Arguments} {body : List Stmt} {scope : Scope} {kws : List (Str × V)} {f : Addr} {fd : FuncData} {args : Args} {binds : List (Str × Value)} (F : FunD K x qual params body scope [] kws f fd)
    (h : ∀ (kV doc pm : Value) (an : Option Addr) (cdv ct : Value), bindArgs (PySem.W.fnOf x qual params body scope .none kV doc pm an cdv ct) args = pure binds) (s : Shared) : BindsTo s fd args binds := by
  obtain ⟨oc, od, dV, kV, doc, pm, an, cdv, ct, osl, rfl, lk, hcd, hD, hK⟩ := F.ex
  rcases hD with ⟨_, rfl⟩ | ⟨e, _⟩
  · exact .of_eq (h kV doc pm an cdv ct)
  · exact absurd rfl e
section
variable {X : Cx} {T : Tb}
theorem je_datum {x : Str} {d : D} {pos : Pos} (h : ∃ u v, X.mg x = some u ∧ RelV v u ∧ ∀ M, RV X.K T M d v) (hg : Gl X x := by rfl) (hd : (x == ("__debug__" : Str)) = false := by decide) : JE X T (.Name x pos) (eC d) :=
  let ⟨_, _, hm, r, rv⟩ := h; je_glob hm r (fun M _ => rv M) hg hd
theorem je_conD {x f : Str} {C : Addr} {mc : Value} {d : D} {p pos : Pos} (hm : X.mg x = some (.ref C)) (c : ClX.CRead X.K C mc) (h : ∃ v u, ClX.CVal X.K C mc f v u ∧ ∀ M, RV X.K T M d v) (hg : Gl X x := by rfl) (hd : (x == ("__debug__" : Str)) = false := by decide)
    (hb : attributeBase (.Name x p) f X.env (eval (.Name x p) X.env) = eval (.Name x p) X.env := by rfl) : JE X T (.Attribute (.Name x p) f pos) (eC d) :=
  let ⟨_, _, cv, rv⟩ := h; je_cval hm c cv (fun M _ => rv M) hg hd hb
end
theorem rvs_ints {K : PySem.W.Frag} {T : Tb} {M : Mem} : ∀ ns : List Int, RVs K T M (ns.map D.int) (ns.map V.int)
  | [] => rfl
  | _ :: ns => ⟨_, _, rfl, rfl, rvs_ints ns⟩
/-- the law's start: the script alone -/
theorem law_start {K : PySem.W.Frag} {T : Tb} {H : Hp} {a : Addr} {ns : List Int} {F : Fn} {E : XK} (hO : Only H) (hS : SqL K H a (ns.map V.int)) (h : ∃ L, F [.d (.scr (ns.map D.int))] [] [] = .ok (.d (.bl true)) L) : spOf K T 1 F [.ref a] H (fun v _ => v = .bl true) E := by
  obtain ⟨L, h⟩ := h
  have R : Rep K T ⟨fun _ => 0, [], H, []⟩ := ⟨fun i j ⟨o, e, _⟩ => by simp at e, fun n o e => by simp at e, fun a ha => by simp at ha⟩
  refine ⟨rfl, ⟨fun _ => 0, [], H, []⟩, [], [], [.d (.scr (ns.map D.int))], rfl, rfl, R, ⟨_, _, rfl, ⟨a, _, rfl, ?_, rvs_ints ns⟩, rfl⟩, ?_⟩
  · rcases hS with s | s
    · exact .inl ⟨⟨fun n ⟨o, e, _⟩ => by simp at e, by simp⟩, s⟩
    · exact .inr s
  · rw [h]
    exact fun M' _ _ _ v rv => rv
end Ev

set_option linter.all false
set_option maxRecDepth 100000
namespace Ev

namespace K01
def F__law_pen : Fn := fnBody 1 1 (sRet (eDctM ((eC (.str [99, 101, 108, 108, 115]), eB bList (aCons (eSl (eVar 0) (oNone) (oSome (eC (.int 63)))) (aNil))) :: (eC (.str [97, 116]), eC (.int 0)) :: (eC (.str [114, 101, 115, 116]), eC (.int 0)) :: [])))
def F__law_draw : Fn := fnBody 2 6 (sSeq (sIf (tE (e2 opGt (e2 opIx (eVar 0) (eC (.str [114, 101, 115, 116]))) (eC (.int 0)))) (sSeq (sAsg (e2 opMod (eB bInt (aCons (e2 opIx (eVar 0) (eC (.str [114, 101, 115, 116]))) (aNil))) (eVar 1)) (gVar 5))
  (sSeq (sAsg (e2 opFdiv (e2 opIx (eVar 0) (eC (.str [114, 101, 115, 116]))) (eVar 1)) (gItem (eVar 0) (eC (.str [114, 101, 115, 116]))))
  (sRet (eVar 5)))) (sNil))
  (sSeq (sAsg (e2 opIx (eVar 0) (eC (.str [97, 116]))) (gVar 2))
  (sSeq (sAsg (e2 opAdd (eVar 2) (eC (.int 1))) (gItem (eVar 0) (eC (.str [97, 116]))))
  (sSeq (sAsg (e2 opAdd (e2 opMul (eC (.int 61)) (eVar 2)) (eC (.int 23))) (gVar 3))
  (sSeq (sIf (tE (e2 opNe (e2 opIx (eVar 0) (eC (.str [99, 101, 108, 108, 115]))) (eLst (aNil)))) (sAsg (e2 opIx (e2 opIx (eVar 0) (eC (.str [99, 101, 108, 108, 115]))) (e2 opMod (eB bInt (aCons (eVar 2) (aNil))) (eB bLen (aCons (e2 opIx (eVar 0) (eC (.str [99, 101, 108, 108, 115]))) (aNil))))) (gVar 3)) (sNil))
  (sSeq (sIf (tAnd (tE (e2 opLt (eVar 2) (eB bLen (aCons (e2 opIx (eVar 0) (eC (.str [99, 101, 108, 108, 115]))) (aNil))))) (tE (e2 opGe (eB bAbs (aCons (eVar 3) (aNil))) (e2 opPow (eC (.int 10)) (eC (.int 18)))))) (sSeq (sAsg (e2 opFdiv (e2 opSub (eB bAbs (aCons (eVar 3) (aNil))) (e2 opPow (eC (.int 10)) (eC (.int 18)))) (eVar 1)) (gItem (eVar 0) (eC (.str [114, 101, 115, 116]))))
  (sRet (e2 opMod (e2 opSub (eB bAbs (aCons (eVar 3) (aNil))) (e2 opPow (eC (.int 10)) (eC (.int 18)))) (eVar 1)))) (sNil))
  (sSeq (sAsg (e2 opMod (eB bInt (aCons (e2 opAdd (e2 opAdd (e2 opMul (e2 opMod (eB bInt (aCons (eVar 3) (aNil))) (eC (.int 4294966927))) (eC (.int 57331))) (e2 opMul (e2 opMul (eC (.int 39119)) (eVar 2)) (eVar 2))) (eC (.int 417))) (aNil))) (eC (.int 4294966909))) (gVar 4))
  (sSeq (sAsg (e2 opMod (eB bInt (aCons (e2 opAdd (e2 opAdd (e2 opAdd (e2 opMul (eVar 4) (eVar 4)) (e2 opMul (eC (.int 91193)) (eVar 4))) (e2 opMul (eC (.int 29)) (eVar 2))) (eC (.int 5))) (aNil))) (eC (.int 4294966877))) (gVar 4))
  (sRet (e2 opMod (eB bInt (aCons (e2 opFdiv (e2 opMod (eB bInt (aCons (e2 opMul (eVar 4) (e2 opAdd (eVar 4) (eC (.int 65521)))) (aNil))) (eC (.int 4294966813))) (eC (.int 64))) (aNil))) (eVar 1)))))))))))
def F__law_pick : Fn := fnBody 2 2 (sRet (e2 opIx (eVar 1) (eCall 2 F__law_draw (aCons (eVar 0) (aCons (eB bLen (aCons (eVar 1) (aNil))) (aNil))))))
def F__law_number : Fn := fnBody 1 2 (sSeq (sAsg (e2 opSub (eCall 2 F__law_draw (aCons (eVar 0) (aCons (eC (.int 9)) (aNil)))) (eC (.int 3))) (gVar 1))
  (sRet (eCall 2 F__law_pick (aCons (eVar 0) (aCons (eLst (aCons (eVar 1) (aCons (eVar 1) (aCons (eVar 1) (aCons (eC (.int 99)) (aCons (e1 opNeg (eC (.int 99))) (aCons (eC (.int 98)) (aCons (e2 opSub (eCall 2 F__law_draw (aCons (eVar 0) (aCons (eC (.int 199)) (aNil)))) (eC (.int 99))) (aNil))))))))) (aNil))))))
def F__law_leaf : Fn := fnBody 2 2 (sRet (eCall 2 F__law_pick (aCons (eVar 0) (aCons (eLst (aCons (eTup (aCons (eC (.str [118, 97, 108, 117, 101])) (aCons (eCall 1 F__law_number (aCons (eVar 0) (aNil))) (aNil)))) (aCons (eTup (aCons (eC (.str [98, 111, 100, 121])) (aNil))) (aCons (eTup (aCons (eC (.str [114, 111, 119])) (aCons (eCall 2 F__law_pick (aCons (eVar 0) (aCons (eVar 1) (aNil)))) (aNil)))) (aNil))))) (aNil)))))
def R__law_e : Nat → Fn
  | 0 => badFn
  | n + 1 => fnBody 3 3 (sSeq (sIf (tOr (tE (e2 opLt (eVar 2) (eC (.int 2)))) (tE (e2 opEq (eCall 2 F__law_draw (aCons (eVar 0) (aCons (eC (.int 3)) (aNil)))) (eC (.int 0))))) (sRet (eCall 2 F__law_leaf (aCons (eVar 0) (aCons (eVar 1) (aNil))))) (sNil))
  (sRet (eTup (aCons (eCall 2 F__law_pick (aCons (eVar 0) (aCons (eLst (aCons (eC (.str [43])) (aCons (eC (.str [45])) (aCons (eC (.str [42])) (aNil))))) (aNil)))) (aCons (eCall 3 (R__law_e n) (aCons (eVar 0) (aCons (eVar 1) (aCons (e2 opSub (eVar 2) (eC (.int 1))) (aNil))))) (aCons (eCall 3 (R__law_e n) (aCons (eVar 0) (aCons (eVar 1) (aCons (e2 opSub (eVar 2) (eC (.int 1))) (aNil))))) (aNil)))))))
def F__law_e : Fn := R__law_e 12
def R__law_c : Nat → Fn
  | 0 => badFn
  | n + 1 => fnBody 3 4 (sSeq (sAsg (eIf (tE (e2 opGt (eVar 2) (eC (.int 1)))) (eCall 2 F__law_draw (aCons (eVar 0) (aCons (eC (.int 6)) (aNil)))) (eCall 2 F__law_draw (aCons (eVar 0) (aCons (eC (.int 2)) (aNil))))) (gVar 3))
  (sSeq (sIf (tE (e2 opLt (eVar 3) (eC (.int 3)))) (sRet (eTup (aCons (e2 opIx (eLst (aCons (eC (.str [60])) (aCons (eC (.str [61])) (aCons (eC (.str [60])) (aNil))))) (eVar 3)) (aCons (eCall 3 F__law_e (aCons (eVar 0) (aCons (eVar 1) (aCons (eC (.int 3)) (aNil))))) (aCons (eCall 3 F__law_e (aCons (eVar 0) (aCons (eVar 1) (aCons (eC (.int 2)) (aNil))))) (aNil)))))) (sNil))
  (sSeq (sIf (tE (e2 opEq (eVar 3) (eC (.int 3)))) (sRet (eTup (aCons (eC (.str [110, 111, 116])) (aCons (eCall 3 (R__law_c n) (aCons (eVar 0) (aCons (eVar 1) (aCons (e2 opSub (eVar 2) (eC (.int 1))) (aNil))))) (aNil))))) (sNil))
  (sRet (eTup (aCons (e2 opIx (eLst (aCons (eC (.str [97, 110, 100])) (aCons (eC (.str [111, 114])) (aNil)))) (e2 opSub (eVar 3) (eC (.int 4)))) (aCons (eCall 3 (R__law_c n) (aCons (eVar 0) (aCons (eVar 1) (aCons (e2 opSub (eVar 2) (eC (.int 1))) (aNil))))) (aCons (eCall 3 (R__law_c n) (aCons (eVar 0) (aCons (eVar 1) (aCons (e2 opSub (eVar 2) (eC (.int 1))) (aNil))))) (aNil)))))))))
def F__law_c : Fn := R__law_c 12
mutual
def R__law_deeds : Nat → Fn
  | 0 => badFn
  | n + 1 => fnBody 3 5 (sSeq (sAsg (eLstM (aNil)) (gVar 3))
  (sSeq (sFor (iRange (eCall 2 F__law_draw (aCons (eVar 0) (aCons (eC (.int 4)) (aNil))))) (gVar 4) (sIf (tE (e2 opGt (e2 opIx (eVar 1) (eC (.str [100, 101, 101, 100, 115]))) (eC (.int 0)))) (sSeq (sAsg (e2 opSub (e2 opIx (eVar 1) (eC (.str [100, 101, 101, 100, 115]))) (eC (.int 1))) (gItem (eVar 1) (eC (.str [100, 101, 101, 100, 115]))))
  (sExpr (eApp (eVar 3) (eCall 3 (R__law_deed n) (aCons (eVar 0) (aCons (eVar 1) (aCons (eVar 2) (aNil)))))))) (sNil)))
  (sRet (eB bTuple (aCons (eVar 3) (aNil))))))
def R__law_deed : Nat → Fn
  | 0 => badFn
  | n + 1 => fnBody 3 6 (sSeq (sAsg (eCall 2 F__law_draw (aCons (eVar 0) (aCons (eC (.int 9)) (aNil)))) (gVar 3))
  (sSeq (sIf (tAnd (tE (e2 opLt (eVar 3) (eC (.int 3)))) (tAnd (tE (e2 opNe (e2 opIx (eVar 1) (eC (.str [107, 105, 110, 100, 115]))) (eLst (aNil)))) (tE (e2 opGt (e2 opIx (eVar 1) (eC (.str [115, 101, 110, 100, 115]))) (eC (.int 0)))))) (sSeq (sAsg (e2 opSub (e2 opIx (eVar 1) (eC (.str [115, 101, 110, 100, 115]))) (eC (.int 1))) (gItem (eVar 1) (eC (.str [115, 101, 110, 100, 115]))))
  (sSeq (sAsg (eCall 2 F__law_pick (aCons (eVar 0) (aCons (e2 opAdd (eLst (aCons (eC .non) (aCons (eC .non) (aNil)))) (e2 opIx (eVar 1) (eC (.str [107, 101, 121, 115])))) (aNil)))) (gVar 4))
  (sRet (eTup (aCons (eC (.str [115, 101, 110, 100])) (aCons (eCall 2 F__law_pick (aCons (eVar 0) (aCons (e2 opIx (eVar 1) (eC (.str [107, 105, 110, 100, 115]))) (aNil)))) (aCons (eVar 4) (aCons (eCall 3 F__law_e (aCons (eVar 0) (aCons (e2 opIx (eVar 1) (eC (.str [110, 97, 109, 101, 115]))) (aCons (eC (.int 3)) (aNil))))) (aNil))))))))) (sNil))
  (sSeq (sIf (tAnd (tE (e2 opEq (eVar 3) (eC (.int 3)))) (tE (e2 opGt (eVar 2) (eC (.int 0))))) (sSeq (sAsg (eCall 3 F__law_c (aCons (eVar 0) (aCons (e2 opIx (eVar 1) (eC (.str [110, 97, 109, 101, 115]))) (aCons (eC (.int 3)) (aNil))))) (gVar 5))
  (sRet (eTup (aCons (eC (.str [105, 102])) (aCons (eVar 5) (aCons (eCall 3 (R__law_deeds n) (aCons (eVar 0) (aCons (eVar 1) (aCons (e2 opSub (eVar 2) (eC (.int 1))) (aNil))))) (aCons (eCall 3 (R__law_deeds n) (aCons (eVar 0) (aCons (eVar 1) (aCons (e2 opSub (eVar 2) (eC (.int 1))) (aNil))))) (aNil)))))))) (sNil))
  (sSeq (sIf (tAnd (tE (e2 opEq (eVar 3) (eC (.int 4)))) (tE (e2 opEq (eCall 2 F__law_draw (aCons (eVar 0) (aCons (eC (.int 3)) (aNil)))) (eC (.int 0))))) (sRet (eTup (aCons (eC (.str [102, 97, 105, 108])) (aNil)))) (sNil))
  (sRet (eTup (aCons (eC (.str [115, 101, 116])) (aCons (eCall 2 F__law_pick (aCons (eVar 0) (aCons (e2 opIx (eVar 1) (eC (.str [110, 97, 109, 101, 115]))) (aNil)))) (aCons (eCall 3 F__law_e (aCons (eVar 0) (aCons (e2 opIx (eVar 1) (eC (.str [110, 97, 109, 101, 115]))) (aCons (eC (.int 4)) (aNil))))) (aNil))))))))))
end
def F__law_deeds : Fn := R__law_deeds 12
def F__law_deed : Fn := R__law_deed 12
def F__law_handler : Fn := fnBody 5 7 (sSeq (sAsg (eDctM ((eC (.str [110, 97, 109, 101, 115]), eVar 1) :: (eC (.str [107, 101, 121, 115]), eVar 2) :: (eC (.str [107, 105, 110, 100, 115]), eVar 3) :: (eC (.str [115, 101, 110, 100, 115]), eVar 4) :: (eC (.str [100, 101, 101, 100, 115]), eC (.int 11)) :: [])) (gVar 5))
  (sSeq (sAsg (eCall 3 F__law_deeds (aCons (eVar 0) (aCons (eVar 5) (aCons (eC (.int 3)) (aNil))))) (gVar 6))
  (sSeq (sIf (tAnd (tE (e2 opNe (eVar 3) (eLst (aNil)))) (tAnd (tE (e2 opGt (e2 opIx (eVar 5) (eC (.str [115, 101, 110, 100, 115]))) (eC (.int 0)))) (tE (e2 opGt (eCall 2 F__law_draw (aCons (eVar 0) (aCons (eC (.int 3)) (aNil)))) (eC (.int 0)))))) (sAsg (e2 opAdd (eVar 6) (eTup (aCons (eTup (aCons (eC (.str [115, 101, 110, 100])) (aCons (eCall 2 F__law_pick (aCons (eVar 0) (aCons (eVar 3) (aNil)))) (aCons (eC .non) (aCons (eCall 3 F__law_e (aCons (eVar 0) (aCons (eVar 1) (aCons (eC (.int 2)) (aNil))))) (aNil)))))) (aNil)))) (gVar 6)) (sNil))
  (sRet (eVar 6)))))
def F__law_row_tuple : Fn := pureFn (fnBody 1 2 (sRet (eB bTuple (aCons (eComp (iE (eSortN (eVar 0))) (gVar 1) (tE (e2 opNe (eIxN (eVar 0) (eVar 1)) (eC (.int 0)))) (eTup (aCons (eVar 1) (aCons (eIxN (eVar 0) (eVar 1)) (aNil)))) [1]) (aNil)))))
def F__law_rows : Fn := fnBody 3 6 (sSeq (sAsg (eDctN) (gVar 3))
  (sSeq (sFor (iE (eVar 1)) (gVar 4) (sFor (iE (eVar 2)) (gVar 5) (sIf (tE (e2 opGt (eCall 2 F__law_draw (aCons (eVar 0) (aCons (eC (.int 3)) (aNil)))) (eC (.int 0)))) (sAsg (eCall 1 F__law_number (aCons (eVar 0) (aNil))) (gItem (eVar 3) (eTup (aCons (eVar 4) (aCons (eVar 5) (aNil)))))) (sNil))))
  (sRet (eCall 1 F__law_row_tuple (aCons (eVar 3) (aNil))))))
def F_is_tree : Fn := pureFn (fnBody 3 3 (sRet (eAnd (e1 (bIsi .tuple) (eVar 0)) (eAnd (e2 opEq (eB bLen (aCons (eVar 0) (aNil))) (eVar 2)) (eAnd (e1 (bIsi .str) (e2 opIx (eVar 0) (eC (.int 0)))) (e2 opEq (e2 opIx (eVar 0) (eC (.int 0))) (eVar 1)))))))
def F_is_word : Fn := pureFn (fnBody 1 2 (sSeq (sIf (tOr (tNot (tE (e1 (bIsi .str) (eVar 0)))) (tNot (tE (eChain opLe opLe (eC (.int 1)) (eB bLen (aCons (eVar 0) (aNil))) (eC (.int 6)))))) (sRet (eC (.bl false))) (sNil))
  (sRet (eB bAll (aCons (eComp (iE (eVar 0)) (gVar 1) (tYes) (e2 opIn (eVar 1) (eC (.str [97, 98, 99, 100, 101, 102, 103, 104, 105, 106, 107, 108, 109, 110, 111, 112, 113, 114, 115, 116, 117, 118, 119, 120, 121, 122]))) [1]) (aNil))))))
def F_is_integer : Fn := pureFn (fnBody 1 1 (sRet (eAnd (e1 (bIsi .int) (eVar 0)) (eNot (e1 (bIsi .bool) (eVar 0))))))
def F_is_value : Fn := pureFn (fnBody 1 1 (sRet (eAnd (eCall 1 F_is_integer (aCons (eVar 0) (aNil))) (eChain opLe opLe (e1 opNeg (eC (.int 99))) (eVar 0) (eC (.int 99))))))
def R_is_expression : Nat → Fn
  | 0 => badFn
  | n + 1 => pureFn (fnBody 2 3 (sSeq (sIf (tE (e2 opEq (eVar 1) (eC (.int 0)))) (sRet (eC (.bl false))) (sNil))
  (sSeq (sIf (tE (eCall 3 F_is_tree (aCons (eVar 0) (aCons (eC (.str [118, 97, 108, 117, 101])) (aCons (eC (.int 2)) (aNil)))))) (sRet (eCall 1 F_is_value (aCons (e2 opIx (eVar 0) (eC (.int 1))) (aNil)))) (sNil))
  (sSeq (sIf (tE (eCall 3 F_is_tree (aCons (eVar 0) (aCons (eC (.str [114, 111, 119])) (aCons (eC (.int 2)) (aNil)))))) (sRet (eCall 1 F_is_word (aCons (e2 opIx (eVar 0) (eC (.int 1))) (aNil)))) (sNil))
  (sSeq (sIf (tE (eB bAny (aCons (eComp (iE (eC (.tup [(.str [43]), (.str [45]), (.str [42])]))) (gVar 2) (tYes) (eCall 3 F_is_tree (aCons (eVar 0) (aCons (eVar 2) (aCons (eC (.int 3)) (aNil))))) [2]) (aNil)))) (sRet (eAnd (eCall 2 (R_is_expression n) (aCons (e2 opIx (eVar 0) (eC (.int 1))) (aCons (e2 opSub (eVar 1) (eC (.int 1))) (aNil)))) (eCall 2 (R_is_expression n) (aCons (e2 opIx (eVar 0) (eC (.int 2))) (aCons (e2 opSub (eVar 1) (eC (.int 1))) (aNil)))))) (sNil))
  (sRet (eCall 3 F_is_tree (aCons (eVar 0) (aCons (eC (.str [98, 111, 100, 121])) (aCons (eC (.int 1)) (aNil)))))))))))
def F_is_expression : Fn := R_is_expression 12
def R_is_condition : Nat → Fn
  | 0 => badFn
  | n + 1 => pureFn (fnBody 2 4 (sSeq (sIf (tE (e2 opEq (eVar 1) (eC (.int 0)))) (sRet (eC (.bl false))) (sNil))
  (sSeq (sIf (tE (eB bAny (aCons (eComp (iE (eC (.tup [(.str [60]), (.str [61])]))) (gVar 2) (tYes) (eCall 3 F_is_tree (aCons (eVar 0) (aCons (eVar 2) (aCons (eC (.int 3)) (aNil))))) [2]) (aNil)))) (sRet (eAnd (eCall 2 F_is_expression (aCons (e2 opIx (eVar 0) (eC (.int 1))) (aCons (eC (.int 6)) (aNil)))) (eCall 2 F_is_expression (aCons (e2 opIx (eVar 0) (eC (.int 2))) (aCons (eC (.int 6)) (aNil)))))) (sNil))
  (sSeq (sIf (tE (eB bAny (aCons (eComp (iE (eC (.tup [(.str [97, 110, 100]), (.str [111, 114])]))) (gVar 3) (tYes) (eCall 3 F_is_tree (aCons (eVar 0) (aCons (eVar 3) (aCons (eC (.int 3)) (aNil))))) [3]) (aNil)))) (sRet (eAnd (eCall 2 (R_is_condition n) (aCons (e2 opIx (eVar 0) (eC (.int 1))) (aCons (e2 opSub (eVar 1) (eC (.int 1))) (aNil)))) (eCall 2 (R_is_condition n) (aCons (e2 opIx (eVar 0) (eC (.int 2))) (aCons (e2 opSub (eVar 1) (eC (.int 1))) (aNil)))))) (sNil))
  (sRet (eAnd (eCall 3 F_is_tree (aCons (eVar 0) (aCons (eC (.str [110, 111, 116])) (aCons (eC (.int 2)) (aNil))))) (eCall 2 (R_is_condition n) (aCons (e2 opIx (eVar 0) (eC (.int 1))) (aCons (e2 opSub (eVar 1) (eC (.int 1))) (aNil))))))))))
def F_is_condition : Fn := R_is_condition 12
mutual
def R_are_deeds : Nat → Fn
  | 0 => badFn
  | n + 1 => pureFn (fnBody 2 3 (sRet (eAnd (e1 (bIsi .tuple) (eVar 0)) (eB bAll (aCons (eComp (iE (eVar 0)) (gVar 2) (tYes) (eCall 2 (R_is_deed n) (aCons (eVar 2) (aCons (eVar 1) (aNil)))) [2]) (aNil))))))
def R_is_deed : Nat → Fn
  | 0 => badFn
  | n + 1 => pureFn (fnBody 2 4 (sSeq (sIf (tE (eCall 3 F_is_tree (aCons (eVar 0) (aCons (eC (.str [115, 101, 116])) (aCons (eC (.int 3)) (aNil)))))) (sRet (eAnd (eCall 1 F_is_word (aCons (e2 opIx (eVar 0) (eC (.int 1))) (aNil))) (eCall 2 F_is_expression (aCons (e2 opIx (eVar 0) (eC (.int 2))) (aCons (eC (.int 6)) (aNil)))))) (sNil))
  (sSeq (sIf (tE (eCall 3 F_is_tree (aCons (eVar 0) (aCons (eC (.str [115, 101, 110, 100])) (aCons (eC (.int 4)) (aNil)))))) (sSeq (sAsg (eOr (eIsN (e2 opIx (eVar 0) (eC (.int 2)))) (eCall 1 F_is_word (aCons (e2 opIx (eVar 0) (eC (.int 2))) (aNil)))) (gVar 2))
  (sRet (eAnd (eCall 1 F_is_word (aCons (e2 opIx (eVar 0) (eC (.int 1))) (aNil))) (eAnd (eVar 2) (eCall 2 F_is_expression (aCons (e2 opIx (eVar 0) (eC (.int 3))) (aCons (eC (.int 6)) (aNil)))))))) (sNil))
  (sSeq (sIf (tE (eCall 3 F_is_tree (aCons (eVar 0) (aCons (eC (.str [105, 102])) (aCons (eC (.int 4)) (aNil)))))) (sSeq (sAsg (eAnd (e2 opGt (eVar 1) (eC (.int 0))) (eCall 2 F_is_condition (aCons (e2 opIx (eVar 0) (eC (.int 1))) (aCons (eC (.int 6)) (aNil))))) (gVar 3))
  (sRet (eAnd (eVar 3) (eAnd (eCall 2 (R_are_deeds n) (aCons (e2 opIx (eVar 0) (eC (.int 2))) (aCons (e2 opSub (eVar 1) (eC (.int 1))) (aNil)))) (eCall 2 (R_are_deeds n) (aCons (e2 opIx (eVar 0) (eC (.int 3))) (aCons (e2 opSub (eVar 1) (eC (.int 1))) (aNil)))))))) (sNil))
  (sRet (eCall 3 F_is_tree (aCons (eVar 0) (aCons (eC (.str [102, 97, 105, 108])) (aCons (eC (.int 1)) (aNil))))))))))
end
def F_are_deeds : Fn := R_are_deeds 12
def F_is_deed : Fn := R_is_deed 12
def R_count_deeds : Nat → Fn
  | 0 => badFn
  | n + 1 => pureFn (fnBody 1 3 (sSeq (sAsg (eComp (iE (eVar 0)) (gVar 2) (tE (e2 opEq (e2 opIx (eVar 2) (eC (.int 0))) (eC (.str [105, 102])))) (e2 opAdd (eCall 1 (R_count_deeds n) (aCons (e2 opIx (eVar 2) (eC (.int 2))) (aNil))) (eCall 1 (R_count_deeds n) (aCons (e2 opIx (eVar 2) (eC (.int 3))) (aNil)))) [2]) (gVar 1))
  (sRet (e2 opAdd (eB bLen (aCons (eVar 0) (aNil))) (eB bSum (aCons (eVar 1) (aNil)))))))
def F_count_deeds : Fn := R_count_deeds 12
def F_is_handler : Fn := pureFn (fnBody 1 1 (sRet (eAnd (eCall 2 F_are_deeds (aCons (eVar 0) (aCons (eC (.int 3)) (aNil)))) (e2 opLe (eCall 1 F_count_deeds (aCons (eVar 0) (aNil))) (eC (.int 12))))))
def F_need_handler : Fn := pureFn (fnBody 1 1 (sIf (tNot (tE (eCall 1 F_is_handler (aCons (eVar 0) (aNil))))) (sBad) (sNil)))
def F_is_cell : Fn := pureFn (fnBody 1 1 (sRet (eAnd (e1 (bIsi .tuple) (eVar 0)) (eAnd (e2 opEq (eB bLen (aCons (eVar 0) (aNil))) (eC (.int 2))) (eAnd (eCall 1 F_is_word (aCons (e2 opIx (eVar 0) (eC (.int 0))) (aNil))) (eCall 1 F_is_word (aCons (e2 opIx (eVar 0) (eC (.int 1))) (aNil))))))))
def F_is_row : Fn := pureFn (fnBody 1 1 (sSeq (sIf (tOr (tNot (tE (e1 (bIsi .tuple) (eVar 0)))) (tE (e2 opNe (eB bLen (aCons (eVar 0) (aNil))) (eC (.int 2))))) (sRet (eC (.bl false))) (sNil))
  (sRet (eAnd (eCall 1 F_is_cell (aCons (e2 opIx (eVar 0) (eC (.int 0))) (aNil))) (eAnd (eCall 1 F_is_value (aCons (e2 opIx (eVar 0) (eC (.int 1))) (aNil))) (e2 opNe (e2 opIx (eVar 0) (eC (.int 1))) (eC (.int 0))))))))
def F_are_rows : Fn := pureFn (fnBody 1 7 (sSeq (sIf (tOr (tNot (tE (e1 (bIsi .tuple) (eVar 0)))) (tNot (tE (eB bAll (aCons (eComp (iE (eVar 0)) (gVar 6) (tYes) (eCall 1 F_is_row (aCons (eVar 6) (aNil))) [6]) (aNil)))))) (sRet (eC (.bl false))) (sNil))
  (sSeq (sAsg (eComp (iE (eVar 0)) (gTup (gVar 2 :: gVar 3 :: [])) (tYes) (eVar 2) [2, 3]) (gVar 1))
  (sRet (eB bAll (aCons (eComp (iZip (aCons (eVar 1) (aCons (eSl (eVar 1) (oSome (eC (.int 1))) (oNone)) (aNil)))) (gTup (gVar 4 :: gVar 5 :: [])) (tYes) (e2 opLt (eVar 4) (eVar 5)) [4, 5]) (aNil)))))))
def F_is_message : Fn := pureFn (fnBody 1 1 (sSeq (sIf (tOr (tNot (tE (e1 (bIsi .tuple) (eVar 0)))) (tE (e2 opNe (eB bLen (aCons (eVar 0) (aNil))) (eC (.int 3))))) (sRet (eC (.bl false))) (sNil))
  (sRet (eAnd (eCall 1 F_is_word (aCons (e2 opIx (eVar 0) (eC (.int 0))) (aNil))) (eAnd (eCall 1 F_is_word (aCons (e2 opIx (eVar 0) (eC (.int 1))) (aNil))) (eCall 1 F_is_value (aCons (e2 opIx (eVar 0) (eC (.int 2))) (aNil))))))))
def F_Run___init__ : Fn := fnBody 3 3 (sSeq (sFld 0 [111, 119, 110, 95, 118, 97, 108, 117, 101, 115] (eVar 0) (eDictN (eVar 1)))
  (sSeq (sFld 0 [111, 119, 110, 95, 107, 101, 121] (eVar 0) (e2 opIx (eVar 2) (eC (.int 1))))
  (sSeq (sFld 0 [111, 119, 110, 95, 98, 111, 100, 121] (eVar 0) (e2 opIx (eVar 2) (eC (.int 2))))
  (sSeq (sFld 0 [111, 119, 110, 95, 114, 101, 97, 100, 115] (eVar 0) (eDctM []))
  (sSeq (sFld 0 [111, 119, 110, 95, 115, 101, 116, 115] (eVar 0) (eDctM []))
  (sFld 0 [111, 119, 110, 95, 115, 101, 110, 100, 115] (eVar 0) (eLstM (aNil))))))))
def F_held_within : Fn := pureFn (fnBody 1 1 (sRet (eB bMax (aCons (e1 opNeg (eC (.int 99))) (aCons (eB bMin (aCons (eC (.int 99)) (aCons (eVar 0) (aNil)))) (aNil))))))
def F_Run_row_value : Fn := fnBody 2 2 (sSeq (sIf (tE (e2 opNotIn (eVar 1) (eFld 0 [111, 119, 110, 95, 115, 101, 116, 115] (eVar 0)))) (sAsg (eC (.bl true)) (gItem (eFld 0 [111, 119, 110, 95, 114, 101, 97, 100, 115] (eVar 0)) (eVar 1))) (sNil))
  (sRet (eGetN (eFld 0 [111, 119, 110, 95, 118, 97, 108, 117, 101, 115] (eVar 0)) (eTup (aCons (eVar 1) (aCons (eFld 0 [111, 119, 110, 95, 107, 101, 121] (eVar 0)) (aNil)))) (eC (.int 0)))))
def R_Run_value_of : Nat → Fn
  | 0 => badFn
  | n + 1 => fnBody 2 4 (sSeq (sIf (tE (e2 opEq (e2 opIx (eVar 1) (eC (.int 0))) (eC (.str [118, 97, 108, 117, 101])))) (sRet (e2 opIx (eVar 1) (eC (.int 1)))) (sNil))
  (sSeq (sIf (tE (e2 opEq (e2 opIx (eVar 1) (eC (.int 0))) (eC (.str [98, 111, 100, 121])))) (sRet (eFld 0 [111, 119, 110, 95, 98, 111, 100, 121] (eVar 0))) (sNil))
  (sSeq (sIf (tE (e2 opEq (e2 opIx (eVar 1) (eC (.int 0))) (eC (.str [114, 111, 119])))) (sRet (eMeth 0 [114, 111, 119, 95, 118, 97, 108, 117, 101] 2 F_Run_row_value (eVar 0) (aCons (e2 opIx (eVar 1) (eC (.int 1))) (aNil)))) (sNil))
  (sSeq (sPar 2 3 (aCons (eMeth 0 [118, 97, 108, 117, 101, 95, 111, 102] 2 (R_Run_value_of n) (eVar 0) (aCons (e2 opIx (eVar 1) (eC (.int 1))) (aNil))) (aCons (eMeth 0 [118, 97, 108, 117, 101, 95, 111, 102] 2 (R_Run_value_of n) (eVar 0) (aCons (e2 opIx (eVar 1) (eC (.int 2))) (aNil))) (aNil))))
  (sRet (eCall 1 F_held_within (aCons (e2 opIx (eDct ((eC (.str [43]), e2 opAdd (eVar 2) (eVar 3)) :: (eC (.str [45]), e2 opSub (eVar 2) (eVar 3)) :: (eC (.str [42]), e2 opMul (eVar 2) (eVar 3)) :: [])) (e2 opIx (eVar 1) (eC (.int 0)))) (aNil))))))))
def F_Run_value_of : Fn := R_Run_value_of 12
def R_Run_truth_of : Nat → Fn
  | 0 => badFn
  | n + 1 => fnBody 2 5 (sSeq (sIf (tE (e2 opEq (e2 opIx (eVar 1) (eC (.int 0))) (eC (.str [110, 111, 116])))) (sRet (eNot (eMeth 0 [116, 114, 117, 116, 104, 95, 111, 102] 2 (R_Run_truth_of n) (eVar 0) (aCons (e2 opIx (eVar 1) (eC (.int 1))) (aNil))))) (sNil))
  (sSeq (sIf (tE (e2 opIn (e2 opIx (eVar 1) (eC (.int 0))) (eC (.tup [(.str [97, 110, 100]), (.str [111, 114])])))) (sSeq (sAsg (eLst (aCons (eMeth 0 [116, 114, 117, 116, 104, 95, 111, 102] 2 (R_Run_truth_of n) (eVar 0) (aCons (e2 opIx (eVar 1) (eC (.int 1))) (aNil))) (aCons (eMeth 0 [116, 114, 117, 116, 104, 95, 111, 102] 2 (R_Run_truth_of n) (eVar 0) (aCons (e2 opIx (eVar 1) (eC (.int 2))) (aNil))) (aNil)))) (gVar 2))
  (sRet (eIf (tE (e2 opEq (e2 opIx (eVar 1) (eC (.int 0))) (eC (.str [97, 110, 100])))) (eB bAll (aCons (eVar 2) (aNil))) (eB bAny (aCons (eVar 2) (aNil)))))) (sNil))
  (sSeq (sPar 3 4 (aCons (eMeth 0 [118, 97, 108, 117, 101, 95, 111, 102] 2 F_Run_value_of (eVar 0) (aCons (e2 opIx (eVar 1) (eC (.int 1))) (aNil))) (aCons (eMeth 0 [118, 97, 108, 117, 101, 95, 111, 102] 2 F_Run_value_of (eVar 0) (aCons (e2 opIx (eVar 1) (eC (.int 2))) (aNil))) (aNil))))
  (sRet (eIf (tE (e2 opEq (e2 opIx (eVar 1) (eC (.int 0))) (eC (.str [60])))) (e2 opLt (eVar 3) (eVar 4)) (e2 opEq (eVar 3) (eVar 4)))))))
def F_Run_truth_of : Fn := R_Run_truth_of 12
mutual
def R_Run_is_done : Nat → Fn
  | 0 => badFn
  | n + 1 => fnBody 2 3 (sSeq (sFor (iE (eVar 1)) (gVar 2) (sIf (tNot (tE (eMeth 0 [105, 115, 95, 100, 101, 101, 100, 95, 100, 111, 110, 101] 2 (R_Run_is_deed_done n) (eVar 0) (aCons (eVar 2) (aNil))))) (sRet (eC (.bl false))) (sNil)))
  (sRet (eC (.bl true))))
def R_Run_is_deed_done : Nat → Fn
  | 0 => badFn
  | n + 1 => fnBody 2 3 (sSeq (sIf (tE (e2 opEq (e2 opIx (eVar 1) (eC (.int 0))) (eC (.str [115, 101, 116])))) (sSeq (sAsg (eMeth 0 [118, 97, 108, 117, 101, 95, 111, 102] 2 F_Run_value_of (eVar 0) (aCons (e2 opIx (eVar 1) (eC (.int 2))) (aNil))) (gItem (eFld 0 [111, 119, 110, 95, 118, 97, 108, 117, 101, 115] (eVar 0)) (eTup (aCons (e2 opIx (eVar 1) (eC (.int 1))) (aCons (eFld 0 [111, 119, 110, 95, 107, 101, 121] (eVar 0)) (aNil))))))
  (sAsg (eC (.bl true)) (gItem (eFld 0 [111, 119, 110, 95, 115, 101, 116, 115] (eVar 0)) (e2 opIx (eVar 1) (eC (.int 1)))))) (sNil))
  (sSeq (sIf (tE (e2 opEq (e2 opIx (eVar 1) (eC (.int 0))) (eC (.str [115, 101, 110, 100])))) (sSeq (sAsg (eIf (tE (eIsN (e2 opIx (eVar 1) (eC (.int 2))))) (eFld 0 [111, 119, 110, 95, 107, 101, 121] (eVar 0)) (e2 opIx (eVar 1) (eC (.int 2)))) (gVar 2))
  (sExpr (eApp (eFld 0 [111, 119, 110, 95, 115, 101, 110, 100, 115] (eVar 0)) (eTup (aCons (e2 opIx (eVar 1) (eC (.int 1))) (aCons (eVar 2) (aCons (eMeth 0 [118, 97, 108, 117, 101, 95, 111, 102] 2 F_Run_value_of (eVar 0) (aCons (e2 opIx (eVar 1) (eC (.int 3))) (aNil))) (aNil)))))))) (sNil))
  (sSeq (sIf (tE (e2 opEq (e2 opIx (eVar 1) (eC (.int 0))) (eC (.str [105, 102])))) (sRet (eMeth 0 [105, 115, 95, 100, 111, 110, 101] 2 (R_Run_is_done n) (eVar 0) (aCons (eIf (tE (eMeth 0 [116, 114, 117, 116, 104, 95, 111, 102] 2 F_Run_truth_of (eVar 0) (aCons (e2 opIx (eVar 1) (eC (.int 1))) (aNil)))) (e2 opIx (eVar 1) (eC (.int 2))) (e2 opIx (eVar 1) (eC (.int 3)))) (aNil)))) (sNil))
  (sRet (e2 opNe (e2 opIx (eVar 1) (eC (.int 0))) (eC (.str [102, 97, 105, 108])))))))
end
def F_Run_is_done : Fn := R_Run_is_done 12
def F_Run_is_deed_done : Fn := R_Run_is_deed_done 12
def F_Run_rows_left : Fn := fnBody 1 3 (sSeq (sAsg (eFld 0 [111, 119, 110, 95, 118, 97, 108, 117, 101, 115] (eVar 0)) (gVar 1))
  (sRet (eB bTuple (aCons (eComp (iE (eSortN (eVar 1))) (gVar 2) (tE (e2 opNe (eIxN (eVar 1) (eVar 2)) (eC (.int 0)))) (eTup (aCons (eVar 2) (aCons (eIxN (eVar 1) (eVar 2)) (aNil)))) [2]) (aNil)))))
def F_traced : Fn := pureFn (fnBody 3 5 (sSeq (sAsg (eMake 0 3 F_Run___init__ (aCons (eVar 1) (aCons (eVar 2) (aNil)))) (gVar 3))
  (sSeq (sIf (tNot (tE (eMeth 0 [105, 115, 95, 100, 111, 110, 101] 2 F_Run_is_done (eVar 3) (aCons (eVar 0) (aNil))))) (sRet (eTup (aCons (eTup (aCons (eC (.str [102, 97, 105, 108, 101, 100])) (aNil))) (aCons (eB bTuple (aCons (eB bSorted (aCons (eFld 0 [111, 119, 110, 95, 114, 101, 97, 100, 115] (eVar 3)) (aNil))) (aNil))) (aCons (eTup (aNil)) (aNil)))))) (sNil))
  (sSeq (sAsg (eTup (aCons (eC (.str [100, 111, 110, 101])) (aCons (eMeth 0 [114, 111, 119, 115, 95, 108, 101, 102, 116] 1 F_Run_rows_left (eVar 3) aNil) (aCons (eB bTuple (aCons (eFld 0 [111, 119, 110, 95, 115, 101, 110, 100, 115] (eVar 3)) (aNil))) (aNil))))) (gVar 4))
  (sRet (eTup (aCons (eVar 4) (aCons (eB bTuple (aCons (eB bSorted (aCons (eFld 0 [111, 119, 110, 95, 114, 101, 97, 100, 115] (eVar 3)) (aNil))) (aNil))) (aCons (eB bTuple (aCons (eB bSorted (aCons (eFld 0 [111, 119, 110, 95, 115, 101, 116, 115] (eVar 3)) (aNil))) (aNil))) (aNil))))))))))
def F_run_handler : Fn := pureFn (fnBody 3 3 (sSeq (sExpr (eCall 1 F_need_handler (aCons (eVar 0) (aNil))))
  (sSeq (sIf (tNot (tE (eCall 1 F_are_rows (aCons (eVar 1) (aNil))))) (sBad) (sNil))
  (sSeq (sIf (tNot (tE (eCall 1 F_is_message (aCons (eVar 2) (aNil))))) (sBad) (sNil))
  (sRet (e2 opIx (eCall 3 F_traced (aCons (eVar 0) (aCons (eVar 1) (aCons (eVar 2) (aNil))))) (eC (.int 0))))))))
def F__law_words : Fn := fnBody 2 8 (sSeq (sAsg (eC (.str [97, 98, 99, 100, 101, 102, 103, 104, 105, 106, 107, 108, 109, 110, 111, 112, 113, 114, 115, 116, 117, 118, 119, 120, 121, 122])) (gVar 2))
  (sSeq (sAsg (e1 (opJoin (.str [])) (eComp (iRange (eCall 2 F__law_draw (aCons (eVar 0) (aCons (eC (.int 6)) (aNil))))) (gVar 7) (tYes) (eCall 2 F__law_pick (aCons (eVar 0) (aCons (eVar 2) (aNil)))) [7])) (gVar 3))
  (sSeq (sParN [5, 6] (aCons (eCall 2 F__law_draw (aCons (eVar 0) (aCons (e2 opAdd (eB bLen (aCons (eVar 3) (aNil))) (eC (.int 1))) (aNil)))) (aCons (eCall 2 F__law_draw (aCons (eVar 0) (aCons (eC (.int 26)) (aNil)))) (aNil))))
  (sSeq (sAsg (eCall 2 F__law_pick (aCons (eVar 0) (aCons (eLst (aCons (eC (.int 1)) (aCons (eC (.int 3)) (aCons (eC (.int 5)) (aCons (eC (.int 7)) (aCons (eC (.int 9)) (aCons (eC (.int 11)) (aCons (eC (.int 15)) (aCons (eC (.int 17)) (aCons (eC (.int 19)) (aCons (eC (.int 21)) (aCons (eC (.int 23)) (aCons (eC (.int 25)) (aNil)))))))))))))) (aNil)))) (gVar 4))
  (sRet (eComp (iRange (eVar 1)) (gVar 7) (tYes) (e2 opAdd (e2 opAdd (eSl (eVar 3) (oNone) (oSome (eVar 5))) (e2 opIx (eVar 2) (e2 opMod (eB bInt (aCons (e2 opAdd (eVar 6) (e2 opMul (eVar 4) (eVar 7))) (aNil))) (eC (.int 26))))) (eSl (eVar 3) (oSome (eVar 5)) (oNone))) [7]))))))
def R__law_worth : Nat → Fn
  | 0 => badFn
  | n + 1 => pureFn (fnBody 4 7 (sSeq (sIf (tE (e2 opEq (e2 opIx (eVar 0) (eC (.int 0))) (eC (.str [118, 97, 108, 117, 101])))) (sRet (e2 opIx (eVar 0) (eC (.int 1)))) (sNil))
  (sSeq (sIf (tE (e2 opEq (e2 opIx (eVar 0) (eC (.int 0))) (eC (.str [98, 111, 100, 121])))) (sRet (eVar 3)) (sNil))
  (sSeq (sIf (tE (e2 opEq (e2 opIx (eVar 0) (eC (.int 0))) (eC (.str [114, 111, 119])))) (sRet (eGetN (eVar 1) (eTup (aCons (e2 opIx (eVar 0) (eC (.int 1))) (aCons (eVar 2) (aNil)))) (eC (.int 0)))) (sNil))
  (sSeq (sPar 5 6 (aCons (eCall 4 (R__law_worth n) (aCons (e2 opIx (eVar 0) (eC (.int 1))) (aCons (eVar 1) (aCons (eVar 2) (aCons (eVar 3) (aNil)))))) (aCons (eCall 4 (R__law_worth n) (aCons (e2 opIx (eVar 0) (eC (.int 2))) (aCons (eVar 1) (aCons (eVar 2) (aCons (eVar 3) (aNil)))))) (aNil))))
  (sSeq (sAsg (eIf (tE (e2 opEq (e2 opIx (eVar 0) (eC (.int 0))) (eC (.str [43])))) (e2 opAdd (eVar 5) (eVar 6)) (eIf (tE (e2 opEq (e2 opIx (eVar 0) (eC (.int 0))) (eC (.str [45])))) (e2 opSub (eVar 5) (eVar 6)) (e2 opMul (eVar 5) (eVar 6)))) (gVar 4))
  (sRet (eIf (tE (e2 opGt (eVar 4) (eC (.int 99)))) (eC (.int 99)) (eIf (tE (e2 opLt (eVar 4) (e1 opNeg (eC (.int 99))))) (e1 opNeg (eC (.int 99))) (eVar 4))))))))))
def F__law_worth : Fn := R__law_worth 12
def R__law_holds : Nat → Fn
  | 0 => badFn
  | n + 1 => pureFn (fnBody 4 6 (sSeq (sIf (tE (e2 opEq (e2 opIx (eVar 0) (eC (.int 0))) (eC (.str [110, 111, 116])))) (sRet (eNot (eCall 4 (R__law_holds n) (aCons (e2 opIx (eVar 0) (eC (.int 1))) (aCons (eVar 1) (aCons (eVar 2) (aCons (eVar 3) (aNil)))))))) (sNil))
  (sSeq (sIf (tE (e2 opEq (e2 opIx (eVar 0) (eC (.int 0))) (eC (.str [97, 110, 100])))) (sRet (eAnd (eCall 4 (R__law_holds n) (aCons (e2 opIx (eVar 0) (eC (.int 1))) (aCons (eVar 1) (aCons (eVar 2) (aCons (eVar 3) (aNil)))))) (eCall 4 (R__law_holds n) (aCons (e2 opIx (eVar 0) (eC (.int 2))) (aCons (eVar 1) (aCons (eVar 2) (aCons (eVar 3) (aNil)))))))) (sNil))
  (sSeq (sIf (tE (e2 opEq (e2 opIx (eVar 0) (eC (.int 0))) (eC (.str [111, 114])))) (sRet (eOr (eCall 4 (R__law_holds n) (aCons (e2 opIx (eVar 0) (eC (.int 1))) (aCons (eVar 1) (aCons (eVar 2) (aCons (eVar 3) (aNil)))))) (eCall 4 (R__law_holds n) (aCons (e2 opIx (eVar 0) (eC (.int 2))) (aCons (eVar 1) (aCons (eVar 2) (aCons (eVar 3) (aNil)))))))) (sNil))
  (sSeq (sPar 4 5 (aCons (eCall 4 F__law_worth (aCons (e2 opIx (eVar 0) (eC (.int 1))) (aCons (eVar 1) (aCons (eVar 2) (aCons (eVar 3) (aNil)))))) (aCons (eCall 4 F__law_worth (aCons (e2 opIx (eVar 0) (eC (.int 2))) (aCons (eVar 1) (aCons (eVar 2) (aCons (eVar 3) (aNil)))))) (aNil))))
  (sRet (eIf (tE (e2 opEq (e2 opIx (eVar 0) (eC (.int 0))) (eC (.str [60])))) (e2 opLt (eVar 4) (eVar 5)) (e2 opEq (eVar 4) (eVar 5)))))))))
def F__law_holds : Fn := R__law_holds 12
def R__law_did : Nat → Fn
  | 0 => badFn
  | n + 1 => fnBody 5 6 (sSeq (sFor (iE (eVar 0)) (gVar 5) (sSeq (sIf (tE (e2 opEq (e2 opIx (eVar 5) (eC (.int 0))) (eC (.str [102, 97, 105, 108])))) (sRet (eC (.bl false))) (sNil))
  (sIf (tE (e2 opEq (e2 opIx (eVar 5) (eC (.int 0))) (eC (.str [115, 101, 116])))) (sAsg (eCall 4 F__law_worth (aCons (e2 opIx (eVar 5) (eC (.int 2))) (aCons (eVar 1) (aCons (eVar 3) (aCons (eVar 4) (aNil)))))) (gItem (eVar 1) (eTup (aCons (e2 opIx (eVar 5) (eC (.int 1))) (aCons (eVar 3) (aNil)))))) (sIf (tE (e2 opEq (e2 opIx (eVar 5) (eC (.int 0))) (eC (.str [115, 101, 110, 100])))) (sExpr (eApp (eVar 2) (eTup (aCons (e2 opIx (eVar 5) (eC (.int 1))) (aCons (eIf (tE (eIsN (e2 opIx (eVar 5) (eC (.int 2))))) (eVar 3) (e2 opIx (eVar 5) (eC (.int 2)))) (aCons (eCall 4 F__law_worth (aCons (e2 opIx (eVar 5) (eC (.int 3))) (aCons (eVar 1) (aCons (eVar 3) (aCons (eVar 4) (aNil)))))) (aNil))))))) (sIf (tNot (tE (eCall 5 (R__law_did n) (aCons (eIf (tE (eCall 4 F__law_holds (aCons (e2 opIx (eVar 5) (eC (.int 1))) (aCons (eVar 1) (aCons (eVar 3) (aCons (eVar 4) (aNil))))))) (e2 opIx (eVar 5) (eC (.int 2))) (e2 opIx (eVar 5) (eC (.int 3)))) (aCons (eVar 1) (aCons (eVar 2) (aCons (eVar 3) (aCons (eVar 4) (aNil))))))))) (sRet (eC (.bl false))) (sNil))))))
  (sRet (eC (.bl true))))
def F__law_did : Fn := R__law_did 12
def F__law_run : Fn := pureFn (fnBody 3 5 (sSeq (sPar 3 4 (aCons (eDictN (eVar 1)) (aCons (eLstM (aNil)) (aNil))))
  (sSeq (sIf (tNot (tE (eCall 5 F__law_did (aCons (eVar 0) (aCons (eVar 3) (aCons (eVar 4) (aCons (e2 opIx (eVar 2) (eC (.int 1))) (aCons (e2 opIx (eVar 2) (eC (.int 2))) (aNil))))))))) (sRet (eTup (aCons (eC (.str [102, 97, 105, 108, 101, 100])) (aNil)))) (sNil))
  (sRet (eTup (aCons (eC (.str [100, 111, 110, 101])) (aCons (eCall 1 F__law_row_tuple (aCons (eVar 3) (aNil))) (aCons (eB bTuple (aCons (eVar 4) (aNil))) (aNil)))))))))
def F_law : Fn := fnBody 1 13 (sSeq (sAsg (eCall 1 F__law_pen (aCons (eVar 0) (aNil))) (gVar 1))
  (sSeq (sFor (iRange (eC (.int 20))) (gVar 2) (sSeq (sPar3 6 7 8 (aCons (eCall 2 F__law_words (aCons (eVar 1) (aCons (eC (.int 2)) (aNil)))) (aCons (eCall 2 F__law_words (aCons (eVar 1) (aCons (eC (.int 2)) (aNil)))) (aCons (eCall 2 F__law_words (aCons (eVar 1) (aCons (eC (.int 3)) (aNil)))) (aNil)))))
  (sSeq (sAsg (eCall 5 F__law_handler (aCons (eVar 1) (aCons (eVar 6) (aCons (eVar 7) (aCons (eVar 8) (aCons (eC (.int 3)) (aNil))))))) (gVar 3))
  (sSeq (sAsg (eCall 3 F__law_rows (aCons (eVar 1) (aCons (eVar 6) (aCons (eVar 7) (aNil))))) (gVar 4))
  (sFor (iRange (eC (.int 4))) (gVar 5) (sSeq (sAsg (eTup (aCons (eCall 2 F__law_pick (aCons (eVar 1) (aCons (eVar 8) (aNil)))) (aCons (eCall 2 F__law_pick (aCons (eVar 1) (aCons (eVar 7) (aNil)))) (aCons (eCall 1 F__law_number (aCons (eVar 1) (aNil))) (aNil))))) (gVar 9))
  (sSeq (sAsg (eB bRepr (aCons (eLst (aCons (eVar 3) (aCons (eVar 4) (aCons (eVar 9) (aNil))))) (aNil))) (gVar 10))
  (sSeq (sPar 11 12 (aCons (eCall 3 F_run_handler (aCons (eVar 3) (aCons (eVar 4) (aCons (eVar 9) (aNil))))) (aCons (eCall 3 F__law_run (aCons (eVar 3) (aCons (eVar 4) (aCons (eVar 9) (aNil))))) (aNil))))
  (sSeq (sIf (tOr (tE (e2 opNe (eB bRepr (aCons (eVar 11) (aNil))) (eB bRepr (aCons (eVar 12) (aNil))))) (tE (e2 opNe (eB bRepr (aCons (eLst (aCons (eVar 3) (aCons (eVar 4) (aCons (eVar 9) (aNil))))) (aNil))) (eVar 10)))) (sRet (eC (.bl false))) (sNil))
  (sAsg (eIf (tE (e2 opEq (e2 opIx (eVar 12) (eC (.int 0))) (eC (.str [100, 111, 110, 101])))) (e2 opIx (eVar 12) (eC (.int 1))) (eVar 4)) (gVar 4)))))))))))
  (sRet (e2 opEq (eCall 3 F_run_handler (aCons (eTup (aNil)) (aCons (eTup (aNil)) (aCons (eTup (aCons (eC (.str [97])) (aCons (eC (.str [97])) (aCons (eC (.int 0)) (aNil))))) (aNil))))) (eTup (aCons (eC (.str [100, 111, 110, 101])) (aCons (eTup (aNil)) (aCons (eTup (aNil)) (aNil)))))))))
end K01
end Ev

set_option Elab.async false
set_option linter.all false
set_option maxRecDepth 100000
set_option maxHeartbeats 4000000
set_option autoImplicit false
namespace Ev
namespace K01
open PySem PySem.Spec PyProof.Rows L2
def top (i : Nat) : Stmt := PySem.Challenge.pw_oncepost_k01_runs_of_handlers.main.body.getD i (.Pass ⟨0, 0, 0, 0⟩)
/-- what the walk leans on -/
structure Facts (P : Program) (w : World) (T : Tb) (K : PySem.W.Frag) (mg : Str → Option Value) (fd : Nat → FuncData) : Prop where
  tw : T.w = w
  tp : T.P = P
  f__law_pen : FunD K "_law_pen" "_law_pen" (defArgs (top 35)) (defBody (top 35)) (defScope (top 35)) [] [] (gloAt "_law_pen" K) (fd 0)
  g__law_pen : mg "_law_pen" = some (.ref (gloAt "_law_pen" K))
  f__law_draw : FunD K "_law_draw" "_law_draw" (defArgs (top 36)) (defBody (top 36)) (defScope (top 36)) [] [] (gloAt "_law_draw" K) (fd 1)
  g__law_draw : mg "_law_draw" = some (.ref (gloAt "_law_draw" K))
  f__law_pick : FunD K "_law_pick" "_law_pick" (defArgs (top 37)) (defBody (top 37)) (defScope (top 37)) [] [] (gloAt "_law_pick" K) (fd 2)
  g__law_pick : mg "_law_pick" = some (.ref (gloAt "_law_pick" K))
  f__law_number : FunD K "_law_number" "_law_number" (defArgs (top 39)) (defBody (top 39)) (defScope (top 39)) [] [] (gloAt "_law_number" K) (fd 3)
  g__law_number : mg "_law_number" = some (.ref (gloAt "_law_number" K))
  f__law_leaf : FunD K "_law_leaf" "_law_leaf" (defArgs (top 40)) (defBody (top 40)) (defScope (top 40)) [] [] (gloAt "_law_leaf" K) (fd 4)
  g__law_leaf : mg "_law_leaf" = some (.ref (gloAt "_law_leaf" K))
  f__law_e : FunD K "_law_e" "_law_e" (defArgs (top 41)) (defBody (top 41)) (defScope (top 41)) [] [] (gloAt "_law_e" K) (fd 5)
  g__law_e : mg "_law_e" = some (.ref (gloAt "_law_e" K))
  f__law_c : FunD K "_law_c" "_law_c" (defArgs (top 42)) (defBody (top 42)) (defScope (top 42)) [] [] (gloAt "_law_c" K) (fd 6)
  g__law_c : mg "_law_c" = some (.ref (gloAt "_law_c" K))
  f__law_deeds : FunD K "_law_deeds" "_law_deeds" (defArgs (top 44)) (defBody (top 44)) (defScope (top 44)) [] [] (gloAt "_law_deeds" K) (fd 7)
  g__law_deeds : mg "_law_deeds" = some (.ref (gloAt "_law_deeds" K))
  f__law_deed : FunD K "_law_deed" "_law_deed" (defArgs (top 43)) (defBody (top 43)) (defScope (top 43)) [] [] (gloAt "_law_deed" K) (fd 8)
  g__law_deed : mg "_law_deed" = some (.ref (gloAt "_law_deed" K))
  f__law_handler : FunD K "_law_handler" "_law_handler" (defArgs (top 45)) (defBody (top 45)) (defScope (top 45)) [] [] (gloAt "_law_handler" K) (fd 9)
  g__law_handler : mg "_law_handler" = some (.ref (gloAt "_law_handler" K))
  f__law_row_tuple : FunD K "_law_row_tuple" "_law_row_tuple" (defArgs (top 47)) (defBody (top 47)) (defScope (top 47)) [] [] (gloAt "_law_row_tuple" K) (fd 10)
  g__law_row_tuple : mg "_law_row_tuple" = some (.ref (gloAt "_law_row_tuple" K))
  f__law_rows : FunD K "_law_rows" "_law_rows" (defArgs (top 46)) (defBody (top 46)) (defScope (top 46)) [] [] (gloAt "_law_rows" K) (fd 11)
  g__law_rows : mg "_law_rows" = some (.ref (gloAt "_law_rows" K))
  f_is_tree : FunD K "is_tree" "is_tree" (defArgs (top 22)) (defBody (top 22)) (defScope (top 22)) [] [] (gloAt "is_tree" K) (fd 12)
  g_is_tree : mg "is_tree" = some (.ref (gloAt "is_tree" K))
  f_is_word : FunD K "is_word" "is_word" (defArgs (top 8)) (defBody (top 8)) (defScope (top 8)) [] [] (gloAt "is_word" K) (fd 13)
  g_is_word : mg "is_word" = some (.ref (gloAt "is_word" K))
  f_is_integer : FunD K "is_integer" "is_integer" (defArgs (top 7)) (defBody (top 7)) (defScope (top 7)) [] [] (gloAt "is_integer" K) (fd 14)
  g_is_integer : mg "is_integer" = some (.ref (gloAt "is_integer" K))
  f_is_value : FunD K "is_value" "is_value" (defArgs (top 9)) (defBody (top 9)) (defScope (top 9)) [] [] (gloAt "is_value" K) (fd 15)
  g_is_value : mg "is_value" = some (.ref (gloAt "is_value" K))
  f_is_expression : FunD K "is_expression" "is_expression" (defArgs (top 23)) (defBody (top 23)) (defScope (top 23)) [] [] (gloAt "is_expression" K) (fd 16)
  g_is_expression : mg "is_expression" = some (.ref (gloAt "is_expression" K))
  f_is_condition : FunD K "is_condition" "is_condition" (defArgs (top 24)) (defBody (top 24)) (defScope (top 24)) [] [] (gloAt "is_condition" K) (fd 17)
  g_is_condition : mg "is_condition" = some (.ref (gloAt "is_condition" K))
  f_are_deeds : FunD K "are_deeds" "are_deeds" (defArgs (top 25)) (defBody (top 25)) (defScope (top 25)) [] [] (gloAt "are_deeds" K) (fd 18)
  g_are_deeds : mg "are_deeds" = some (.ref (gloAt "are_deeds" K))
  f_is_deed : FunD K "is_deed" "is_deed" (defArgs (top 26)) (defBody (top 26)) (defScope (top 26)) [] [] (gloAt "is_deed" K) (fd 19)
  g_is_deed : mg "is_deed" = some (.ref (gloAt "is_deed" K))
  f_count_deeds : FunD K "count_deeds" "count_deeds" (defArgs (top 27)) (defBody (top 27)) (defScope (top 27)) [] [] (gloAt "count_deeds" K) (fd 20)
  g_count_deeds : mg "count_deeds" = some (.ref (gloAt "count_deeds" K))
  f_is_handler : FunD K "is_handler" "is_handler" (defArgs (top 28)) (defBody (top 28)) (defScope (top 28)) [] [] (gloAt "is_handler" K) (fd 21)
  g_is_handler : mg "is_handler" = some (.ref (gloAt "is_handler" K))
  f_need_handler : FunD K "need_handler" "need_handler" (defArgs (top 29)) (defBody (top 29)) (defScope (top 29)) [] [] (gloAt "need_handler" K) (fd 22)
  g_need_handler : mg "need_handler" = some (.ref (gloAt "need_handler" K))
  f_is_cell : FunD K "is_cell" "is_cell" (defArgs (top 11)) (defBody (top 11)) (defScope (top 11)) [] [] (gloAt "is_cell" K) (fd 23)
  g_is_cell : mg "is_cell" = some (.ref (gloAt "is_cell" K))
  f_is_row : FunD K "is_row" "is_row" (defArgs (top 12)) (defBody (top 12)) (defScope (top 12)) [] [] (gloAt "is_row" K) (fd 24)
  g_is_row : mg "is_row" = some (.ref (gloAt "is_row" K))
  f_are_rows : FunD K "are_rows" "are_rows" (defArgs (top 13)) (defBody (top 13)) (defScope (top 13)) [] [] (gloAt "are_rows" K) (fd 25)
  g_are_rows : mg "are_rows" = some (.ref (gloAt "are_rows" K))
  f_is_message : FunD K "is_message" "is_message" (defArgs (top 10)) (defBody (top 10)) (defScope (top 10)) [] [] (gloAt "is_message" K) (fd 26)
  g_is_message : mg "is_message" = some (.ref (gloAt "is_message" K))
  f_Run___init__ : FunD K "__init__" "Run.__init__" (defArgs (inCls (top 31) 0)) (defBody (inCls (top 31) 0)) (defScope (inCls (top 31) 0)) [] [] (mAt "Run" "__init__" K) (fd 27)
  f_held_within : FunD K "held_within" "held_within" (defArgs (top 30)) (defBody (top 30)) (defScope (top 30)) [] [] (gloAt "held_within" K) (fd 28)
  g_held_within : mg "held_within" = some (.ref (gloAt "held_within" K))
  f_Run_row_value : FunD K "row_value" "Run.row_value" (defArgs (inCls (top 31) 2)) (defBody (inCls (top 31) 2)) (defScope (inCls (top 31) 2)) [] [] (mAt "Run" "row_value" K) (fd 29)
  f_Run_value_of : FunD K "value_of" "Run.value_of" (defArgs (inCls (top 31) 1)) (defBody (inCls (top 31) 1)) (defScope (inCls (top 31) 1)) [] [] (mAt "Run" "value_of" K) (fd 30)
  f_Run_truth_of : FunD K "truth_of" "Run.truth_of" (defArgs (inCls (top 31) 3)) (defBody (inCls (top 31) 3)) (defScope (inCls (top 31) 3)) [] [] (mAt "Run" "truth_of" K) (fd 31)
  f_Run_is_done : FunD K "is_done" "Run.is_done" (defArgs (inCls (top 31) 4)) (defBody (inCls (top 31) 4)) (defScope (inCls (top 31) 4)) [] [] (mAt "Run" "is_done" K) (fd 32)
  f_Run_is_deed_done : FunD K "is_deed_done" "Run.is_deed_done" (defArgs (inCls (top 31) 5)) (defBody (inCls (top 31) 5)) (defScope (inCls (top 31) 5)) [] [] (mAt "Run" "is_deed_done" K) (fd 33)
  f_Run_rows_left : FunD K "rows_left" "Run.rows_left" (defArgs (inCls (top 31) 6)) (defBody (inCls (top 31) 6)) (defScope (inCls (top 31) 6)) [] [] (mAt "Run" "rows_left" K) (fd 34)
  f_traced : FunD K "traced" "traced" (defArgs (top 32)) (defBody (top 32)) (defScope (top 32)) [] [] (gloAt "traced" K) (fd 35)
  g_traced : mg "traced" = some (.ref (gloAt "traced" K))
  f_run_handler : FunD K "run_handler" "run_handler" (defArgs (top 33)) (defBody (top 33)) (defScope (top 33)) [] [] (gloAt "run_handler" K) (fd 36)
  g_run_handler : mg "run_handler" = some (.ref (gloAt "run_handler" K))
  f__law_words : FunD K "_law_words" "_law_words" (defArgs (top 38)) (defBody (top 38)) (defScope (top 38)) [] [] (gloAt "_law_words" K) (fd 37)
  g__law_words : mg "_law_words" = some (.ref (gloAt "_law_words" K))
  f__law_worth : FunD K "_law_worth" "_law_worth" (defArgs (top 48)) (defBody (top 48)) (defScope (top 48)) [] [] (gloAt "_law_worth" K) (fd 38)
  g__law_worth : mg "_law_worth" = some (.ref (gloAt "_law_worth" K))
  f__law_holds : FunD K "_law_holds" "_law_holds" (defArgs (top 49)) (defBody (top 49)) (defScope (top 49)) [] [] (gloAt "_law_holds" K) (fd 39)
  g__law_holds : mg "_law_holds" = some (.ref (gloAt "_law_holds" K))
  f__law_did : FunD K "_law_did" "_law_did" (defArgs (top 50)) (defBody (top 50)) (defScope (top 50)) [] [] (gloAt "_law_did" K) (fd 40)
  g__law_did : mg "_law_did" = some (.ref (gloAt "_law_did" K))
  f__law_run : FunD K "_law_run" "_law_run" (defArgs (top 51)) (defBody (top 51)) (defScope (top 51)) [] [] (gloAt "_law_run" K) (fd 41)
  g__law_run : mg "_law_run" = some (.ref (gloAt "_law_run" K))
  f_law : FunD K "law" "law" (defArgs (top 52)) (defBody (top 52)) (defScope (top 52)) [] [] (gloAt "law" K) (fd 42)
  g_law : mg "law" = some (.ref (gloAt "law" K))
  n_list : mg "list" = none
  n_int : mg "int" = none
  n_len : mg "len" = none
  n_abs : mg "abs" = none
  n_range : mg "range" = none
  n_tuple : mg "tuple" = none
  n_sorted : mg "sorted" = none
  n_isinstance : mg "isinstance" = none
  n_str : mg "str" = none
  n_all : mg "all" = none
  n_bool : mg "bool" = none
  n_any : mg "any" = none
  n_sum : mg "sum" = none
  n_zip : mg "zip" = none
  n_dict : mg "dict" = none
  n_min : mg "min" = none
  n_max : mg "max" = none
  n_repr : mg "repr" = none
  h_Run : mg "Run" = some (.ref (T.cls 0))
  o_Run : L2.Cls K (T.cls 0)
  a_Run_own_values : L2.NoAttr K (T.cls 0) "own_values"
  a_Run_own_key : L2.NoAttr K (T.cls 0) "own_key"
  a_Run_own_body : L2.NoAttr K (T.cls 0) "own_body"
  a_Run_own_reads : L2.NoAttr K (T.cls 0) "own_reads"
  a_Run_own_sets : L2.NoAttr K (T.cls 0) "own_sets"
  a_Run_own_sends : L2.NoAttr K (T.cls 0) "own_sends"
  m_Run_row_value : L2.Meth K (T.cls 0) "row_value" (mAt "Run" "row_value" K)
  m_Run_value_of : L2.Meth K (T.cls 0) "value_of" (mAt "Run" "value_of" K)
  m_Run_truth_of : L2.Meth K (T.cls 0) "truth_of" (mAt "Run" "truth_of" K)
  m_Run_is_deed_done : L2.Meth K (T.cls 0) "is_deed_done" (mAt "Run" "is_deed_done" K)
  m_Run_is_done : L2.Meth K (T.cls 0) "is_done" (mAt "Run" "is_done" K)
  m_Run_rows_left : L2.Meth K (T.cls 0) "rows_left" (mAt "Run" "rows_left" K)
  mk_Run : L2.Mk K (T.cls 0) (mAt "Run" "__init__" K)
  d_MAX_LETTERS : ∃ u v, mg "MAX_LETTERS" = some u ∧ RelV v u ∧ ∀ M, RV K T M (.int 6) v
  d_LETTERS : ∃ u v, mg "LETTERS" = some u ∧ RelV v u ∧ ∀ M, RV K T M (.str [97, 98, 99, 100, 101, 102, 103, 104, 105, 106, 107, 108, 109, 110, 111, 112, 113, 114, 115, 116, 117, 118, 119, 120, 121, 122]) v
  d_MAX_VALUE : ∃ u v, mg "MAX_VALUE" = some u ∧ RelV v u ∧ ∀ M, RV K T M (.int 99) v
  d_SUMS : ∃ u v, mg "SUMS" = some u ∧ RelV v u ∧ ∀ M, RV K T M (.tup [(.str [43]), (.str [45]), (.str [42])]) v
  d_COMPARISONS : ∃ u v, mg "COMPARISONS" = some u ∧ RelV v u ∧ ∀ M, RV K T M (.tup [(.str [60]), (.str [61])]) v
  d_MAX_DEPTH : ∃ u v, mg "MAX_DEPTH" = some u ∧ RelV v u ∧ ∀ M, RV K T M (.int 6) v
  d_JOINS : ∃ u v, mg "JOINS" = some u ∧ RelV v u ∧ ∀ M, RV K T M (.tup [(.str [97, 110, 100]), (.str [111, 114])]) v
  d_MAX_IFS : ∃ u v, mg "MAX_IFS" = some u ∧ RelV v u ∧ ∀ M, RV K T M (.int 3) v
  d_MAX_DEEDS : ∃ u v, mg "MAX_DEEDS" = some u ∧ RelV v u ∧ ∀ M, RV K T M (.int 12) v
section
variable {P : Program} {w : World} {K : PySem.W.Frag} {mg : Str → Option Value} {base : Heap} {T : Tb} {fd : Nat → FuncData}
theorem sc__law_pen : FnScope ["_law_script"] ["_law_script"] (defScope (top 35)) := ⟨rfl, rfl, rfl, by decide +kernel, rfl, by decide +kernel, by decide +kernel⟩
theorem ok__law_pen (W : Facts P w T K mg fd) : FnG P w K mg base CX0 1 (gloAt "_law_pen" K) (fd 0) ["_law_script"] (spOf K T 1 F__law_pen) :=
  fn_ok W.f__law_pen sc__law_pen (k := 0) fun cdv A outer s H E hgu hr =>
    js_one (js_ret (je_dctM (.cons (je_str) (je_BT cd_list W.n_list (ja_cons (je_sl (je_var (i := 0)) (jo_none) (jo_some (je_int))) (ja_nil))) (.cons (je_str) (je_int) (.cons (je_str) (je_int) (.nil))))))
theorem b__law_pen (W : Facts P w T K mg fd) : Binds K (fd 0) ["_law_script"] [] := W.f__law_pen.bindsN fun _ _ _ _ _ _ us hl => match us, hl with | [_], _ => rfl
theorem sc__law_draw : FnScope ["_law_pen_here", "_law_many", "_law_at", "_law_cell", "_law_blend", "_law_digit"] ["_law_pen_here", "_law_many"] (defScope (top 36)) := ⟨rfl, rfl, rfl, by decide +kernel, rfl, by decide +kernel, by decide +kernel⟩
theorem ok__law_draw (W : Facts P w T K mg fd) : FnG P w K mg base CX0 1 (gloAt "_law_draw" K) (fd 1) ["_law_pen_here", "_law_many"] (spOf K T 2 F__law_draw) :=
  fn_ok W.f__law_draw sc__law_draw (k := 0) fun cdv A outer s H E hgu hr =>
    js_cons (js_if (jt_cmpD opD_gt opGt_bool (je_ix (u1 hr) (je_var (i := 0)) (je_str)) (je_int)) (js_cons (js_set (i := 5) sc__law_draw.nd (je_bin opD_mod (je_BT cd_int W.n_int (ja_cons (je_ix (u1 hr) (je_var (i := 0)) (je_str)) (ja_nil))) (je_var (i := 1))))
    (js_cons (js_asg (je_bin opD_fdiv (je_ix (u1 hr) (je_var (i := 0)) (je_str)) (je_var (i := 1))) (jg_item W.tw W.tp (u10 hr) (je_var (i := 0)) (je_str)))
    (js_one (js_ret (je_var (i := 5)))))) (js_nil))
    (js_cons (js_set (i := 2) sc__law_draw.nd (je_ix (u1 hr) (je_var (i := 0)) (je_str)))
    (js_cons (js_asg (je_bin opD_add (je_var (i := 2)) (je_int)) (jg_item W.tw W.tp (u10 hr) (je_var (i := 0)) (je_str)))
    (js_cons (js_set (i := 3) sc__law_draw.nd (je_bin opD_add (je_bin opD_mul (je_int) (je_var (i := 2))) (je_int)))
    (js_cons (js_if (jt_cmpD (opD_ne (u64 hr)) opNe_bool (je_ix (u1 hr) (je_var (i := 0)) (je_str)) (je_lst (ja_nil))) (js_one (js_set (i := 3) sc__law_draw.nd (je_ix (u1 hr) (je_ix (u1 hr) (je_var (i := 0)) (je_str)) (je_bin opD_mod (je_BT cd_int W.n_int (ja_cons (je_var (i := 2)) (ja_nil))) (je_B cd_len W.n_len (ja_cons (je_ix (u1 hr) (je_var (i := 0)) (je_str)) (ja_nil))))))) (js_nil))
    (js_cons (js_if (JW.t (jw_and (jt_cmpD (opD_lt (u0 hr)) opLt_bool (je_var (i := 2)) (je_B cd_len W.n_len (ja_cons (je_ix (u1 hr) (je_var (i := 0)) (je_str)) (ja_nil)))) (jw_and1 (jt_cmpD opD_ge opGe_bool (je_B cd_abs W.n_abs (ja_cons (je_var (i := 3)) (ja_nil))) (je_bin opD_pow (je_int) (je_int)))))) (js_cons (js_asg (je_bin opD_fdiv (je_bin opD_sub (je_B cd_abs W.n_abs (ja_cons (je_var (i := 3)) (ja_nil))) (je_bin opD_pow (je_int) (je_int))) (je_var (i := 1))) (jg_item W.tw W.tp (u10 hr) (je_var (i := 0)) (je_str)))
    (js_one (js_ret (je_bin opD_mod (je_bin opD_sub (je_B cd_abs W.n_abs (ja_cons (je_var (i := 3)) (ja_nil))) (je_bin opD_pow (je_int) (je_int))) (je_var (i := 1)))))) (js_nil))
    (js_cons (js_set (i := 4) sc__law_draw.nd (je_bin opD_mod (je_BT cd_int W.n_int (ja_cons (je_bin opD_add (je_bin opD_add (je_bin opD_mul (je_bin opD_mod (je_BT cd_int W.n_int (ja_cons (je_var (i := 3)) (ja_nil))) (je_int)) (je_int)) (je_bin opD_mul (je_bin opD_mul (je_int) (je_var (i := 2))) (je_var (i := 2)))) (je_int)) (ja_nil))) (je_int)))
    (js_cons (js_set (i := 4) sc__law_draw.nd (je_bin opD_mod (je_BT cd_int W.n_int (ja_cons (je_bin opD_add (je_bin opD_add (je_bin opD_add (je_bin opD_mul (je_var (i := 4)) (je_var (i := 4))) (je_bin opD_mul (je_int) (je_var (i := 4)))) (je_bin opD_mul (je_int) (je_var (i := 2)))) (je_int)) (ja_nil))) (je_int)))
    (js_one (js_ret (je_bin opD_mod (je_BT cd_int W.n_int (ja_cons (je_bin opD_fdiv (je_bin opD_mod (je_BT cd_int W.n_int (ja_cons (je_bin opD_mul (je_var (i := 4)) (je_bin opD_add (je_var (i := 4)) (je_int))) (ja_nil))) (je_int)) (je_int)) (ja_nil))) (je_var (i := 1))))))))))))
theorem b__law_draw (W : Facts P w T K mg fd) : Binds K (fd 1) ["_law_pen_here", "_law_many"] [] := W.f__law_draw.bindsN fun _ _ _ _ _ _ us hl => match us, hl with | [_, _], _ => rfl
theorem sc__law_pick : FnScope ["_law_pen_here", "_law_items"] ["_law_pen_here", "_law_items"] (defScope (top 37)) := ⟨rfl, rfl, rfl, by decide +kernel, rfl, by decide +kernel, by decide +kernel⟩
theorem ok__law_pick (W : Facts P w T K mg fd) : FnG P w K mg base CX0 2 (gloAt "_law_pick" K) (fd 2) ["_law_pen_here", "_law_items"] (spOf K T 2 F__law_pick) :=
  fn_ok W.f__law_pick sc__law_pick (k := 1) fun cdv A outer s H E hgu hr =>
    js_one (js_ret (je_ix (u1 hr) (je_var (i := 1)) (je_call (ok__law_draw W) hgu (hr.mono (by decide)) W.g__law_draw W.f__law_draw.kp (b__law_draw W) (ja_cons (je_var (i := 0)) (ja_cons (je_B cd_len W.n_len (ja_cons (je_var (i := 1)) (ja_nil))) (ja_nil))))))
theorem b__law_pick (W : Facts P w T K mg fd) : Binds K (fd 2) ["_law_pen_here", "_law_items"] [] := W.f__law_pick.bindsN fun _ _ _ _ _ _ us hl => match us, hl with | [_, _], _ => rfl
theorem sc__law_number : FnScope ["_law_pen_here", "_law_small"] ["_law_pen_here"] (defScope (top 39)) := ⟨rfl, rfl, rfl, by decide +kernel, rfl, by decide +kernel, by decide +kernel⟩
theorem ok__law_number (W : Facts P w T K mg fd) : FnG P w K mg base CX0 3 (gloAt "_law_number" K) (fd 3) ["_law_pen_here"] (spOf K T 1 F__law_number) :=
  fn_ok W.f__law_number sc__law_number (k := 2) fun cdv A outer s H E hgu hr =>
    js_cons (js_set (i := 1) sc__law_number.nd (je_bin opD_sub (je_call (ok__law_draw W) hgu (hr.mono (by decide)) W.g__law_draw W.f__law_draw.kp (b__law_draw W) (ja_cons (je_var (i := 0)) (ja_cons (je_int) (ja_nil)))) (je_int)))
    (js_one (js_ret (je_call (ok__law_pick W) hgu (hr.mono (by decide)) W.g__law_pick W.f__law_pick.kp (b__law_pick W) (ja_cons (je_var (i := 0)) (ja_cons (je_lst (ja_cons (je_var (i := 1)) (ja_cons (je_var (i := 1)) (ja_cons (je_var (i := 1)) (ja_cons (je_int) (ja_cons (je_neg (je_int)) (ja_cons (je_int) (ja_cons (je_bin opD_sub (je_call (ok__law_draw W) hgu (hr.mono (by decide)) W.g__law_draw W.f__law_draw.kp (b__law_draw W) (ja_cons (je_var (i := 0)) (ja_cons (je_int) (ja_nil)))) (je_int)) (ja_nil))))))))) (ja_nil))))))
theorem b__law_number (W : Facts P w T K mg fd) : Binds K (fd 3) ["_law_pen_here"] [] := W.f__law_number.bindsN fun _ _ _ _ _ _ us hl => match us, hl with | [_], _ => rfl
theorem sc__law_leaf : FnScope ["_law_pen_here", "_law_names"] ["_law_pen_here", "_law_names"] (defScope (top 40)) := ⟨rfl, rfl, rfl, by decide +kernel, rfl, by decide +kernel, by decide +kernel⟩
theorem ok__law_leaf (W : Facts P w T K mg fd) : FnG P w K mg base CX0 4 (gloAt "_law_leaf" K) (fd 4) ["_law_pen_here", "_law_names"] (spOf K T 2 F__law_leaf) :=
  fn_ok W.f__law_leaf sc__law_leaf (k := 3) fun cdv A outer s H E hgu hr =>
    js_one (js_ret (je_call (ok__law_pick W) hgu (hr.mono (by decide)) W.g__law_pick W.f__law_pick.kp (b__law_pick W) (ja_cons (je_var (i := 0)) (ja_cons (je_lst (ja_cons (je_tup (ja_cons (je_str) (ja_cons (je_call (ok__law_number W) hgu (hr.mono (by decide)) W.g__law_number W.f__law_number.kp (b__law_number W) (ja_cons (je_var (i := 0)) (ja_nil))) (ja_nil)))) (ja_cons (je_tup (ja_cons (je_str) (ja_nil))) (ja_cons (je_tup (ja_cons (je_str) (ja_cons (je_call (ok__law_pick W) hgu (hr.mono (by decide)) W.g__law_pick W.f__law_pick.kp (b__law_pick W) (ja_cons (je_var (i := 0)) (ja_cons (je_var (i := 1)) (ja_nil)))) (ja_nil)))) (ja_nil))))) (ja_nil)))))
theorem b__law_leaf (W : Facts P w T K mg fd) : Binds K (fd 4) ["_law_pen_here", "_law_names"] [] := W.f__law_leaf.bindsN fun _ _ _ _ _ _ us hl => match us, hl with | [_, _], _ => rfl
theorem sc__law_e : FnScope ["_law_pen_here", "_law_names", "_law_deep"] ["_law_pen_here", "_law_names", "_law_deep"] (defScope (top 41)) := ⟨rfl, rfl, rfl, by decide +kernel, rfl, by decide +kernel, by decide +kernel⟩
theorem b__law_e (W : Facts P w T K mg fd) : Binds K (fd 5) ["_law_pen_here", "_law_names", "_law_deep"] [] := W.f__law_e.bindsN fun _ _ _ _ _ _ us hl => match us, hl with | [_, _, _], _ => rfl
theorem okR__law_e (W : Facts P w T K mg fd) : ∀ n : Nat, FnG P w K mg base CX0 (5 + n) (gloAt "_law_e" K) (fd 5) ["_law_pen_here", "_law_names", "_law_deep"] (spOf K T 3 (R__law_e n))
  | 0 => fn_bad
  | n + 1 => have ih := okR__law_e W n
  fn_ok W.f__law_e sc__law_e (k := 5 + n) fun cdv A outer s H E hgu hr =>
    js_cons (js_if (JW.t (jw_or (jt_cmpD (opD_lt (u0 hr)) opLt_bool (je_var (i := 2)) (je_int)) (jw_or1 (jt_cmpD (opD_eq (u64 hr)) opEq_bool (je_call (ok__law_draw W) hgu (hr.mono (by omega)) W.g__law_draw W.f__law_draw.kp (b__law_draw W) (ja_cons (je_var (i := 0)) (ja_cons (je_int) (ja_nil)))) (je_int))))) (js_one (js_ret (je_call (ok__law_leaf W) hgu (hr.mono (by omega)) W.g__law_leaf W.f__law_leaf.kp (b__law_leaf W) (ja_cons (je_var (i := 0)) (ja_cons (je_var (i := 1)) (ja_nil)))))) (js_nil))
    (js_one (js_ret (je_tup (ja_cons (je_call (ok__law_pick W) hgu (hr.mono (by omega)) W.g__law_pick W.f__law_pick.kp (b__law_pick W) (ja_cons (je_var (i := 0)) (ja_cons (je_lst (ja_cons (je_str) (ja_cons (je_str) (ja_cons (je_str) (ja_nil))))) (ja_nil)))) (ja_cons (je_call (ih) hgu (hr.mono (by omega)) W.g__law_e W.f__law_e.kp (b__law_e W) (ja_cons (je_var (i := 0)) (ja_cons (je_var (i := 1)) (ja_cons (je_bin opD_sub (je_var (i := 2)) (je_int)) (ja_nil))))) (ja_cons (je_call (ih) hgu (hr.mono (by omega)) W.g__law_e W.f__law_e.kp (b__law_e W) (ja_cons (je_var (i := 0)) (ja_cons (je_var (i := 1)) (ja_cons (je_bin opD_sub (je_var (i := 2)) (je_int)) (ja_nil))))) (ja_nil)))))))
theorem ok__law_e (W : Facts P w T K mg fd) : FnG P w K mg base CX0 17 (gloAt "_law_e" K) (fd 5) ["_law_pen_here", "_law_names", "_law_deep"] (spOf K T 3 F__law_e) := okR__law_e W 12
theorem sc__law_c : FnScope ["_law_pen_here", "_law_names", "_law_deep", "_law_way"] ["_law_pen_here", "_law_names", "_law_deep"] (defScope (top 42)) := ⟨rfl, rfl, rfl, by decide +kernel, rfl, by decide +kernel, by decide +kernel⟩
theorem b__law_c (W : Facts P w T K mg fd) : Binds K (fd 6) ["_law_pen_here", "_law_names", "_law_deep"] [] := W.f__law_c.bindsN fun _ _ _ _ _ _ us hl => match us, hl with | [_, _, _], _ => rfl
theorem okR__law_c (W : Facts P w T K mg fd) : ∀ n : Nat, FnG P w K mg base CX0 (18 + n) (gloAt "_law_c" K) (fd 6) ["_law_pen_here", "_law_names", "_law_deep"] (spOf K T 3 (R__law_c n))
  | 0 => fn_bad
  | n + 1 => have ih := okR__law_c W n
  fn_ok W.f__law_c sc__law_c (k := 18 + n) fun cdv A outer s H E hgu hr =>
    js_cons (js_set (i := 3) sc__law_c.nd (je_if (jt_cmpD opD_gt opGt_bool (je_var (i := 2)) (je_int)) (je_call (ok__law_draw W) hgu (hr.mono (by omega)) W.g__law_draw W.f__law_draw.kp (b__law_draw W) (ja_cons (je_var (i := 0)) (ja_cons (je_int) (ja_nil)))) (je_call (ok__law_draw W) hgu (hr.mono (by omega)) W.g__law_draw W.f__law_draw.kp (b__law_draw W) (ja_cons (je_var (i := 0)) (ja_cons (je_int) (ja_nil))))))
    (js_cons (js_if (jt_cmpD (opD_lt (u0 hr)) opLt_bool (je_var (i := 3)) (je_int)) (js_one (js_ret (je_tup (ja_cons (je_ix (u1 hr) (je_lst (ja_cons (je_str) (ja_cons (je_str) (ja_cons (je_str) (ja_nil))))) (je_var (i := 3))) (ja_cons (je_call (ok__law_e W) hgu (hr.mono (by omega)) W.g__law_e W.f__law_e.kp (b__law_e W) (ja_cons (je_var (i := 0)) (ja_cons (je_var (i := 1)) (ja_cons (je_int) (ja_nil))))) (ja_cons (je_call (ok__law_e W) hgu (hr.mono (by omega)) W.g__law_e W.f__law_e.kp (b__law_e W) (ja_cons (je_var (i := 0)) (ja_cons (je_var (i := 1)) (ja_cons (je_int) (ja_nil))))) (ja_nil))))))) (js_nil))
    (js_cons (js_if (jt_cmpD (opD_eq (u64 hr)) opEq_bool (je_var (i := 3)) (je_int)) (js_one (js_ret (je_tup (ja_cons (je_str) (ja_cons (je_call (ih) hgu (hr.mono (by omega)) W.g__law_c W.f__law_c.kp (b__law_c W) (ja_cons (je_var (i := 0)) (ja_cons (je_var (i := 1)) (ja_cons (je_bin opD_sub (je_var (i := 2)) (je_int)) (ja_nil))))) (ja_nil)))))) (js_nil))
    (js_one (js_ret (je_tup (ja_cons (je_ix (u1 hr) (je_lst (ja_cons (je_str) (ja_cons (je_str) (ja_nil)))) (je_bin opD_sub (je_var (i := 3)) (je_int))) (ja_cons (je_call (ih) hgu (hr.mono (by omega)) W.g__law_c W.f__law_c.kp (b__law_c W) (ja_cons (je_var (i := 0)) (ja_cons (je_var (i := 1)) (ja_cons (je_bin opD_sub (je_var (i := 2)) (je_int)) (ja_nil))))) (ja_cons (je_call (ih) hgu (hr.mono (by omega)) W.g__law_c W.f__law_c.kp (b__law_c W) (ja_cons (je_var (i := 0)) (ja_cons (je_var (i := 1)) (ja_cons (je_bin opD_sub (je_var (i := 2)) (je_int)) (ja_nil))))) (ja_nil)))))))))
theorem ok__law_c (W : Facts P w T K mg fd) : FnG P w K mg base CX0 30 (gloAt "_law_c" K) (fd 6) ["_law_pen_here", "_law_names", "_law_deep"] (spOf K T 3 F__law_c) := okR__law_c W 12
theorem sc__law_deeds : FnScope ["_law_pen_here", "_law_place", "_law_ifs", "_law_found", "_law_k"] ["_law_pen_here", "_law_place", "_law_ifs"] (defScope (top 44)) := ⟨rfl, rfl, rfl, by decide +kernel, rfl, by decide +kernel, by decide +kernel⟩
theorem b__law_deeds (W : Facts P w T K mg fd) : Binds K (fd 7) ["_law_pen_here", "_law_place", "_law_ifs"] [] := W.f__law_deeds.bindsN fun _ _ _ _ _ _ us hl => match us, hl with | [_, _, _], _ => rfl
theorem sc__law_deed : FnScope ["_law_pen_here", "_law_place", "_law_ifs", "_law_way", "_law_key", "_law_c_here"] ["_law_pen_here", "_law_place", "_law_ifs"] (defScope (top 43)) := ⟨rfl, rfl, rfl, by decide +kernel, rfl, by decide +kernel, by decide +kernel⟩
theorem b__law_deed (W : Facts P w T K mg fd) : Binds K (fd 8) ["_law_pen_here", "_law_place", "_law_ifs"] [] := W.f__law_deed.bindsN fun _ _ _ _ _ _ us hl => match us, hl with | [_, _, _], _ => rfl
theorem okR__law_deed (W : Facts P w T K mg fd) : ∀ n : Nat, FnG P w K mg base CX0 (31 + n) (gloAt "_law_deeds" K) (fd 7) ["_law_pen_here", "_law_place", "_law_ifs"] (spOf K T 3 (R__law_deeds n)) ∧ FnG P w K mg base CX0 (31 + n) (gloAt "_law_deed" K) (fd 8) ["_law_pen_here", "_law_place", "_law_ifs"] (spOf K T 3 (R__law_deed n))
  | 0 => ⟨fn_bad, fn_bad⟩
  | n + 1 => have ih := okR__law_deed W n
  ⟨fn_ok W.f__law_deeds sc__law_deeds (k := 31 + n) fun cdv A outer s H E hgu hr =>
    js_cons (js_set (i := 3) sc__law_deeds.nd (je_lstM (ja_nil)))
    (js_cons (js_for PassesOwn.never rfl (ji_range W.n_range (je_call (ok__law_draw W) hgu (hr.mono (by omega)) W.g__law_draw W.f__law_draw.kp (b__law_draw W) (ja_cons (je_var (i := 0)) (ja_cons (je_int) (ja_nil))))) (jg_name (i := 4) sc__law_deeds.nd) (js_one (js_if (jt_cmpD opD_gt opGt_bool (je_ix (u1 hr) (je_var (i := 1)) (je_str)) (je_int)) (js_cons (js_asg (je_bin opD_sub (je_ix (u1 hr) (je_var (i := 1)) (je_str)) (je_int)) (jg_item W.tw W.tp (u10 hr) (je_var (i := 1)) (je_str)))
    (js_one (js_expr (je_app (je_var (i := 3)) (je_call (ih.2) hgu (hr.mono (by omega)) W.g__law_deed W.f__law_deed.kp (b__law_deed W) (ja_cons (je_var (i := 0)) (ja_cons (je_var (i := 1)) (ja_cons (je_var (i := 2)) (ja_nil))))))))) (js_nil))))
    (js_one (js_ret (je_BT cd_tuple W.n_tuple (ja_cons (je_var (i := 3)) (ja_nil)))))),
  fn_ok W.f__law_deed sc__law_deed (k := 31 + n) fun cdv A outer s H E hgu hr =>
    js_cons (js_set (i := 3) sc__law_deed.nd (je_call (ok__law_draw W) hgu (hr.mono (by omega)) W.g__law_draw W.f__law_draw.kp (b__law_draw W) (ja_cons (je_var (i := 0)) (ja_cons (je_int) (ja_nil)))))
    (js_cons (js_if (JW.t (jw_and (jt_cmpD (opD_lt (u0 hr)) opLt_bool (je_var (i := 3)) (je_int)) (jw_and (jt_cmpD (opD_ne (u64 hr)) opNe_bool (je_ix (u1 hr) (je_var (i := 1)) (je_str)) (je_lst (ja_nil))) (jw_and1 (jt_cmpD opD_gt opGt_bool (je_ix (u1 hr) (je_var (i := 1)) (je_str)) (je_int)))))) (js_cons (js_asg (je_bin opD_sub (je_ix (u1 hr) (je_var (i := 1)) (je_str)) (je_int)) (jg_item W.tw W.tp (u10 hr) (je_var (i := 1)) (je_str)))
    (js_cons (js_set (i := 4) sc__law_deed.nd (je_call (ok__law_pick W) hgu (hr.mono (by omega)) W.g__law_pick W.f__law_pick.kp (b__law_pick W) (ja_cons (je_var (i := 0)) (ja_cons (je_bin opD_add (je_lst (ja_cons (je_non) (ja_cons (je_non) (ja_nil)))) (je_ix (u1 hr) (je_var (i := 1)) (je_str))) (ja_nil)))))
    (js_one (js_ret (je_tup (ja_cons (je_str) (ja_cons (je_call (ok__law_pick W) hgu (hr.mono (by omega)) W.g__law_pick W.f__law_pick.kp (b__law_pick W) (ja_cons (je_var (i := 0)) (ja_cons (je_ix (u1 hr) (je_var (i := 1)) (je_str)) (ja_nil)))) (ja_cons (je_var (i := 4)) (ja_cons (je_call (ok__law_e W) hgu (hr.mono (by omega)) W.g__law_e W.f__law_e.kp (b__law_e W) (ja_cons (je_var (i := 0)) (ja_cons (je_ix (u1 hr) (je_var (i := 1)) (je_str)) (ja_cons (je_int) (ja_nil))))) (ja_nil)))))))))) (js_nil))
    (js_cons (js_if (JW.t (jw_and (jt_cmpD (opD_eq (u64 hr)) opEq_bool (je_var (i := 3)) (je_int)) (jw_and1 (jt_cmpD opD_gt opGt_bool (je_var (i := 2)) (je_int))))) (js_cons (js_set (i := 5) sc__law_deed.nd (je_call (ok__law_c W) hgu (hr.mono (by omega)) W.g__law_c W.f__law_c.kp (b__law_c W) (ja_cons (je_var (i := 0)) (ja_cons (je_ix (u1 hr) (je_var (i := 1)) (je_str)) (ja_cons (je_int) (ja_nil))))))
    (js_one (js_ret (je_tup (ja_cons (je_str) (ja_cons (je_var (i := 5)) (ja_cons (je_call (ih.1) hgu (hr.mono (by omega)) W.g__law_deeds W.f__law_deeds.kp (b__law_deeds W) (ja_cons (je_var (i := 0)) (ja_cons (je_var (i := 1)) (ja_cons (je_bin opD_sub (je_var (i := 2)) (je_int)) (ja_nil))))) (ja_cons (je_call (ih.1) hgu (hr.mono (by omega)) W.g__law_deeds W.f__law_deeds.kp (b__law_deeds W) (ja_cons (je_var (i := 0)) (ja_cons (je_var (i := 1)) (ja_cons (je_bin opD_sub (je_var (i := 2)) (je_int)) (ja_nil))))) (ja_nil))))))))) (js_nil))
    (js_cons (js_if (JW.t (jw_and (jt_cmpD (opD_eq (u64 hr)) opEq_bool (je_var (i := 3)) (je_int)) (jw_and1 (jt_cmpD (opD_eq (u64 hr)) opEq_bool (je_call (ok__law_draw W) hgu (hr.mono (by omega)) W.g__law_draw W.f__law_draw.kp (b__law_draw W) (ja_cons (je_var (i := 0)) (ja_cons (je_int) (ja_nil)))) (je_int))))) (js_one (js_ret (je_tup (ja_cons (je_str) (ja_nil))))) (js_nil))
    (js_one (js_ret (je_tup (ja_cons (je_str) (ja_cons (je_call (ok__law_pick W) hgu (hr.mono (by omega)) W.g__law_pick W.f__law_pick.kp (b__law_pick W) (ja_cons (je_var (i := 0)) (ja_cons (je_ix (u1 hr) (je_var (i := 1)) (je_str)) (ja_nil)))) (ja_cons (je_call (ok__law_e W) hgu (hr.mono (by omega)) W.g__law_e W.f__law_e.kp (b__law_e W) (ja_cons (je_var (i := 0)) (ja_cons (je_ix (u1 hr) (je_var (i := 1)) (je_str)) (ja_cons (je_int) (ja_nil))))) (ja_nil))))))))))⟩
theorem ok__law_deeds (W : Facts P w T K mg fd) : FnG P w K mg base CX0 43 (gloAt "_law_deeds" K) (fd 7) ["_law_pen_here", "_law_place", "_law_ifs"] (spOf K T 3 F__law_deeds) := (okR__law_deed W 12).1
theorem ok__law_deed (W : Facts P w T K mg fd) : FnG P w K mg base CX0 43 (gloAt "_law_deed" K) (fd 8) ["_law_pen_here", "_law_place", "_law_ifs"] (spOf K T 3 F__law_deed) := (okR__law_deed W 12).2
theorem sc__law_handler : FnScope ["_law_pen_here", "_law_names", "_law_keys", "_law_kinds", "_law_sends", "_law_place", "_law_found"] ["_law_pen_here", "_law_names", "_law_keys", "_law_kinds", "_law_sends"] (defScope (top 45)) := ⟨rfl, rfl, rfl, by decide +kernel, rfl, by decide +kernel, by decide +kernel⟩
theorem ok__law_handler (W : Facts P w T K mg fd) : FnG P w K mg base CX0 44 (gloAt "_law_handler" K) (fd 9) ["_law_pen_here", "_law_names", "_law_keys", "_law_kinds", "_law_sends"] (spOf K T 5 F__law_handler) :=
  fn_ok W.f__law_handler sc__law_handler (k := 43) fun cdv A outer s H E hgu hr =>
    js_cons (js_set (i := 5) sc__law_handler.nd (je_dctM (.cons (je_str) (je_var (i := 1)) (.cons (je_str) (je_var (i := 2)) (.cons (je_str) (je_var (i := 3)) (.cons (je_str) (je_var (i := 4)) (.cons (je_str) (je_int) (.nil))))))))
    (js_cons (js_set (i := 6) sc__law_handler.nd (je_call (ok__law_deeds W) hgu (hr.mono (by decide)) W.g__law_deeds W.f__law_deeds.kp (b__law_deeds W) (ja_cons (je_var (i := 0)) (ja_cons (je_var (i := 5)) (ja_cons (je_int) (ja_nil))))))
    (js_cons (js_if (JW.t (jw_and (jt_cmpD (opD_ne (u64 hr)) opNe_bool (je_var (i := 3)) (je_lst (ja_nil))) (jw_and (jt_cmpD opD_gt opGt_bool (je_ix (u1 hr) (je_var (i := 5)) (je_str)) (je_int)) (jw_and1 (jt_cmpD opD_gt opGt_bool (je_call (ok__law_draw W) hgu (hr.mono (by decide)) W.g__law_draw W.f__law_draw.kp (b__law_draw W) (ja_cons (je_var (i := 0)) (ja_cons (je_int) (ja_nil)))) (je_int)))))) (js_one (js_set (i := 6) sc__law_handler.nd (je_bin opD_add (je_var (i := 6)) (je_tup (ja_cons (je_tup (ja_cons (je_str) (ja_cons (je_call (ok__law_pick W) hgu (hr.mono (by decide)) W.g__law_pick W.f__law_pick.kp (b__law_pick W) (ja_cons (je_var (i := 0)) (ja_cons (je_var (i := 3)) (ja_nil)))) (ja_cons (je_non) (ja_cons (je_call (ok__law_e W) hgu (hr.mono (by decide)) W.g__law_e W.f__law_e.kp (b__law_e W) (ja_cons (je_var (i := 0)) (ja_cons (je_var (i := 1)) (ja_cons (je_int) (ja_nil))))) (ja_nil)))))) (ja_nil)))))) (js_nil))
    (js_one (js_ret (je_var (i := 6))))))
theorem b__law_handler (W : Facts P w T K mg fd) : Binds K (fd 9) ["_law_pen_here", "_law_names", "_law_keys", "_law_kinds", "_law_sends"] [] := W.f__law_handler.bindsN fun _ _ _ _ _ _ us hl => match us, hl with | [_, _, _, _, _], _ => rfl
theorem sc__law_row_tuple : FnScope ["_law_found", "_law_cell"] ["_law_found"] (defScope (top 47)) := ⟨rfl, rfl, rfl, by decide +kernel, rfl, by decide +kernel, by decide +kernel⟩
theorem ok__law_row_tuple (W : Facts P w T K mg fd) : FnG P w K mg base CX0 1 (gloAt "_law_row_tuple" K) (fd 10) ["_law_found"] (spOf K T 1 F__law_row_tuple) :=
  fn_pure (fn_ok W.f__law_row_tuple sc__law_row_tuple (k := 0) fun cdv A outer s H E hgu hr =>
    js_one (js_ret (je_BT cd_tuple W.n_tuple (ja_cons (je_comp (own := [("_law_cell", 1)]) rfl sc__law_row_tuple.nd (ji_seq (je_sortN W.tw W.tp rfl W.n_sorted (je_var (i := 0)))) (BlkOk.mk (N := ["_law_found", "_law_cell"]) (sc := defScope (top 47)) rfl (by decide +kernel) (by decide +kernel) (by decide +kernel) (by decide +kernel)) (fun _ _ _ _ _ => jg_name (i := 1) sc__law_row_tuple.nd) (fun _ _ _ _ _ => jts_one (jt_cmpD (opD_ne (u64 hr)) opNe_bool (je_ixN W.tw W.tp (u10 hr) (je_var (i := 0)) (je_var (i := 1))) (je_int))) (fun _ _ _ _ _ => je_tup (ja_cons (je_var (i := 1)) (ja_cons (je_ixN W.tw W.tp (u10 hr) (je_var (i := 0)) (je_var (i := 1))) (ja_nil))))) (ja_nil)))))
theorem b__law_row_tuple (W : Facts P w T K mg fd) : Binds K (fd 10) ["_law_found"] [] := W.f__law_row_tuple.bindsN fun _ _ _ _ _ _ us hl => match us, hl with | [_], _ => rfl
theorem sc__law_rows : FnScope ["_law_pen_here", "_law_names", "_law_keys", "_law_found", "_law_name", "_law_key"] ["_law_pen_here", "_law_names", "_law_keys"] (defScope (top 46)) := ⟨rfl, rfl, rfl, by decide +kernel, rfl, by decide +kernel, by decide +kernel⟩
theorem ok__law_rows (W : Facts P w T K mg fd) : FnG P w K mg base CX0 4 (gloAt "_law_rows" K) (fd 11) ["_law_pen_here", "_law_names", "_law_keys"] (spOf K T 3 F__law_rows) :=
  fn_ok W.f__law_rows sc__law_rows (k := 3) fun cdv A outer s H E hgu hr =>
    js_cons (js_set (i := 3) sc__law_rows.nd (je_dctN W.tw W.tp))
    (js_cons (js_for PassesOwn.never rfl (ji_seq (je_var (i := 1))) (jg_name (i := 4) sc__law_rows.nd) (js_one (js_for PassesOwn.never rfl (ji_seq (je_var (i := 2))) (jg_name (i := 5) sc__law_rows.nd) (js_one (js_if (jt_cmpD opD_gt opGt_bool (je_call (ok__law_draw W) hgu (hr.mono (by decide)) W.g__law_draw W.f__law_draw.kp (b__law_draw W) (ja_cons (je_var (i := 0)) (ja_cons (je_int) (ja_nil)))) (je_int)) (js_one (js_asg (je_call (ok__law_number W) hgu (hr.mono (by decide)) W.g__law_number W.f__law_number.kp (b__law_number W) (ja_cons (je_var (i := 0)) (ja_nil))) (jg_item W.tw W.tp (u10 hr) (je_var (i := 3)) (je_tup (ja_cons (je_var (i := 4)) (ja_cons (je_var (i := 5)) (ja_nil))))))) (js_nil))))))
    (js_one (js_ret (je_call (ok__law_row_tuple W) hgu (hr.mono (by decide)) W.g__law_row_tuple W.f__law_row_tuple.kp (b__law_row_tuple W) (ja_cons (je_var (i := 3)) (ja_nil))))))
theorem b__law_rows (W : Facts P w T K mg fd) : Binds K (fd 11) ["_law_pen_here", "_law_names", "_law_keys"] [] := W.f__law_rows.bindsN fun _ _ _ _ _ _ us hl => match us, hl with | [_, _, _], _ => rfl
theorem sc_is_tree : FnScope ["value", "head", "size"] ["value", "head", "size"] (defScope (top 22)) := ⟨rfl, rfl, rfl, by decide +kernel, rfl, by decide +kernel, by decide +kernel⟩
theorem ok_is_tree (W : Facts P w T K mg fd) : FnG P w K mg base CX0 1 (gloAt "is_tree" K) (fd 12) ["value", "head", "size"] (spOf K T 3 F_is_tree) :=
  fn_pure (fn_ok W.f_is_tree sc_is_tree (k := 0) fun cdv A outer s H E hgu hr =>
    js_one (js_ret (je_and (je_isi (t := .tuple) (je_var (i := 0)) W.n_isinstance W.n_tuple) (je_and (je_cmpD (opD_eq (u64 hr)) (je_B cd_len W.n_len (ja_cons (je_var (i := 0)) (ja_nil))) (je_var (i := 2))) (je_and (je_isi (t := .str) (je_ix (u1 hr) (je_var (i := 0)) (je_int)) W.n_isinstance W.n_str) (je_one (je_cmpD (opD_eq (u64 hr)) (je_ix (u1 hr) (je_var (i := 0)) (je_int)) (je_var (i := 1)))))))))
theorem b_is_tree (W : Facts P w T K mg fd) : Binds K (fd 12) ["value", "head", "size"] [] := W.f_is_tree.bindsN fun _ _ _ _ _ _ us hl => match us, hl with | [_, _, _], _ => rfl
theorem sc_is_word : FnScope ["value", "letter"] ["value"] (defScope (top 8)) := ⟨rfl, rfl, rfl, by decide +kernel, rfl, by decide +kernel, by decide +kernel⟩
theorem ok_is_word (W : Facts P w T K mg fd) : FnG P w K mg base CX0 1 (gloAt "is_word" K) (fd 13) ["value"] (spOf K T 1 F_is_word) :=
  fn_pure (fn_ok W.f_is_word sc_is_word (k := 0) fun cdv A outer s H E hgu hr =>
    js_cons (js_if (JW.t (jw_or (jt_not (jt_plain (je_isi (t := .str) (je_var (i := 0)) W.n_isinstance W.n_str))) (jw_or1 (jt_not (jt_chain opD_le opD_le opLe_bool (je_int) (je_B cd_len W.n_len (ja_cons (je_var (i := 0)) (ja_nil))) ((je_datum W.d_MAX_LETTERS))))))) (js_one (js_ret (je_bl))) (js_nil))
    (js_one (js_ret (je_B (cd_all rfl) W.n_all (ja_cons (je_comp (own := [("letter", 1)]) rfl sc_is_word.nd (ji_seq (je_var (i := 0))) (BlkOk.mk (N := ["value", "letter"]) (sc := defScope (top 8)) rfl (by decide +kernel) (by decide +kernel) (by decide +kernel) (by decide +kernel)) (fun _ _ _ _ _ => jg_name (i := 1) sc_is_word.nd) (fun _ _ _ _ _ => jts_nil) (fun _ _ _ _ _ => je_cmpD (opD_in (u65 hr)) (je_var (i := 1)) ((je_datum W.d_LETTERS)))) (ja_nil))))))
theorem b_is_word (W : Facts P w T K mg fd) : Binds K (fd 13) ["value"] [] := W.f_is_word.bindsN fun _ _ _ _ _ _ us hl => match us, hl with | [_], _ => rfl
theorem sc_is_integer : FnScope ["value"] ["value"] (defScope (top 7)) := ⟨rfl, rfl, rfl, by decide +kernel, rfl, by decide +kernel, by decide +kernel⟩
theorem ok_is_integer (W : Facts P w T K mg fd) : FnG P w K mg base CX0 1 (gloAt "is_integer" K) (fd 14) ["value"] (spOf K T 1 F_is_integer) :=
  fn_pure (fn_ok W.f_is_integer sc_is_integer (k := 0) fun cdv A outer s H E hgu hr =>
    js_one (js_ret (je_and (je_isi (t := .int) (je_var (i := 0)) W.n_isinstance W.n_int) (je_one (je_not (je_isi (t := .bool) (je_var (i := 0)) W.n_isinstance W.n_bool))))))
theorem b_is_integer (W : Facts P w T K mg fd) : Binds K (fd 14) ["value"] [] := W.f_is_integer.bindsN fun _ _ _ _ _ _ us hl => match us, hl with | [_], _ => rfl
theorem sc_is_value : FnScope ["value"] ["value"] (defScope (top 9)) := ⟨rfl, rfl, rfl, by decide +kernel, rfl, by decide +kernel, by decide +kernel⟩
theorem ok_is_value (W : Facts P w T K mg fd) : FnG P w K mg base CX0 2 (gloAt "is_value" K) (fd 15) ["value"] (spOf K T 1 F_is_value) :=
  fn_pure (fn_ok W.f_is_value sc_is_value (k := 1) fun cdv A outer s H E hgu hr =>
    js_one (js_ret (je_and (je_call (ok_is_integer W) hgu (hr.mono (by decide)) W.g_is_integer W.f_is_integer.kp (b_is_integer W) (ja_cons (je_var (i := 0)) (ja_nil))) (je_one (je_chain opD_le opD_le (je_neg ((je_datum W.d_MAX_VALUE))) (je_var (i := 0)) ((je_datum W.d_MAX_VALUE)))))))
theorem b_is_value (W : Facts P w T K mg fd) : Binds K (fd 15) ["value"] [] := W.f_is_value.bindsN fun _ _ _ _ _ _ us hl => match us, hl with | [_], _ => rfl
theorem sc_is_expression : FnScope ["value", "depth", "sign"] ["value", "depth"] (defScope (top 23)) := ⟨rfl, rfl, rfl, by decide +kernel, rfl, by decide +kernel, by decide +kernel⟩
theorem b_is_expression (W : Facts P w T K mg fd) : Binds K (fd 16) ["value", "depth"] [] := W.f_is_expression.bindsN fun _ _ _ _ _ _ us hl => match us, hl with | [_, _], _ => rfl
theorem okR_is_expression (W : Facts P w T K mg fd) : ∀ n : Nat, FnG P w K mg base CX0 (3 + n) (gloAt "is_expression" K) (fd 16) ["value", "depth"] (spOf K T 2 (R_is_expression n))
  | 0 => fn_bad
  | n + 1 => have ih := okR_is_expression W n
  fn_pure (fn_ok W.f_is_expression sc_is_expression (k := 3 + n) fun cdv A outer s H E hgu hr =>
    js_cons (js_if (jt_cmpD (opD_eq (u64 hr)) opEq_bool (je_var (i := 1)) (je_int)) (js_one (js_ret (je_bl))) (js_nil))
    (js_cons (js_if (jt_plain (je_call (ok_is_tree W) hgu (hr.mono (by omega)) W.g_is_tree W.f_is_tree.kp (b_is_tree W) (ja_cons (je_var (i := 0)) (ja_cons (je_str) (ja_cons (je_int) (ja_nil)))))) (js_one (js_ret (je_call (ok_is_value W) hgu (hr.mono (by omega)) W.g_is_value W.f_is_value.kp (b_is_value W) (ja_cons (je_ix (u1 hr) (je_var (i := 0)) (je_int)) (ja_nil))))) (js_nil))
    (js_cons (js_if (jt_plain (je_call (ok_is_tree W) hgu (hr.mono (by omega)) W.g_is_tree W.f_is_tree.kp (b_is_tree W) (ja_cons (je_var (i := 0)) (ja_cons (je_str) (ja_cons (je_int) (ja_nil)))))) (js_one (js_ret (je_call (ok_is_word W) hgu (hr.mono (by omega)) W.g_is_word W.f_is_word.kp (b_is_word W) (ja_cons (je_ix (u1 hr) (je_var (i := 0)) (je_int)) (ja_nil))))) (js_nil))
    (js_cons (js_if (jt_plain (je_B (cd_any rfl) W.n_any (ja_cons (je_comp (own := [("sign", 2)]) rfl sc_is_expression.nd (ji_seq ((je_datum W.d_SUMS))) (BlkOk.mk (N := ["value", "depth", "sign"]) (sc := defScope (top 23)) rfl (by decide +kernel) (by decide +kernel) (by decide +kernel) (by decide +kernel)) (fun _ _ _ _ _ => jg_name (i := 2) sc_is_expression.nd) (fun _ _ _ _ _ => jts_nil) (fun _ _ _ _ _ => je_call (ok_is_tree W) hgu (hr.mono (by omega)) W.g_is_tree W.f_is_tree.kp (b_is_tree W) (ja_cons (je_var (i := 0)) (ja_cons (je_var (i := 2)) (ja_cons (je_int) (ja_nil)))))) (ja_nil)))) (js_one (js_ret (je_and (je_call (ih) hgu (hr.mono (by omega)) W.g_is_expression W.f_is_expression.kp (b_is_expression W) (ja_cons (je_ix (u1 hr) (je_var (i := 0)) (je_int)) (ja_cons (je_bin opD_sub (je_var (i := 1)) (je_int)) (ja_nil)))) (je_one (je_call (ih) hgu (hr.mono (by omega)) W.g_is_expression W.f_is_expression.kp (b_is_expression W) (ja_cons (je_ix (u1 hr) (je_var (i := 0)) (je_int)) (ja_cons (je_bin opD_sub (je_var (i := 1)) (je_int)) (ja_nil)))))))) (js_nil))
    (js_one (js_ret (je_call (ok_is_tree W) hgu (hr.mono (by omega)) W.g_is_tree W.f_is_tree.kp (b_is_tree W) (ja_cons (je_var (i := 0)) (ja_cons (je_str) (ja_cons (je_int) (ja_nil)))))))))))
theorem ok_is_expression (W : Facts P w T K mg fd) : FnG P w K mg base CX0 15 (gloAt "is_expression" K) (fd 16) ["value", "depth"] (spOf K T 2 F_is_expression) := okR_is_expression W 12
theorem sc_is_condition : FnScope ["value", "depth", "sign", "word"] ["value", "depth"] (defScope (top 24)) := ⟨rfl, rfl, rfl, by decide +kernel, rfl, by decide +kernel, by decide +kernel⟩
theorem b_is_condition (W : Facts P w T K mg fd) : Binds K (fd 17) ["value", "depth"] [] := W.f_is_condition.bindsN fun _ _ _ _ _ _ us hl => match us, hl with | [_, _], _ => rfl
theorem okR_is_condition (W : Facts P w T K mg fd) : ∀ n : Nat, FnG P w K mg base CX0 (16 + n) (gloAt "is_condition" K) (fd 17) ["value", "depth"] (spOf K T 2 (R_is_condition n))
  | 0 => fn_bad
  | n + 1 => have ih := okR_is_condition W n
  fn_pure (fn_ok W.f_is_condition sc_is_condition (k := 16 + n) fun cdv A outer s H E hgu hr =>
    js_cons (js_if (jt_cmpD (opD_eq (u64 hr)) opEq_bool (je_var (i := 1)) (je_int)) (js_one (js_ret (je_bl))) (js_nil))
    (js_cons (js_if (jt_plain (je_B (cd_any rfl) W.n_any (ja_cons (je_comp (own := [("sign", 2)]) rfl sc_is_condition.nd (ji_seq ((je_datum W.d_COMPARISONS))) (BlkOk.mk (N := ["value", "depth", "sign", "word"]) (sc := defScope (top 24)) rfl (by decide +kernel) (by decide +kernel) (by decide +kernel) (by decide +kernel)) (fun _ _ _ _ _ => jg_name (i := 2) sc_is_condition.nd) (fun _ _ _ _ _ => jts_nil) (fun _ _ _ _ _ => je_call (ok_is_tree W) hgu (hr.mono (by omega)) W.g_is_tree W.f_is_tree.kp (b_is_tree W) (ja_cons (je_var (i := 0)) (ja_cons (je_var (i := 2)) (ja_cons (je_int) (ja_nil)))))) (ja_nil)))) (js_one (js_ret (je_and (je_call (ok_is_expression W) hgu (hr.mono (by omega)) W.g_is_expression W.f_is_expression.kp (b_is_expression W) (ja_cons (je_ix (u1 hr) (je_var (i := 0)) (je_int)) (ja_cons ((je_datum W.d_MAX_DEPTH)) (ja_nil)))) (je_one (je_call (ok_is_expression W) hgu (hr.mono (by omega)) W.g_is_expression W.f_is_expression.kp (b_is_expression W) (ja_cons (je_ix (u1 hr) (je_var (i := 0)) (je_int)) (ja_cons ((je_datum W.d_MAX_DEPTH)) (ja_nil)))))))) (js_nil))
    (js_cons (js_if (jt_plain (je_B (cd_any rfl) W.n_any (ja_cons (je_comp (own := [("word", 3)]) rfl sc_is_condition.nd (ji_seq ((je_datum W.d_JOINS))) (BlkOk.mk (N := ["value", "depth", "sign", "word"]) (sc := defScope (top 24)) rfl (by decide +kernel) (by decide +kernel) (by decide +kernel) (by decide +kernel)) (fun _ _ _ _ _ => jg_name (i := 3) sc_is_condition.nd) (fun _ _ _ _ _ => jts_nil) (fun _ _ _ _ _ => je_call (ok_is_tree W) hgu (hr.mono (by omega)) W.g_is_tree W.f_is_tree.kp (b_is_tree W) (ja_cons (je_var (i := 0)) (ja_cons (je_var (i := 3)) (ja_cons (je_int) (ja_nil)))))) (ja_nil)))) (js_one (js_ret (je_and (je_call (ih) hgu (hr.mono (by omega)) W.g_is_condition W.f_is_condition.kp (b_is_condition W) (ja_cons (je_ix (u1 hr) (je_var (i := 0)) (je_int)) (ja_cons (je_bin opD_sub (je_var (i := 1)) (je_int)) (ja_nil)))) (je_one (je_call (ih) hgu (hr.mono (by omega)) W.g_is_condition W.f_is_condition.kp (b_is_condition W) (ja_cons (je_ix (u1 hr) (je_var (i := 0)) (je_int)) (ja_cons (je_bin opD_sub (je_var (i := 1)) (je_int)) (ja_nil)))))))) (js_nil))
    (js_one (js_ret (je_and (je_call (ok_is_tree W) hgu (hr.mono (by omega)) W.g_is_tree W.f_is_tree.kp (b_is_tree W) (ja_cons (je_var (i := 0)) (ja_cons (je_str) (ja_cons (je_int) (ja_nil))))) (je_one (je_call (ih) hgu (hr.mono (by omega)) W.g_is_condition W.f_is_condition.kp (b_is_condition W) (ja_cons (je_ix (u1 hr) (je_var (i := 0)) (je_int)) (ja_cons (je_bin opD_sub (je_var (i := 1)) (je_int)) (ja_nil)))))))))))
theorem ok_is_condition (W : Facts P w T K mg fd) : FnG P w K mg base CX0 28 (gloAt "is_condition" K) (fd 17) ["value", "depth"] (spOf K T 2 F_is_condition) := okR_is_condition W 12
theorem sc_are_deeds : FnScope ["value", "ifs", "deed"] ["value", "ifs"] (defScope (top 25)) := ⟨rfl, rfl, rfl, by decide +kernel, rfl, by decide +kernel, by decide +kernel⟩
theorem b_are_deeds (W : Facts P w T K mg fd) : Binds K (fd 18) ["value", "ifs"] [] := W.f_are_deeds.bindsN fun _ _ _ _ _ _ us hl => match us, hl with | [_, _], _ => rfl
theorem sc_is_deed : FnScope ["value", "ifs", "is_key", "is_right"] ["value", "ifs"] (defScope (top 26)) := ⟨rfl, rfl, rfl, by decide +kernel, rfl, by decide +kernel, by decide +kernel⟩
theorem b_is_deed (W : Facts P w T K mg fd) : Binds K (fd 19) ["value", "ifs"] [] := W.f_is_deed.bindsN fun _ _ _ _ _ _ us hl => match us, hl with | [_, _], _ => rfl
theorem okR_is_deed (W : Facts P w T K mg fd) : ∀ n : Nat, FnG P w K mg base CX0 (29 + n) (gloAt "are_deeds" K) (fd 18) ["value", "ifs"] (spOf K T 2 (R_are_deeds n)) ∧ FnG P w K mg base CX0 (29 + n) (gloAt "is_deed" K) (fd 19) ["value", "ifs"] (spOf K T 2 (R_is_deed n))
  | 0 => ⟨fn_bad, fn_bad⟩
  | n + 1 => have ih := okR_is_deed W n
  ⟨fn_pure (fn_ok W.f_are_deeds sc_are_deeds (k := 29 + n) fun cdv A outer s H E hgu hr =>
    js_one (js_ret (je_and (je_isi (t := .tuple) (je_var (i := 0)) W.n_isinstance W.n_tuple) (je_one (je_B (cd_all rfl) W.n_all (ja_cons (je_comp (own := [("deed", 2)]) rfl sc_are_deeds.nd (ji_seq (je_var (i := 0))) (BlkOk.mk (N := ["value", "ifs", "deed"]) (sc := defScope (top 25)) rfl (by decide +kernel) (by decide +kernel) (by decide +kernel) (by decide +kernel)) (fun _ _ _ _ _ => jg_name (i := 2) sc_are_deeds.nd) (fun _ _ _ _ _ => jts_nil) (fun _ _ _ _ _ => je_call (ih.2) hgu (hr.mono (by omega)) W.g_is_deed W.f_is_deed.kp (b_is_deed W) (ja_cons (je_var (i := 2)) (ja_cons (je_var (i := 1)) (ja_nil))))) (ja_nil))))))),
  fn_pure (fn_ok W.f_is_deed sc_is_deed (k := 29 + n) fun cdv A outer s H E hgu hr =>
    js_cons (js_if (jt_plain (je_call (ok_is_tree W) hgu (hr.mono (by omega)) W.g_is_tree W.f_is_tree.kp (b_is_tree W) (ja_cons (je_var (i := 0)) (ja_cons (je_str) (ja_cons (je_int) (ja_nil)))))) (js_one (js_ret (je_and (je_call (ok_is_word W) hgu (hr.mono (by omega)) W.g_is_word W.f_is_word.kp (b_is_word W) (ja_cons (je_ix (u1 hr) (je_var (i := 0)) (je_int)) (ja_nil))) (je_one (je_call (ok_is_expression W) hgu (hr.mono (by omega)) W.g_is_expression W.f_is_expression.kp (b_is_expression W) (ja_cons (je_ix (u1 hr) (je_var (i := 0)) (je_int)) (ja_cons ((je_datum W.d_MAX_DEPTH)) (ja_nil)))))))) (js_nil))
    (js_cons (js_if (jt_plain (je_call (ok_is_tree W) hgu (hr.mono (by omega)) W.g_is_tree W.f_is_tree.kp (b_is_tree W) (ja_cons (je_var (i := 0)) (ja_cons (je_str) (ja_cons (je_int) (ja_nil)))))) (js_cons (js_set (i := 2) sc_is_deed.nd (je_or (je_isN (je_ix (u1 hr) (je_var (i := 0)) (je_int))) (je_one (je_call (ok_is_word W) hgu (hr.mono (by omega)) W.g_is_word W.f_is_word.kp (b_is_word W) (ja_cons (je_ix (u1 hr) (je_var (i := 0)) (je_int)) (ja_nil))))))
    (js_one (js_ret (je_and (je_call (ok_is_word W) hgu (hr.mono (by omega)) W.g_is_word W.f_is_word.kp (b_is_word W) (ja_cons (je_ix (u1 hr) (je_var (i := 0)) (je_int)) (ja_nil))) (je_and (je_var (i := 2)) (je_one (je_call (ok_is_expression W) hgu (hr.mono (by omega)) W.g_is_expression W.f_is_expression.kp (b_is_expression W) (ja_cons (je_ix (u1 hr) (je_var (i := 0)) (je_int)) (ja_cons ((je_datum W.d_MAX_DEPTH)) (ja_nil)))))))))) (js_nil))
    (js_cons (js_if (jt_plain (je_call (ok_is_tree W) hgu (hr.mono (by omega)) W.g_is_tree W.f_is_tree.kp (b_is_tree W) (ja_cons (je_var (i := 0)) (ja_cons (je_str) (ja_cons (je_int) (ja_nil)))))) (js_cons (js_set (i := 3) sc_is_deed.nd (je_and (je_cmpD opD_gt (je_var (i := 1)) (je_int)) (je_one (je_call (ok_is_condition W) hgu (hr.mono (by omega)) W.g_is_condition W.f_is_condition.kp (b_is_condition W) (ja_cons (je_ix (u1 hr) (je_var (i := 0)) (je_int)) (ja_cons ((je_datum W.d_MAX_DEPTH)) (ja_nil)))))))
    (js_one (js_ret (je_and (je_var (i := 3)) (je_and (je_call (ih.1) hgu (hr.mono (by omega)) W.g_are_deeds W.f_are_deeds.kp (b_are_deeds W) (ja_cons (je_ix (u1 hr) (je_var (i := 0)) (je_int)) (ja_cons (je_bin opD_sub (je_var (i := 1)) (je_int)) (ja_nil)))) (je_one (je_call (ih.1) hgu (hr.mono (by omega)) W.g_are_deeds W.f_are_deeds.kp (b_are_deeds W) (ja_cons (je_ix (u1 hr) (je_var (i := 0)) (je_int)) (ja_cons (je_bin opD_sub (je_var (i := 1)) (je_int)) (ja_nil)))))))))) (js_nil))
    (js_one (js_ret (je_call (ok_is_tree W) hgu (hr.mono (by omega)) W.g_is_tree W.f_is_tree.kp (b_is_tree W) (ja_cons (je_var (i := 0)) (ja_cons (je_str) (ja_cons (je_int) (ja_nil))))))))))⟩
theorem ok_are_deeds (W : Facts P w T K mg fd) : FnG P w K mg base CX0 41 (gloAt "are_deeds" K) (fd 18) ["value", "ifs"] (spOf K T 2 F_are_deeds) := (okR_is_deed W 12).1
theorem ok_is_deed (W : Facts P w T K mg fd) : FnG P w K mg base CX0 41 (gloAt "is_deed" K) (fd 19) ["value", "ifs"] (spOf K T 2 F_is_deed) := (okR_is_deed W 12).2
theorem sc_count_deeds : FnScope ["deeds", "inner", "deed"] ["deeds"] (defScope (top 27)) := ⟨rfl, rfl, rfl, by decide +kernel, rfl, by decide +kernel, by decide +kernel⟩
theorem b_count_deeds (W : Facts P w T K mg fd) : Binds K (fd 20) ["deeds"] [] := W.f_count_deeds.bindsN fun _ _ _ _ _ _ us hl => match us, hl with | [_], _ => rfl
theorem okR_count_deeds (W : Facts P w T K mg fd) : ∀ n : Nat, FnG P w K mg base CX0 (1 + n) (gloAt "count_deeds" K) (fd 20) ["deeds"] (spOf K T 1 (R_count_deeds n))
  | 0 => fn_bad
  | n + 1 => have ih := okR_count_deeds W n
  fn_pure (fn_ok W.f_count_deeds sc_count_deeds (k := 1 + n) fun cdv A outer s H E hgu hr =>
    js_cons (js_setComp (i := 1) (own := [("deed", 2)]) rfl sc_count_deeds.nd rfl (ji_seq (je_var (i := 0))) (BlkOk.mk (N := ["deeds", "inner", "deed"]) (sc := defScope (top 27)) rfl (by decide +kernel) (by decide +kernel) (by decide +kernel) (by decide +kernel)) (fun _ _ _ _ _ => jg_name (i := 2) sc_count_deeds.nd) (fun _ _ _ _ _ => jts_one (jt_cmpD (opD_eq (u64 hr)) opEq_bool (je_ix (u1 hr) (je_var (i := 2)) (je_int)) (je_str))) (fun _ _ _ _ _ => je_bin opD_add (je_call (ih) hgu (hr.mono (by omega)) W.g_count_deeds W.f_count_deeds.kp (b_count_deeds W) (ja_cons (je_ix (u1 hr) (je_var (i := 2)) (je_int)) (ja_nil))) (je_call (ih) hgu (hr.mono (by omega)) W.g_count_deeds W.f_count_deeds.kp (b_count_deeds W) (ja_cons (je_ix (u1 hr) (je_var (i := 2)) (je_int)) (ja_nil)))))
    (js_one (js_ret (je_bin opD_add (je_B cd_len W.n_len (ja_cons (je_var (i := 0)) (ja_nil))) (je_B (cd_sum rfl) W.n_sum (ja_cons (je_var (i := 1)) (ja_nil)))))))
theorem ok_count_deeds (W : Facts P w T K mg fd) : FnG P w K mg base CX0 13 (gloAt "count_deeds" K) (fd 20) ["deeds"] (spOf K T 1 F_count_deeds) := okR_count_deeds W 12
theorem sc_is_handler : FnScope ["value"] ["value"] (defScope (top 28)) := ⟨rfl, rfl, rfl, by decide +kernel, rfl, by decide +kernel, by decide +kernel⟩
theorem ok_is_handler (W : Facts P w T K mg fd) : FnG P w K mg base CX0 42 (gloAt "is_handler" K) (fd 21) ["value"] (spOf K T 1 F_is_handler) :=
  fn_pure (fn_ok W.f_is_handler sc_is_handler (k := 41) fun cdv A outer s H E hgu hr =>
    js_one (js_ret (je_and (je_call (ok_are_deeds W) hgu (hr.mono (by decide)) W.g_are_deeds W.f_are_deeds.kp (b_are_deeds W) (ja_cons (je_var (i := 0)) (ja_cons ((je_datum W.d_MAX_IFS)) (ja_nil)))) (je_one (je_cmpD opD_le (je_call (ok_count_deeds W) hgu (hr.mono (by decide)) W.g_count_deeds W.f_count_deeds.kp (b_count_deeds W) (ja_cons (je_var (i := 0)) (ja_nil))) ((je_datum W.d_MAX_DEEDS)))))))
theorem b_is_handler (W : Facts P w T K mg fd) : Binds K (fd 21) ["value"] [] := W.f_is_handler.bindsN fun _ _ _ _ _ _ us hl => match us, hl with | [_], _ => rfl
theorem sc_need_handler : FnScope ["value"] ["value"] (defScope (top 29)) := ⟨rfl, rfl, rfl, by decide +kernel, rfl, by decide +kernel, by decide +kernel⟩
theorem ok_need_handler (W : Facts P w T K mg fd) : FnG P w K mg base CX0 43 (gloAt "need_handler" K) (fd 22) ["value"] (spOf K T 1 F_need_handler) :=
  fn_pure (fn_ok W.f_need_handler sc_need_handler (k := 42) fun cdv A outer s H E hgu hr =>
    js_one (js_if (jt_not (jt_plain (je_call (ok_is_handler W) hgu (hr.mono (by decide)) W.g_is_handler W.f_is_handler.kp (b_is_handler W) (ja_cons (je_var (i := 0)) (ja_nil))))) (js_one (js_bad)) (js_nil)))
theorem b_need_handler (W : Facts P w T K mg fd) : Binds K (fd 22) ["value"] [] := W.f_need_handler.bindsN fun _ _ _ _ _ _ us hl => match us, hl with | [_], _ => rfl
theorem sc_is_cell : FnScope ["value"] ["value"] (defScope (top 11)) := ⟨rfl, rfl, rfl, by decide +kernel, rfl, by decide +kernel, by decide +kernel⟩
theorem ok_is_cell (W : Facts P w T K mg fd) : FnG P w K mg base CX0 2 (gloAt "is_cell" K) (fd 23) ["value"] (spOf K T 1 F_is_cell) :=
  fn_pure (fn_ok W.f_is_cell sc_is_cell (k := 1) fun cdv A outer s H E hgu hr =>
    js_one (js_ret (je_and (je_isi (t := .tuple) (je_var (i := 0)) W.n_isinstance W.n_tuple) (je_and (je_cmpD (opD_eq (u64 hr)) (je_B cd_len W.n_len (ja_cons (je_var (i := 0)) (ja_nil))) (je_int)) (je_and (je_call (ok_is_word W) hgu (hr.mono (by decide)) W.g_is_word W.f_is_word.kp (b_is_word W) (ja_cons (je_ix (u1 hr) (je_var (i := 0)) (je_int)) (ja_nil))) (je_one (je_call (ok_is_word W) hgu (hr.mono (by decide)) W.g_is_word W.f_is_word.kp (b_is_word W) (ja_cons (je_ix (u1 hr) (je_var (i := 0)) (je_int)) (ja_nil)))))))))
theorem b_is_cell (W : Facts P w T K mg fd) : Binds K (fd 23) ["value"] [] := W.f_is_cell.bindsN fun _ _ _ _ _ _ us hl => match us, hl with | [_], _ => rfl
theorem sc_is_row : FnScope ["value"] ["value"] (defScope (top 12)) := ⟨rfl, rfl, rfl, by decide +kernel, rfl, by decide +kernel, by decide +kernel⟩
theorem ok_is_row (W : Facts P w T K mg fd) : FnG P w K mg base CX0 3 (gloAt "is_row" K) (fd 24) ["value"] (spOf K T 1 F_is_row) :=
  fn_pure (fn_ok W.f_is_row sc_is_row (k := 2) fun cdv A outer s H E hgu hr =>
    js_cons (js_if (JW.t (jw_or (jt_not (jt_plain (je_isi (t := .tuple) (je_var (i := 0)) W.n_isinstance W.n_tuple))) (jw_or1 (jt_cmpD (opD_ne (u64 hr)) opNe_bool (je_B cd_len W.n_len (ja_cons (je_var (i := 0)) (ja_nil))) (je_int))))) (js_one (js_ret (je_bl))) (js_nil))
    (js_one (js_ret (je_and (je_call (ok_is_cell W) hgu (hr.mono (by decide)) W.g_is_cell W.f_is_cell.kp (b_is_cell W) (ja_cons (je_ix (u1 hr) (je_var (i := 0)) (je_int)) (ja_nil))) (je_and (je_call (ok_is_value W) hgu (hr.mono (by decide)) W.g_is_value W.f_is_value.kp (b_is_value W) (ja_cons (je_ix (u1 hr) (je_var (i := 0)) (je_int)) (ja_nil))) (je_one (je_cmpD (opD_ne (u64 hr)) (je_ix (u1 hr) (je_var (i := 0)) (je_int)) (je_int))))))))
theorem b_is_row (W : Facts P w T K mg fd) : Binds K (fd 24) ["value"] [] := W.f_is_row.bindsN fun _ _ _ _ _ _ us hl => match us, hl with | [_], _ => rfl
theorem sc_are_rows : FnScope ["value", "cells", "cell", "number", "one", "other", "row"] ["value"] (defScope (top 13)) := ⟨rfl, rfl, rfl, by decide +kernel, rfl, by decide +kernel, by decide +kernel⟩
theorem ok_are_rows (W : Facts P w T K mg fd) : FnG P w K mg base CX0 4 (gloAt "are_rows" K) (fd 25) ["value"] (spOf K T 1 F_are_rows) :=
  fn_pure (fn_ok W.f_are_rows sc_are_rows (k := 3) fun cdv A outer s H E hgu hr =>
    js_cons (js_if (JW.t (jw_or (jt_not (jt_plain (je_isi (t := .tuple) (je_var (i := 0)) W.n_isinstance W.n_tuple))) (jw_or1 (jt_not (jt_plain (je_B (cd_all rfl) W.n_all (ja_cons (je_comp (own := [("row", 6)]) rfl sc_are_rows.nd (ji_seq (je_var (i := 0))) (BlkOk.mk (N := ["value", "cells", "cell", "number", "one", "other", "row"]) (sc := defScope (top 13)) rfl (by decide +kernel) (by decide +kernel) (by decide +kernel) (by decide +kernel)) (fun _ _ _ _ _ => jg_name (i := 6) sc_are_rows.nd) (fun _ _ _ _ _ => jts_nil) (fun _ _ _ _ _ => je_call (ok_is_row W) hgu (hr.mono (by decide)) W.g_is_row W.f_is_row.kp (b_is_row W) (ja_cons (je_var (i := 6)) (ja_nil)))) (ja_nil)))))))) (js_one (js_ret (je_bl))) (js_nil))
    (js_cons (js_setComp (i := 1) (own := [("cell", 2), ("number", 3)]) rfl sc_are_rows.nd rfl (ji_seq (je_var (i := 0))) (BlkOk.mk (N := ["value", "cells", "cell", "number", "one", "other", "row"]) (sc := defScope (top 13)) rfl (by decide +kernel) (by decide +kernel) (by decide +kernel) (by decide +kernel)) (fun _ _ _ _ _ => jg_tup rfl (jgs_cons (jg_name (i := 2) sc_are_rows.nd) (jgs_cons (jg_name (i := 3) sc_are_rows.nd) (jgs_nil)))) (fun _ _ _ _ _ => jts_nil) (fun _ _ _ _ _ => je_var (i := 2)))
    (js_one (js_ret (je_B (cd_all rfl) W.n_all (ja_cons (je_comp (own := [("one", 4), ("other", 5)]) rfl sc_are_rows.nd (ji_zip W.n_zip (ja_cons (je_var (i := 1)) (ja_cons (je_sl (je_var (i := 1)) (jo_some (je_int)) (jo_none)) (ja_nil)))) (BlkOk.mk (N := ["value", "cells", "cell", "number", "one", "other", "row"]) (sc := defScope (top 13)) rfl (by decide +kernel) (by decide +kernel) (by decide +kernel) (by decide +kernel)) (fun _ _ _ _ _ => jg_tup rfl (jgs_cons (jg_name (i := 4) sc_are_rows.nd) (jgs_cons (jg_name (i := 5) sc_are_rows.nd) (jgs_nil)))) (fun _ _ _ _ _ => jts_nil) (fun _ _ _ _ _ => je_cmpD (opD_lt (u0 hr)) (je_var (i := 4)) (je_var (i := 5)))) (ja_nil)))))))
theorem b_are_rows (W : Facts P w T K mg fd) : Binds K (fd 25) ["value"] [] := W.f_are_rows.bindsN fun _ _ _ _ _ _ us hl => match us, hl with | [_], _ => rfl
theorem sc_is_message : FnScope ["value"] ["value"] (defScope (top 10)) := ⟨rfl, rfl, rfl, by decide +kernel, rfl, by decide +kernel, by decide +kernel⟩
theorem ok_is_message (W : Facts P w T K mg fd) : FnG P w K mg base CX0 3 (gloAt "is_message" K) (fd 26) ["value"] (spOf K T 1 F_is_message) :=
  fn_pure (fn_ok W.f_is_message sc_is_message (k := 2) fun cdv A outer s H E hgu hr =>
    js_cons (js_if (JW.t (jw_or (jt_not (jt_plain (je_isi (t := .tuple) (je_var (i := 0)) W.n_isinstance W.n_tuple))) (jw_or1 (jt_cmpD (opD_ne (u64 hr)) opNe_bool (je_B cd_len W.n_len (ja_cons (je_var (i := 0)) (ja_nil))) (je_int))))) (js_one (js_ret (je_bl))) (js_nil))
    (js_one (js_ret (je_and (je_call (ok_is_word W) hgu (hr.mono (by decide)) W.g_is_word W.f_is_word.kp (b_is_word W) (ja_cons (je_ix (u1 hr) (je_var (i := 0)) (je_int)) (ja_nil))) (je_and (je_call (ok_is_word W) hgu (hr.mono (by decide)) W.g_is_word W.f_is_word.kp (b_is_word W) (ja_cons (je_ix (u1 hr) (je_var (i := 0)) (je_int)) (ja_nil))) (je_one (je_call (ok_is_value W) hgu (hr.mono (by decide)) W.g_is_value W.f_is_value.kp (b_is_value W) (ja_cons (je_ix (u1 hr) (je_var (i := 0)) (je_int)) (ja_nil)))))))))
theorem b_is_message (W : Facts P w T K mg fd) : Binds K (fd 26) ["value"] [] := W.f_is_message.bindsN fun _ _ _ _ _ _ us hl => match us, hl with | [_], _ => rfl
theorem sc_Run___init__ : FnScope ["self", "rows", "message"] ["self", "rows", "message"] (defScope (inCls (top 31) 0)) := ⟨rfl, rfl, rfl, by decide +kernel, rfl, by decide +kernel, by decide +kernel⟩
theorem ok_Run___init__ (W : Facts P w T K mg fd) : FnG P w K mg base CX0 1 (mAt "Run" "__init__" K) (fd 27) ["self", "rows", "message"] (spOf K T 3 F_Run___init__) :=
  fn_ok W.f_Run___init__ sc_Run___init__ (k := 0) fun cdv A outer s H E hgu hr =>
    js_cons (js_fld (c := 0) (nm := [111, 119, 110, 95, 118, 97, 108, 117, 101, 115]) (je_var (i := 0)) (je_dictN W.tw W.tp rfl (u12 hr) W.n_dict (je_var (i := 1))) W.o_Run W.a_Run_own_values)
    (js_cons (js_fld (c := 0) (nm := [111, 119, 110, 95, 107, 101, 121]) (je_var (i := 0)) (je_ix (u1 hr) (je_var (i := 2)) (je_int)) W.o_Run W.a_Run_own_key)
    (js_cons (js_fld (c := 0) (nm := [111, 119, 110, 95, 98, 111, 100, 121]) (je_var (i := 0)) (je_ix (u1 hr) (je_var (i := 2)) (je_int)) W.o_Run W.a_Run_own_body)
    (js_cons (js_fld (c := 0) (nm := [111, 119, 110, 95, 114, 101, 97, 100, 115]) (je_var (i := 0)) (je_dctM0) W.o_Run W.a_Run_own_reads)
    (js_cons (js_fld (c := 0) (nm := [111, 119, 110, 95, 115, 101, 116, 115]) (je_var (i := 0)) (je_dctM0) W.o_Run W.a_Run_own_sets)
    (js_one (js_fld (c := 0) (nm := [111, 119, 110, 95, 115, 101, 110, 100, 115]) (je_var (i := 0)) (je_lstM (ja_nil)) W.o_Run W.a_Run_own_sends))))))
theorem b_Run___init__ (W : Facts P w T K mg fd) : Binds K (fd 27) ["self", "rows", "message"] [] := W.f_Run___init__.bindsN fun _ _ _ _ _ _ us hl => match us, hl with | [_, _, _], _ => rfl
theorem sc_held_within : FnScope ["number"] ["number"] (defScope (top 30)) := ⟨rfl, rfl, rfl, by decide +kernel, rfl, by decide +kernel, by decide +kernel⟩
theorem ok_held_within (W : Facts P w T K mg fd) : FnG P w K mg base CX0 1 (gloAt "held_within" K) (fd 28) ["number"] (spOf K T 1 F_held_within) :=
  fn_pure (fn_ok W.f_held_within sc_held_within (k := 0) fun cdv A outer s H E hgu hr =>
    js_one (js_ret (je_B (cd_max rfl) W.n_max (ja_cons (je_neg ((je_datum W.d_MAX_VALUE))) (ja_cons (je_B (cd_min rfl) W.n_min (ja_cons ((je_datum W.d_MAX_VALUE)) (ja_cons (je_var (i := 0)) (ja_nil)))) (ja_nil))))))
theorem b_held_within (W : Facts P w T K mg fd) : Binds K (fd 28) ["number"] [] := W.f_held_within.bindsN fun _ _ _ _ _ _ us hl => match us, hl with | [_], _ => rfl
theorem sc_Run_row_value : FnScope ["self", "name"] ["self", "name"] (defScope (inCls (top 31) 2)) := ⟨rfl, rfl, rfl, by decide +kernel, rfl, by decide +kernel, by decide +kernel⟩
theorem ok_Run_row_value (W : Facts P w T K mg fd) : FnG P w K mg base CX0 1 (mAt "Run" "row_value" K) (fd 29) ["self", "name"] (spOf K T 2 F_Run_row_value) :=
  fn_ok W.f_Run_row_value sc_Run_row_value (k := 0) fun cdv A outer s H E hgu hr =>
    js_cons (js_if (jt_cmpD (opD_notIn (u65 hr)) opNotIn_bool (je_var (i := 1)) (je_fld (c := 0) (nm := [111, 119, 110, 95, 115, 101, 116, 115]) (je_var (i := 0)) W.o_Run W.a_Run_own_sets)) (js_one (js_asg (je_bl) (jg_item W.tw W.tp (u10 hr) (je_fld (c := 0) (nm := [111, 119, 110, 95, 114, 101, 97, 100, 115]) (je_var (i := 0)) W.o_Run W.a_Run_own_reads) (je_var (i := 1))))) (js_nil))
    (js_one (js_ret (je_getN W.tw W.tp (u10 hr) (je_fld (c := 0) (nm := [111, 119, 110, 95, 118, 97, 108, 117, 101, 115]) (je_var (i := 0)) W.o_Run W.a_Run_own_values) (je_tup (ja_cons (je_var (i := 1)) (ja_cons (je_fld (c := 0) (nm := [111, 119, 110, 95, 107, 101, 121]) (je_var (i := 0)) W.o_Run W.a_Run_own_key) (ja_nil)))) (je_int))))
theorem b_Run_row_value (W : Facts P w T K mg fd) : Binds K (fd 29) ["self", "name"] [] := W.f_Run_row_value.bindsN fun _ _ _ _ _ _ us hl => match us, hl with | [_, _], _ => rfl
theorem sc_Run_value_of : FnScope ["self", "e", "one", "other"] ["self", "e"] (defScope (inCls (top 31) 1)) := ⟨rfl, rfl, rfl, by decide +kernel, rfl, by decide +kernel, by decide +kernel⟩
theorem b_Run_value_of (W : Facts P w T K mg fd) : Binds K (fd 30) ["self", "e"] [] := W.f_Run_value_of.bindsN fun _ _ _ _ _ _ us hl => match us, hl with | [_, _], _ => rfl
theorem okR_Run_value_of (W : Facts P w T K mg fd) : ∀ n : Nat, FnG P w K mg base CX0 (2 + n) (mAt "Run" "value_of" K) (fd 30) ["self", "e"] (spOf K T 2 (R_Run_value_of n))
  | 0 => fn_bad
  | n + 1 => have ih := okR_Run_value_of W n
  fn_ok W.f_Run_value_of sc_Run_value_of (k := 2 + n) fun cdv A outer s H E hgu hr =>
    js_cons (js_if (jt_cmpD (opD_eq (u64 hr)) opEq_bool (je_ix (u1 hr) (je_var (i := 1)) (je_int)) (je_str)) (js_one (js_ret (je_ix (u1 hr) (je_var (i := 1)) (je_int)))) (js_nil))
    (js_cons (js_if (jt_cmpD (opD_eq (u64 hr)) opEq_bool (je_ix (u1 hr) (je_var (i := 1)) (je_int)) (je_str)) (js_one (js_ret (je_fld (c := 0) (nm := [111, 119, 110, 95, 98, 111, 100, 121]) (je_var (i := 0)) W.o_Run W.a_Run_own_body))) (js_nil))
    (js_cons (js_if (jt_cmpD (opD_eq (u64 hr)) opEq_bool (je_ix (u1 hr) (je_var (i := 1)) (je_int)) (je_str)) (js_one (js_ret (je_meth (c := 0) (nm := [114, 111, 119, 95, 118, 97, 108, 117, 101]) (je_var (i := 0)) W.o_Run W.m_Run_row_value (ok_Run_row_value W) hgu (hr.mono (by omega)) (b_Run_row_value W) (ja_cons (je_ix (u1 hr) (je_var (i := 1)) (je_int)) (ja_nil))))) (js_nil))
    (js_cons (js_par (i := 2) (j := 3) rfl sc_Run_value_of.nd (ja_cons (je_meth (c := 0) (nm := [118, 97, 108, 117, 101, 95, 111, 102]) (je_var (i := 0)) W.o_Run W.m_Run_value_of (ih) hgu (hr.mono (by omega)) (b_Run_value_of W) (ja_cons (je_ix (u1 hr) (je_var (i := 1)) (je_int)) (ja_nil))) (ja_cons (je_meth (c := 0) (nm := [118, 97, 108, 117, 101, 95, 111, 102]) (je_var (i := 0)) W.o_Run W.m_Run_value_of (ih) hgu (hr.mono (by omega)) (b_Run_value_of W) (ja_cons (je_ix (u1 hr) (je_var (i := 1)) (je_int)) (ja_nil))) (ja_nil))))
    (js_one (js_ret (je_call (ok_held_within W) hgu (hr.mono (by omega)) W.g_held_within W.f_held_within.kp (b_held_within W) (ja_cons (je_ix (u1 hr) (je_dct (.cons (je_str) (je_bin opD_add (je_var (i := 2)) (je_var (i := 3))) (.cons (je_str) (je_bin opD_sub (je_var (i := 2)) (je_var (i := 3))) (.cons (je_str) (je_bin opD_mul (je_var (i := 2)) (je_var (i := 3))) (.nil))))) (je_ix (u1 hr) (je_var (i := 1)) (je_int))) (ja_nil))))))))
theorem ok_Run_value_of (W : Facts P w T K mg fd) : FnG P w K mg base CX0 14 (mAt "Run" "value_of" K) (fd 30) ["self", "e"] (spOf K T 2 F_Run_value_of) := okR_Run_value_of W 12
theorem sc_Run_truth_of : FnScope ["self", "c", "parts", "one", "other"] ["self", "c"] (defScope (inCls (top 31) 3)) := ⟨rfl, rfl, rfl, by decide +kernel, rfl, by decide +kernel, by decide +kernel⟩
theorem b_Run_truth_of (W : Facts P w T K mg fd) : Binds K (fd 31) ["self", "c"] [] := W.f_Run_truth_of.bindsN fun _ _ _ _ _ _ us hl => match us, hl with | [_, _], _ => rfl
theorem okR_Run_truth_of (W : Facts P w T K mg fd) : ∀ n : Nat, FnG P w K mg base CX0 (15 + n) (mAt "Run" "truth_of" K) (fd 31) ["self", "c"] (spOf K T 2 (R_Run_truth_of n))
  | 0 => fn_bad
  | n + 1 => have ih := okR_Run_truth_of W n
  fn_ok W.f_Run_truth_of sc_Run_truth_of (k := 15 + n) fun cdv A outer s H E hgu hr =>
    js_cons (js_if (jt_cmpD (opD_eq (u64 hr)) opEq_bool (je_ix (u1 hr) (je_var (i := 1)) (je_int)) (je_str)) (js_one (js_ret (je_not (je_meth (c := 0) (nm := [116, 114, 117, 116, 104, 95, 111, 102]) (je_var (i := 0)) W.o_Run W.m_Run_truth_of (ih) hgu (hr.mono (by omega)) (b_Run_truth_of W) (ja_cons (je_ix (u1 hr) (je_var (i := 1)) (je_int)) (ja_nil)))))) (js_nil))
    (js_cons (js_if (jt_cmpD (opD_in (u65 hr)) opIn_bool (je_ix (u1 hr) (je_var (i := 1)) (je_int)) ((je_datum W.d_JOINS))) (js_cons (js_set (i := 2) sc_Run_truth_of.nd (je_lst (ja_cons (je_meth (c := 0) (nm := [116, 114, 117, 116, 104, 95, 111, 102]) (je_var (i := 0)) W.o_Run W.m_Run_truth_of (ih) hgu (hr.mono (by omega)) (b_Run_truth_of W) (ja_cons (je_ix (u1 hr) (je_var (i := 1)) (je_int)) (ja_nil))) (ja_cons (je_meth (c := 0) (nm := [116, 114, 117, 116, 104, 95, 111, 102]) (je_var (i := 0)) W.o_Run W.m_Run_truth_of (ih) hgu (hr.mono (by omega)) (b_Run_truth_of W) (ja_cons (je_ix (u1 hr) (je_var (i := 1)) (je_int)) (ja_nil))) (ja_nil)))))
    (js_one (js_ret (je_if (jt_cmpD (opD_eq (u64 hr)) opEq_bool (je_ix (u1 hr) (je_var (i := 1)) (je_int)) (je_str)) (je_B (cd_all rfl) W.n_all (ja_cons (je_var (i := 2)) (ja_nil))) (je_B (cd_any rfl) W.n_any (ja_cons (je_var (i := 2)) (ja_nil))))))) (js_nil))
    (js_cons (js_par (i := 3) (j := 4) rfl sc_Run_truth_of.nd (ja_cons (je_meth (c := 0) (nm := [118, 97, 108, 117, 101, 95, 111, 102]) (je_var (i := 0)) W.o_Run W.m_Run_value_of (ok_Run_value_of W) hgu (hr.mono (by omega)) (b_Run_value_of W) (ja_cons (je_ix (u1 hr) (je_var (i := 1)) (je_int)) (ja_nil))) (ja_cons (je_meth (c := 0) (nm := [118, 97, 108, 117, 101, 95, 111, 102]) (je_var (i := 0)) W.o_Run W.m_Run_value_of (ok_Run_value_of W) hgu (hr.mono (by omega)) (b_Run_value_of W) (ja_cons (je_ix (u1 hr) (je_var (i := 1)) (je_int)) (ja_nil))) (ja_nil))))
    (js_one (js_ret (je_if (jt_cmpD (opD_eq (u64 hr)) opEq_bool (je_ix (u1 hr) (je_var (i := 1)) (je_int)) (je_str)) (je_cmpD (opD_lt (u0 hr)) (je_var (i := 3)) (je_var (i := 4))) (je_cmpD (opD_eq (u64 hr)) (je_var (i := 3)) (je_var (i := 4))))))))
theorem ok_Run_truth_of (W : Facts P w T K mg fd) : FnG P w K mg base CX0 27 (mAt "Run" "truth_of" K) (fd 31) ["self", "c"] (spOf K T 2 F_Run_truth_of) := okR_Run_truth_of W 12
theorem sc_Run_is_done : FnScope ["self", "deeds", "deed"] ["self", "deeds"] (defScope (inCls (top 31) 4)) := ⟨rfl, rfl, rfl, by decide +kernel, rfl, by decide +kernel, by decide +kernel⟩
theorem b_Run_is_done (W : Facts P w T K mg fd) : Binds K (fd 32) ["self", "deeds"] [] := W.f_Run_is_done.bindsN fun _ _ _ _ _ _ us hl => match us, hl with | [_, _], _ => rfl
theorem sc_Run_is_deed_done : FnScope ["self", "deed", "key"] ["self", "deed"] (defScope (inCls (top 31) 5)) := ⟨rfl, rfl, rfl, by decide +kernel, rfl, by decide +kernel, by decide +kernel⟩
theorem b_Run_is_deed_done (W : Facts P w T K mg fd) : Binds K (fd 33) ["self", "deed"] [] := W.f_Run_is_deed_done.bindsN fun _ _ _ _ _ _ us hl => match us, hl with | [_, _], _ => rfl
theorem okR_Run_is_deed_done (W : Facts P w T K mg fd) : ∀ n : Nat, FnG P w K mg base CX0 (28 + n) (mAt "Run" "is_done" K) (fd 32) ["self", "deeds"] (spOf K T 2 (R_Run_is_done n)) ∧ FnG P w K mg base CX0 (28 + n) (mAt "Run" "is_deed_done" K) (fd 33) ["self", "deed"] (spOf K T 2 (R_Run_is_deed_done n))
  | 0 => ⟨fn_bad, fn_bad⟩
  | n + 1 => have ih := okR_Run_is_deed_done W n
  ⟨fn_ok W.f_Run_is_done sc_Run_is_done (k := 28 + n) fun cdv A outer s H E hgu hr =>
    js_cons (js_for PassesOwn.never rfl (ji_seq (je_var (i := 1))) (jg_name (i := 2) sc_Run_is_done.nd) (js_one (js_if (jt_not (jt_plain (je_meth (c := 0) (nm := [105, 115, 95, 100, 101, 101, 100, 95, 100, 111, 110, 101]) (je_var (i := 0)) W.o_Run W.m_Run_is_deed_done (ih.2) hgu (hr.mono (by omega)) (b_Run_is_deed_done W) (ja_cons (je_var (i := 2)) (ja_nil))))) (js_one (js_ret (je_bl))) (js_nil))))
    (js_one (js_ret (je_bl))),
  fn_ok W.f_Run_is_deed_done sc_Run_is_deed_done (k := 28 + n) fun cdv A outer s H E hgu hr =>
    js_cons (js_if (jt_cmpD (opD_eq (u64 hr)) opEq_bool (je_ix (u1 hr) (je_var (i := 1)) (je_int)) (je_str)) (js_cons (js_asg (je_meth (c := 0) (nm := [118, 97, 108, 117, 101, 95, 111, 102]) (je_var (i := 0)) W.o_Run W.m_Run_value_of (ok_Run_value_of W) hgu (hr.mono (by omega)) (b_Run_value_of W) (ja_cons (je_ix (u1 hr) (je_var (i := 1)) (je_int)) (ja_nil))) (jg_item W.tw W.tp (u10 hr) (je_fld (c := 0) (nm := [111, 119, 110, 95, 118, 97, 108, 117, 101, 115]) (je_var (i := 0)) W.o_Run W.a_Run_own_values) (je_tup (ja_cons (je_ix (u1 hr) (je_var (i := 1)) (je_int)) (ja_cons (je_fld (c := 0) (nm := [111, 119, 110, 95, 107, 101, 121]) (je_var (i := 0)) W.o_Run W.a_Run_own_key) (ja_nil))))))
    (js_one (js_asg (je_bl) (jg_item W.tw W.tp (u10 hr) (je_fld (c := 0) (nm := [111, 119, 110, 95, 115, 101, 116, 115]) (je_var (i := 0)) W.o_Run W.a_Run_own_sets) (je_ix (u1 hr) (je_var (i := 1)) (je_int)))))) (js_nil))
    (js_cons (js_if (jt_cmpD (opD_eq (u64 hr)) opEq_bool (je_ix (u1 hr) (je_var (i := 1)) (je_int)) (je_str)) (js_cons (js_set (i := 2) sc_Run_is_deed_done.nd (je_if (jt_isN (je_ix (u1 hr) (je_var (i := 1)) (je_int))) (je_fld (c := 0) (nm := [111, 119, 110, 95, 107, 101, 121]) (je_var (i := 0)) W.o_Run W.a_Run_own_key) (je_ix (u1 hr) (je_var (i := 1)) (je_int))))
    (js_one (js_expr (je_app (je_fld (c := 0) (nm := [111, 119, 110, 95, 115, 101, 110, 100, 115]) (je_var (i := 0)) W.o_Run W.a_Run_own_sends) (je_tup (ja_cons (je_ix (u1 hr) (je_var (i := 1)) (je_int)) (ja_cons (je_var (i := 2)) (ja_cons (je_meth (c := 0) (nm := [118, 97, 108, 117, 101, 95, 111, 102]) (je_var (i := 0)) W.o_Run W.m_Run_value_of (ok_Run_value_of W) hgu (hr.mono (by omega)) (b_Run_value_of W) (ja_cons (je_ix (u1 hr) (je_var (i := 1)) (je_int)) (ja_nil))) (ja_nil))))))))) (js_nil))
    (js_cons (js_if (jt_cmpD (opD_eq (u64 hr)) opEq_bool (je_ix (u1 hr) (je_var (i := 1)) (je_int)) (je_str)) (js_one (js_ret (je_meth (c := 0) (nm := [105, 115, 95, 100, 111, 110, 101]) (je_var (i := 0)) W.o_Run W.m_Run_is_done (ih.1) hgu (hr.mono (by omega)) (b_Run_is_done W) (ja_cons (je_if (jt_plain (je_meth (c := 0) (nm := [116, 114, 117, 116, 104, 95, 111, 102]) (je_var (i := 0)) W.o_Run W.m_Run_truth_of (ok_Run_truth_of W) hgu (hr.mono (by omega)) (b_Run_truth_of W) (ja_cons (je_ix (u1 hr) (je_var (i := 1)) (je_int)) (ja_nil)))) (je_ix (u1 hr) (je_var (i := 1)) (je_int)) (je_ix (u1 hr) (je_var (i := 1)) (je_int))) (ja_nil))))) (js_nil))
    (js_one (js_ret (je_cmpD (opD_ne (u64 hr)) (je_ix (u1 hr) (je_var (i := 1)) (je_int)) (je_str))))))⟩
theorem ok_Run_is_done (W : Facts P w T K mg fd) : FnG P w K mg base CX0 40 (mAt "Run" "is_done" K) (fd 32) ["self", "deeds"] (spOf K T 2 F_Run_is_done) := (okR_Run_is_deed_done W 12).1
theorem ok_Run_is_deed_done (W : Facts P w T K mg fd) : FnG P w K mg base CX0 40 (mAt "Run" "is_deed_done" K) (fd 33) ["self", "deed"] (spOf K T 2 F_Run_is_deed_done) := (okR_Run_is_deed_done W 12).2
theorem sc_Run_rows_left : FnScope ["self", "values", "cell"] ["self"] (defScope (inCls (top 31) 6)) := ⟨rfl, rfl, rfl, by decide +kernel, rfl, by decide +kernel, by decide +kernel⟩
theorem ok_Run_rows_left (W : Facts P w T K mg fd) : FnG P w K mg base CX0 1 (mAt "Run" "rows_left" K) (fd 34) ["self"] (spOf K T 1 F_Run_rows_left) :=
  fn_ok W.f_Run_rows_left sc_Run_rows_left (k := 0) fun cdv A outer s H E hgu hr =>
    js_cons (js_set (i := 1) sc_Run_rows_left.nd (je_fld (c := 0) (nm := [111, 119, 110, 95, 118, 97, 108, 117, 101, 115]) (je_var (i := 0)) W.o_Run W.a_Run_own_values))
    (js_one (js_ret (je_BT cd_tuple W.n_tuple (ja_cons (je_comp (own := [("cell", 2)]) rfl sc_Run_rows_left.nd (ji_seq (je_sortN W.tw W.tp rfl W.n_sorted (je_var (i := 1)))) (BlkOk.mk (N := ["self", "values", "cell"]) (sc := defScope (inCls (top 31) 6)) rfl (by decide +kernel) (by decide +kernel) (by decide +kernel) (by decide +kernel)) (fun _ _ _ _ _ => jg_name (i := 2) sc_Run_rows_left.nd) (fun _ _ _ _ _ => jts_one (jt_cmpD (opD_ne (u64 hr)) opNe_bool (je_ixN W.tw W.tp (u10 hr) (je_var (i := 1)) (je_var (i := 2))) (je_int))) (fun _ _ _ _ _ => je_tup (ja_cons (je_var (i := 2)) (ja_cons (je_ixN W.tw W.tp (u10 hr) (je_var (i := 1)) (je_var (i := 2))) (ja_nil))))) (ja_nil)))))
theorem b_Run_rows_left (W : Facts P w T K mg fd) : Binds K (fd 34) ["self"] [] := W.f_Run_rows_left.bindsN fun _ _ _ _ _ _ us hl => match us, hl with | [_], _ => rfl
theorem sc_traced : FnScope ["handler", "rows", "message", "run", "end"] ["handler", "rows", "message"] (defScope (top 32)) := ⟨rfl, rfl, rfl, by decide +kernel, rfl, by decide +kernel, by decide +kernel⟩
theorem ok_traced (W : Facts P w T K mg fd) : FnG P w K mg base CX0 41 (gloAt "traced" K) (fd 35) ["handler", "rows", "message"] (spOf K T 3 F_traced) :=
  fn_pure (fn_ok W.f_traced sc_traced (k := 40) fun cdv A outer s H E hgu hr =>
    js_cons (js_set (i := 3) sc_traced.nd (je_make (c := 0) W.mk_Run (ok_Run___init__ W) hgu (hr.mono (by decide)) W.h_Run (b_Run___init__ W) (ja_cons (je_var (i := 1)) (ja_cons (je_var (i := 2)) (ja_nil)))))
    (js_cons (js_if (jt_not (jt_plain (je_meth (c := 0) (nm := [105, 115, 95, 100, 111, 110, 101]) (je_var (i := 3)) W.o_Run W.m_Run_is_done (ok_Run_is_done W) hgu (hr.mono (by decide)) (b_Run_is_done W) (ja_cons (je_var (i := 0)) (ja_nil))))) (js_one (js_ret (je_tup (ja_cons (je_tup (ja_cons (je_str) (ja_nil))) (ja_cons (je_BT cd_tuple W.n_tuple (ja_cons (je_B (cd_sorted rfl) W.n_sorted (ja_cons (je_fld (c := 0) (nm := [111, 119, 110, 95, 114, 101, 97, 100, 115]) (je_var (i := 3)) W.o_Run W.a_Run_own_reads) (ja_nil))) (ja_nil))) (ja_cons (je_tup (ja_nil)) (ja_nil))))))) (js_nil))
    (js_cons (js_set (i := 4) sc_traced.nd (je_tup (ja_cons (je_str) (ja_cons (je_meth0 (c := 0) (nm := [114, 111, 119, 115, 95, 108, 101, 102, 116]) (je_var (i := 3)) W.o_Run W.m_Run_rows_left (ok_Run_rows_left W) hgu (hr.mono (by decide)) (b_Run_rows_left W)) (ja_cons (je_BT cd_tuple W.n_tuple (ja_cons (je_fld (c := 0) (nm := [111, 119, 110, 95, 115, 101, 110, 100, 115]) (je_var (i := 3)) W.o_Run W.a_Run_own_sends) (ja_nil))) (ja_nil))))))
    (js_one (js_ret (je_tup (ja_cons (je_var (i := 4)) (ja_cons (je_BT cd_tuple W.n_tuple (ja_cons (je_B (cd_sorted rfl) W.n_sorted (ja_cons (je_fld (c := 0) (nm := [111, 119, 110, 95, 114, 101, 97, 100, 115]) (je_var (i := 3)) W.o_Run W.a_Run_own_reads) (ja_nil))) (ja_nil))) (ja_cons (je_BT cd_tuple W.n_tuple (ja_cons (je_B (cd_sorted rfl) W.n_sorted (ja_cons (je_fld (c := 0) (nm := [111, 119, 110, 95, 115, 101, 116, 115]) (je_var (i := 3)) W.o_Run W.a_Run_own_sets) (ja_nil))) (ja_nil))) (ja_nil))))))))))
theorem b_traced (W : Facts P w T K mg fd) : Binds K (fd 35) ["handler", "rows", "message"] [] := W.f_traced.bindsN fun _ _ _ _ _ _ us hl => match us, hl with | [_, _, _], _ => rfl
theorem sc_run_handler : FnScope ["handler", "rows", "message"] ["handler", "rows", "message"] (defScope (top 33)) := ⟨rfl, rfl, rfl, by decide +kernel, rfl, by decide +kernel, by decide +kernel⟩
theorem ok_run_handler (W : Facts P w T K mg fd) : FnG P w K mg base CX0 44 (gloAt "run_handler" K) (fd 36) ["handler", "rows", "message"] (spOf K T 3 F_run_handler) :=
  fn_pure (fn_ok W.f_run_handler sc_run_handler (k := 43) fun cdv A outer s H E hgu hr =>
    js_cons (js_expr (je_call (ok_need_handler W) hgu (hr.mono (by decide)) W.g_need_handler W.f_need_handler.kp (b_need_handler W) (ja_cons (je_var (i := 0)) (ja_nil))))
    (js_cons (js_if (jt_not (jt_plain (je_call (ok_are_rows W) hgu (hr.mono (by decide)) W.g_are_rows W.f_are_rows.kp (b_are_rows W) (ja_cons (je_var (i := 1)) (ja_nil))))) (js_one (js_bad)) (js_nil))
    (js_cons (js_if (jt_not (jt_plain (je_call (ok_is_message W) hgu (hr.mono (by decide)) W.g_is_message W.f_is_message.kp (b_is_message W) (ja_cons (je_var (i := 2)) (ja_nil))))) (js_one (js_bad)) (js_nil))
    (js_one (js_ret (je_ix (u1 hr) (je_call (ok_traced W) hgu (hr.mono (by decide)) W.g_traced W.f_traced.kp (b_traced W) (ja_cons (je_var (i := 0)) (ja_cons (je_var (i := 1)) (ja_cons (je_var (i := 2)) (ja_nil))))) (je_int)))))))
theorem b_run_handler (W : Facts P w T K mg fd) : Binds K (fd 36) ["handler", "rows", "message"] [] := W.f_run_handler.bindsN fun _ _ _ _ _ _ us hl => match us, hl with | [_, _, _], _ => rfl
theorem sc__law_words : FnScope ["_law_pen_here", "_law_many", "_law_letters", "_law_stem", "_law_step", "_law_at", "_law_first", "_law_k"] ["_law_pen_here", "_law_many"] (defScope (top 38)) := ⟨rfl, rfl, rfl, by decide +kernel, rfl, by decide +kernel, by decide +kernel⟩
theorem ok__law_words (W : Facts P w T K mg fd) : FnG P w K mg base CX0 3 (gloAt "_law_words" K) (fd 37) ["_law_pen_here", "_law_many"] (spOf K T 2 F__law_words) :=
  fn_ok W.f__law_words sc__law_words (k := 2) fun cdv A outer s H E hgu hr =>
    js_cons (js_set (i := 2) sc__law_words.nd (je_str))
    (js_cons (js_set (i := 3) sc__law_words.nd (je_join (sep := []) (je_comp (own := [("_law_k", 7)]) rfl sc__law_words.nd (ji_range W.n_range (je_call (ok__law_draw W) hgu (hr.mono (by decide)) W.g__law_draw W.f__law_draw.kp (b__law_draw W) (ja_cons (je_var (i := 0)) (ja_cons (je_int) (ja_nil))))) (BlkOk.mk (N := ["_law_pen_here", "_law_many", "_law_letters", "_law_stem", "_law_step", "_law_at", "_law_first", "_law_k"]) (sc := defScope (top 38)) rfl (by decide +kernel) (by decide +kernel) (by decide +kernel) (by decide +kernel)) (fun _ _ _ _ _ => jg_name (i := 7) sc__law_words.nd) (fun _ _ _ _ _ => jts_nil) (fun _ _ _ _ _ => je_call (ok__law_pick W) hgu (hr.mono (by decide)) W.g__law_pick W.f__law_pick.kp (b__law_pick W) (ja_cons (je_var (i := 0)) (ja_cons (je_var (i := 2)) (ja_nil)))))))
    (js_cons (js_parN (is := [5, 6]) rfl sc__law_words.nd (ja_cons (je_call (ok__law_draw W) hgu (hr.mono (by decide)) W.g__law_draw W.f__law_draw.kp (b__law_draw W) (ja_cons (je_var (i := 0)) (ja_cons (je_bin opD_add (je_B cd_len W.n_len (ja_cons (je_var (i := 3)) (ja_nil))) (je_int)) (ja_nil)))) (ja_cons (je_call (ok__law_draw W) hgu (hr.mono (by decide)) W.g__law_draw W.f__law_draw.kp (b__law_draw W) (ja_cons (je_var (i := 0)) (ja_cons (je_int) (ja_nil)))) (ja_nil))) (.cons (i := 5) rfl (by first | exact .inl rfl | exact .inr rfl) (by first | exact .inl rfl | exact .inr rfl) (.cons (i := 6) rfl (by first | exact .inl rfl | exact .inr rfl) (by first | exact .inl rfl | exact .inr rfl) (.nil))))
    (js_cons (js_set (i := 4) sc__law_words.nd (je_call (ok__law_pick W) hgu (hr.mono (by decide)) W.g__law_pick W.f__law_pick.kp (b__law_pick W) (ja_cons (je_var (i := 0)) (ja_cons (je_lst (ja_cons (je_int) (ja_cons (je_int) (ja_cons (je_int) (ja_cons (je_int) (ja_cons (je_int) (ja_cons (je_int) (ja_cons (je_int) (ja_cons (je_int) (ja_cons (je_int) (ja_cons (je_int) (ja_cons (je_int) (ja_cons (je_int) (ja_nil)))))))))))))) (ja_nil)))))
    (js_one (js_ret (je_comp (own := [("_law_k", 7)]) rfl sc__law_words.nd (ji_range W.n_range (je_var (i := 1))) (BlkOk.mk (N := ["_law_pen_here", "_law_many", "_law_letters", "_law_stem", "_law_step", "_law_at", "_law_first", "_law_k"]) (sc := defScope (top 38)) rfl (by decide +kernel) (by decide +kernel) (by decide +kernel) (by decide +kernel)) (fun _ _ _ _ _ => jg_name (i := 7) sc__law_words.nd) (fun _ _ _ _ _ => jts_nil) (fun _ _ _ _ _ => je_bin opD_add (je_bin opD_add (je_sl (je_var (i := 3)) (jo_none) (jo_some (je_var (i := 5)))) (je_ix (u1 hr) (je_var (i := 2)) (je_bin opD_mod (je_BT cd_int W.n_int (ja_cons (je_bin opD_add (je_var (i := 6)) (je_bin opD_mul (je_var (i := 4)) (je_var (i := 7)))) (ja_nil))) (je_int)))) (je_sl (je_var (i := 3)) (jo_some (je_var (i := 5))) (jo_none)))))))))
theorem b__law_words (W : Facts P w T K mg fd) : Binds K (fd 37) ["_law_pen_here", "_law_many"] [] := W.f__law_words.bindsN fun _ _ _ _ _ _ us hl => match us, hl with | [_, _], _ => rfl
theorem sc__law_worth : FnScope ["_law_e_here", "_law_values", "_law_key", "_law_body", "_law_found", "_law_one", "_law_other"] ["_law_e_here", "_law_values", "_law_key", "_law_body"] (defScope (top 48)) := ⟨rfl, rfl, rfl, by decide +kernel, rfl, by decide +kernel, by decide +kernel⟩
theorem b__law_worth (W : Facts P w T K mg fd) : Binds K (fd 38) ["_law_e_here", "_law_values", "_law_key", "_law_body"] [] := W.f__law_worth.bindsN fun _ _ _ _ _ _ us hl => match us, hl with | [_, _, _, _], _ => rfl
theorem okR__law_worth (W : Facts P w T K mg fd) : ∀ n : Nat, FnG P w K mg base CX0 (1 + n) (gloAt "_law_worth" K) (fd 38) ["_law_e_here", "_law_values", "_law_key", "_law_body"] (spOf K T 4 (R__law_worth n))
  | 0 => fn_bad
  | n + 1 => have ih := okR__law_worth W n
  fn_pure (fn_ok W.f__law_worth sc__law_worth (k := 1 + n) fun cdv A outer s H E hgu hr =>
    js_cons (js_if (jt_cmpD (opD_eq (u64 hr)) opEq_bool (je_ix (u1 hr) (je_var (i := 0)) (je_int)) (je_str)) (js_one (js_ret (je_ix (u1 hr) (je_var (i := 0)) (je_int)))) (js_nil))
    (js_cons (js_if (jt_cmpD (opD_eq (u64 hr)) opEq_bool (je_ix (u1 hr) (je_var (i := 0)) (je_int)) (je_str)) (js_one (js_ret (je_var (i := 3)))) (js_nil))
    (js_cons (js_if (jt_cmpD (opD_eq (u64 hr)) opEq_bool (je_ix (u1 hr) (je_var (i := 0)) (je_int)) (je_str)) (js_one (js_ret (je_getN W.tw W.tp (u10 hr) (je_var (i := 1)) (je_tup (ja_cons (je_ix (u1 hr) (je_var (i := 0)) (je_int)) (ja_cons (je_var (i := 2)) (ja_nil)))) (je_int)))) (js_nil))
    (js_cons (js_par (i := 5) (j := 6) rfl sc__law_worth.nd (ja_cons (je_call (ih) hgu (hr.mono (by omega)) W.g__law_worth W.f__law_worth.kp (b__law_worth W) (ja_cons (je_ix (u1 hr) (je_var (i := 0)) (je_int)) (ja_cons (je_var (i := 1)) (ja_cons (je_var (i := 2)) (ja_cons (je_var (i := 3)) (ja_nil)))))) (ja_cons (je_call (ih) hgu (hr.mono (by omega)) W.g__law_worth W.f__law_worth.kp (b__law_worth W) (ja_cons (je_ix (u1 hr) (je_var (i := 0)) (je_int)) (ja_cons (je_var (i := 1)) (ja_cons (je_var (i := 2)) (ja_cons (je_var (i := 3)) (ja_nil)))))) (ja_nil))))
    (js_cons (js_set (i := 4) sc__law_worth.nd (je_if (jt_cmpD (opD_eq (u64 hr)) opEq_bool (je_ix (u1 hr) (je_var (i := 0)) (je_int)) (je_str)) (je_bin opD_add (je_var (i := 5)) (je_var (i := 6))) (je_if (jt_cmpD (opD_eq (u64 hr)) opEq_bool (je_ix (u1 hr) (je_var (i := 0)) (je_int)) (je_str)) (je_bin opD_sub (je_var (i := 5)) (je_var (i := 6))) (je_bin opD_mul (je_var (i := 5)) (je_var (i := 6))))))
    (js_one (js_ret (je_if (jt_cmpD opD_gt opGt_bool (je_var (i := 4)) (je_int)) (je_int) (je_if (jt_cmpD (opD_lt (u0 hr)) opLt_bool (je_var (i := 4)) (je_neg (je_int))) (je_neg (je_int)) (je_var (i := 4)))))))))))
theorem ok__law_worth (W : Facts P w T K mg fd) : FnG P w K mg base CX0 13 (gloAt "_law_worth" K) (fd 38) ["_law_e_here", "_law_values", "_law_key", "_law_body"] (spOf K T 4 F__law_worth) := okR__law_worth W 12
theorem sc__law_holds : FnScope ["_law_c_here", "_law_values", "_law_key", "_law_body", "_law_one", "_law_other"] ["_law_c_here", "_law_values", "_law_key", "_law_body"] (defScope (top 49)) := ⟨rfl, rfl, rfl, by decide +kernel, rfl, by decide +kernel, by decide +kernel⟩
theorem b__law_holds (W : Facts P w T K mg fd) : Binds K (fd 39) ["_law_c_here", "_law_values", "_law_key", "_law_body"] [] := W.f__law_holds.bindsN fun _ _ _ _ _ _ us hl => match us, hl with | [_, _, _, _], _ => rfl
theorem okR__law_holds (W : Facts P w T K mg fd) : ∀ n : Nat, FnG P w K mg base CX0 (14 + n) (gloAt "_law_holds" K) (fd 39) ["_law_c_here", "_law_values", "_law_key", "_law_body"] (spOf K T 4 (R__law_holds n))
  | 0 => fn_bad
  | n + 1 => have ih := okR__law_holds W n
  fn_pure (fn_ok W.f__law_holds sc__law_holds (k := 14 + n) fun cdv A outer s H E hgu hr =>
    js_cons (js_if (jt_cmpD (opD_eq (u64 hr)) opEq_bool (je_ix (u1 hr) (je_var (i := 0)) (je_int)) (je_str)) (js_one (js_ret (je_not (je_call (ih) hgu (hr.mono (by omega)) W.g__law_holds W.f__law_holds.kp (b__law_holds W) (ja_cons (je_ix (u1 hr) (je_var (i := 0)) (je_int)) (ja_cons (je_var (i := 1)) (ja_cons (je_var (i := 2)) (ja_cons (je_var (i := 3)) (ja_nil))))))))) (js_nil))
    (js_cons (js_if (jt_cmpD (opD_eq (u64 hr)) opEq_bool (je_ix (u1 hr) (je_var (i := 0)) (je_int)) (je_str)) (js_one (js_ret (je_and (je_call (ih) hgu (hr.mono (by omega)) W.g__law_holds W.f__law_holds.kp (b__law_holds W) (ja_cons (je_ix (u1 hr) (je_var (i := 0)) (je_int)) (ja_cons (je_var (i := 1)) (ja_cons (je_var (i := 2)) (ja_cons (je_var (i := 3)) (ja_nil)))))) (je_one (je_call (ih) hgu (hr.mono (by omega)) W.g__law_holds W.f__law_holds.kp (b__law_holds W) (ja_cons (je_ix (u1 hr) (je_var (i := 0)) (je_int)) (ja_cons (je_var (i := 1)) (ja_cons (je_var (i := 2)) (ja_cons (je_var (i := 3)) (ja_nil)))))))))) (js_nil))
    (js_cons (js_if (jt_cmpD (opD_eq (u64 hr)) opEq_bool (je_ix (u1 hr) (je_var (i := 0)) (je_int)) (je_str)) (js_one (js_ret (je_or (je_call (ih) hgu (hr.mono (by omega)) W.g__law_holds W.f__law_holds.kp (b__law_holds W) (ja_cons (je_ix (u1 hr) (je_var (i := 0)) (je_int)) (ja_cons (je_var (i := 1)) (ja_cons (je_var (i := 2)) (ja_cons (je_var (i := 3)) (ja_nil)))))) (je_one (je_call (ih) hgu (hr.mono (by omega)) W.g__law_holds W.f__law_holds.kp (b__law_holds W) (ja_cons (je_ix (u1 hr) (je_var (i := 0)) (je_int)) (ja_cons (je_var (i := 1)) (ja_cons (je_var (i := 2)) (ja_cons (je_var (i := 3)) (ja_nil)))))))))) (js_nil))
    (js_cons (js_par (i := 4) (j := 5) rfl sc__law_holds.nd (ja_cons (je_call (ok__law_worth W) hgu (hr.mono (by omega)) W.g__law_worth W.f__law_worth.kp (b__law_worth W) (ja_cons (je_ix (u1 hr) (je_var (i := 0)) (je_int)) (ja_cons (je_var (i := 1)) (ja_cons (je_var (i := 2)) (ja_cons (je_var (i := 3)) (ja_nil)))))) (ja_cons (je_call (ok__law_worth W) hgu (hr.mono (by omega)) W.g__law_worth W.f__law_worth.kp (b__law_worth W) (ja_cons (je_ix (u1 hr) (je_var (i := 0)) (je_int)) (ja_cons (je_var (i := 1)) (ja_cons (je_var (i := 2)) (ja_cons (je_var (i := 3)) (ja_nil)))))) (ja_nil))))
    (js_one (js_ret (je_if (jt_cmpD (opD_eq (u64 hr)) opEq_bool (je_ix (u1 hr) (je_var (i := 0)) (je_int)) (je_str)) (je_cmpD (opD_lt (u0 hr)) (je_var (i := 4)) (je_var (i := 5))) (je_cmpD (opD_eq (u64 hr)) (je_var (i := 4)) (je_var (i := 5))))))))))
theorem ok__law_holds (W : Facts P w T K mg fd) : FnG P w K mg base CX0 26 (gloAt "_law_holds" K) (fd 39) ["_law_c_here", "_law_values", "_law_key", "_law_body"] (spOf K T 4 F__law_holds) := okR__law_holds W 12
theorem sc__law_did : FnScope ["_law_deeds_here", "_law_values", "_law_sends", "_law_key", "_law_body", "_law_deed_here"] ["_law_deeds_here", "_law_values", "_law_sends", "_law_key", "_law_body"] (defScope (top 50)) := ⟨rfl, rfl, rfl, by decide +kernel, rfl, by decide +kernel, by decide +kernel⟩
theorem b__law_did (W : Facts P w T K mg fd) : Binds K (fd 40) ["_law_deeds_here", "_law_values", "_law_sends", "_law_key", "_law_body"] [] := W.f__law_did.bindsN fun _ _ _ _ _ _ us hl => match us, hl with | [_, _, _, _, _], _ => rfl
theorem okR__law_did (W : Facts P w T K mg fd) : ∀ n : Nat, FnG P w K mg base CX0 (27 + n) (gloAt "_law_did" K) (fd 40) ["_law_deeds_here", "_law_values", "_law_sends", "_law_key", "_law_body"] (spOf K T 5 (R__law_did n))
  | 0 => fn_bad
  | n + 1 => have ih := okR__law_did W n
  fn_ok W.f__law_did sc__law_did (k := 27 + n) fun cdv A outer s H E hgu hr =>
    js_cons (js_for PassesOwn.never rfl (ji_seq (je_var (i := 0))) (jg_name (i := 5) sc__law_did.nd) (js_cons (js_if (jt_cmpD (opD_eq (u64 hr)) opEq_bool (je_ix (u1 hr) (je_var (i := 5)) (je_int)) (je_str)) (js_one (js_ret (je_bl))) (js_nil))
    (js_one (js_if (jt_cmpD (opD_eq (u64 hr)) opEq_bool (je_ix (u1 hr) (je_var (i := 5)) (je_int)) (je_str)) (js_one (js_asg (je_call (ok__law_worth W) hgu (hr.mono (by omega)) W.g__law_worth W.f__law_worth.kp (b__law_worth W) (ja_cons (je_ix (u1 hr) (je_var (i := 5)) (je_int)) (ja_cons (je_var (i := 1)) (ja_cons (je_var (i := 3)) (ja_cons (je_var (i := 4)) (ja_nil)))))) (jg_item W.tw W.tp (u10 hr) (je_var (i := 1)) (je_tup (ja_cons (je_ix (u1 hr) (je_var (i := 5)) (je_int)) (ja_cons (je_var (i := 3)) (ja_nil))))))) (js_one (js_if (jt_cmpD (opD_eq (u64 hr)) opEq_bool (je_ix (u1 hr) (je_var (i := 5)) (je_int)) (je_str)) (js_one (js_expr (je_app (je_var (i := 2)) (je_tup (ja_cons (je_ix (u1 hr) (je_var (i := 5)) (je_int)) (ja_cons (je_if (jt_isN (je_ix (u1 hr) (je_var (i := 5)) (je_int))) (je_var (i := 3)) (je_ix (u1 hr) (je_var (i := 5)) (je_int))) (ja_cons (je_call (ok__law_worth W) hgu (hr.mono (by omega)) W.g__law_worth W.f__law_worth.kp (b__law_worth W) (ja_cons (je_ix (u1 hr) (je_var (i := 5)) (je_int)) (ja_cons (je_var (i := 1)) (ja_cons (je_var (i := 3)) (ja_cons (je_var (i := 4)) (ja_nil)))))) (ja_nil)))))))) (js_one (js_if (jt_not (jt_plain (je_call (ih) hgu (hr.mono (by omega)) W.g__law_did W.f__law_did.kp (b__law_did W) (ja_cons (je_if (jt_plain (je_call (ok__law_holds W) hgu (hr.mono (by omega)) W.g__law_holds W.f__law_holds.kp (b__law_holds W) (ja_cons (je_ix (u1 hr) (je_var (i := 5)) (je_int)) (ja_cons (je_var (i := 1)) (ja_cons (je_var (i := 3)) (ja_cons (je_var (i := 4)) (ja_nil))))))) (je_ix (u1 hr) (je_var (i := 5)) (je_int)) (je_ix (u1 hr) (je_var (i := 5)) (je_int))) (ja_cons (je_var (i := 1)) (ja_cons (je_var (i := 2)) (ja_cons (je_var (i := 3)) (ja_cons (je_var (i := 4)) (ja_nil))))))))) (js_one (js_ret (je_bl))) (js_nil)))))))))
    (js_one (js_ret (je_bl)))
theorem ok__law_did (W : Facts P w T K mg fd) : FnG P w K mg base CX0 39 (gloAt "_law_did" K) (fd 40) ["_law_deeds_here", "_law_values", "_law_sends", "_law_key", "_law_body"] (spOf K T 5 F__law_did) := okR__law_did W 12
theorem sc__law_run : FnScope ["_law_handler_here", "_law_rows_here", "_law_message", "_law_values", "_law_sends"] ["_law_handler_here", "_law_rows_here", "_law_message"] (defScope (top 51)) := ⟨rfl, rfl, rfl, by decide +kernel, rfl, by decide +kernel, by decide +kernel⟩
theorem ok__law_run (W : Facts P w T K mg fd) : FnG P w K mg base CX0 40 (gloAt "_law_run" K) (fd 41) ["_law_handler_here", "_law_rows_here", "_law_message"] (spOf K T 3 F__law_run) :=
  fn_pure (fn_ok W.f__law_run sc__law_run (k := 39) fun cdv A outer s H E hgu hr =>
    js_cons (js_par (i := 3) (j := 4) rfl sc__law_run.nd (ja_cons (je_dictN W.tw W.tp rfl (u12 hr) W.n_dict (je_var (i := 1))) (ja_cons (je_lstM (ja_nil)) (ja_nil))))
    (js_cons (js_if (jt_not (jt_plain (je_call (ok__law_did W) hgu (hr.mono (by decide)) W.g__law_did W.f__law_did.kp (b__law_did W) (ja_cons (je_var (i := 0)) (ja_cons (je_var (i := 3)) (ja_cons (je_var (i := 4)) (ja_cons (je_ix (u1 hr) (je_var (i := 2)) (je_int)) (ja_cons (je_ix (u1 hr) (je_var (i := 2)) (je_int)) (ja_nil))))))))) (js_one (js_ret (je_tup (ja_cons (je_str) (ja_nil))))) (js_nil))
    (js_one (js_ret (je_tup (ja_cons (je_str) (ja_cons (je_call (ok__law_row_tuple W) hgu (hr.mono (by decide)) W.g__law_row_tuple W.f__law_row_tuple.kp (b__law_row_tuple W) (ja_cons (je_var (i := 3)) (ja_nil))) (ja_cons (je_BT cd_tuple W.n_tuple (ja_cons (je_var (i := 4)) (ja_nil))) (ja_nil)))))))))
theorem b__law_run (W : Facts P w T K mg fd) : Binds K (fd 41) ["_law_handler_here", "_law_rows_here", "_law_message"] [] := W.f__law_run.bindsN fun _ _ _ _ _ _ us hl => match us, hl with | [_, _, _], _ => rfl
theorem sc_law : FnScope ["_law_script", "_law_pen_here", "_law_turn", "_law_handler_here", "_law_rows_here", "_law_again", "_law_names", "_law_keys", "_law_kinds", "_law_message", "_law_first_told", "_law_told", "_law_due"] ["_law_script"] (defScope (top 52)) := ⟨rfl, rfl, rfl, by decide +kernel, rfl, by decide +kernel, by decide +kernel⟩
theorem ok_law (W : Facts P w T K mg fd) : FnG P w K mg base CX0 45 (gloAt "law" K) (fd 42) ["_law_script"] (spOf K T 1 F_law) :=
  fn_ok W.f_law sc_law (k := 44) fun cdv A outer s H E hgu hr =>
    js_cons (js_set (i := 1) sc_law.nd (je_call (ok__law_pen W) hgu (hr.mono (by decide)) W.g__law_pen W.f__law_pen.kp (b__law_pen W) (ja_cons (je_var (i := 0)) (ja_nil))))
    (js_cons (js_for PassesOwn.never rfl (ji_range W.n_range (je_int)) (jg_name (i := 2) sc_law.nd) (js_cons (js_par3 (i := 6) (j := 7) (l := 8) rfl sc_law.nd (ja_cons (je_call (ok__law_words W) hgu (hr.mono (by decide)) W.g__law_words W.f__law_words.kp (b__law_words W) (ja_cons (je_var (i := 1)) (ja_cons (je_int) (ja_nil)))) (ja_cons (je_call (ok__law_words W) hgu (hr.mono (by decide)) W.g__law_words W.f__law_words.kp (b__law_words W) (ja_cons (je_var (i := 1)) (ja_cons (je_int) (ja_nil)))) (ja_cons (je_call (ok__law_words W) hgu (hr.mono (by decide)) W.g__law_words W.f__law_words.kp (b__law_words W) (ja_cons (je_var (i := 1)) (ja_cons (je_int) (ja_nil)))) (ja_nil)))))
    (js_cons (js_set (i := 3) sc_law.nd (je_call (ok__law_handler W) hgu (hr.mono (by decide)) W.g__law_handler W.f__law_handler.kp (b__law_handler W) (ja_cons (je_var (i := 1)) (ja_cons (je_var (i := 6)) (ja_cons (je_var (i := 7)) (ja_cons (je_var (i := 8)) (ja_cons (je_int) (ja_nil))))))))
    (js_cons (js_set (i := 4) sc_law.nd (je_call (ok__law_rows W) hgu (hr.mono (by decide)) W.g__law_rows W.f__law_rows.kp (b__law_rows W) (ja_cons (je_var (i := 1)) (ja_cons (je_var (i := 6)) (ja_cons (je_var (i := 7)) (ja_nil))))))
    (js_one (js_for PassesOwn.never rfl (ji_range W.n_range (je_int)) (jg_name (i := 5) sc_law.nd) (js_cons (js_set (i := 9) sc_law.nd (je_tup (ja_cons (je_call (ok__law_pick W) hgu (hr.mono (by decide)) W.g__law_pick W.f__law_pick.kp (b__law_pick W) (ja_cons (je_var (i := 1)) (ja_cons (je_var (i := 8)) (ja_nil)))) (ja_cons (je_call (ok__law_pick W) hgu (hr.mono (by decide)) W.g__law_pick W.f__law_pick.kp (b__law_pick W) (ja_cons (je_var (i := 1)) (ja_cons (je_var (i := 7)) (ja_nil)))) (ja_cons (je_call (ok__law_number W) hgu (hr.mono (by decide)) W.g__law_number W.f__law_number.kp (b__law_number W) (ja_cons (je_var (i := 1)) (ja_nil))) (ja_nil))))))
    (js_cons (js_set (i := 10) sc_law.nd (je_B (cd_repr hgu (u66 hr)) W.n_repr (ja_cons (je_lst (ja_cons (je_var (i := 3)) (ja_cons (je_var (i := 4)) (ja_cons (je_var (i := 9)) (ja_nil))))) (ja_nil))))
    (js_cons (js_par (i := 11) (j := 12) rfl sc_law.nd (ja_cons (je_call (ok_run_handler W) hgu (hr.mono (by decide)) W.g_run_handler W.f_run_handler.kp (b_run_handler W) (ja_cons (je_var (i := 3)) (ja_cons (je_var (i := 4)) (ja_cons (je_var (i := 9)) (ja_nil))))) (ja_cons (je_call (ok__law_run W) hgu (hr.mono (by decide)) W.g__law_run W.f__law_run.kp (b__law_run W) (ja_cons (je_var (i := 3)) (ja_cons (je_var (i := 4)) (ja_cons (je_var (i := 9)) (ja_nil))))) (ja_nil))))
    (js_cons (js_if (JW.t (jw_or (jt_cmpD (opD_ne (u64 hr)) opNe_bool (je_B (cd_repr hgu (u66 hr)) W.n_repr (ja_cons (je_var (i := 11)) (ja_nil))) (je_B (cd_repr hgu (u66 hr)) W.n_repr (ja_cons (je_var (i := 12)) (ja_nil)))) (jw_or1 (jt_cmpD (opD_ne (u64 hr)) opNe_bool (je_B (cd_repr hgu (u66 hr)) W.n_repr (ja_cons (je_lst (ja_cons (je_var (i := 3)) (ja_cons (je_var (i := 4)) (ja_cons (je_var (i := 9)) (ja_nil))))) (ja_nil))) (je_var (i := 10)))))) (js_one (js_ret (je_bl))) (js_nil))
    (js_one (js_set (i := 4) sc_law.nd (je_if (jt_cmpD (opD_eq (u64 hr)) opEq_bool (je_ix (u1 hr) (je_var (i := 12)) (je_int)) (je_str)) (je_ix (u1 hr) (je_var (i := 12)) (je_int)) (je_var (i := 4)))))))))))))))
    (js_one (js_ret (je_cmpD (opD_eq (u64 hr)) (je_call (ok_run_handler W) hgu (hr.mono (by decide)) W.g_run_handler W.f_run_handler.kp (b_run_handler W) (ja_cons (je_tup (ja_nil)) (ja_cons (je_tup (ja_nil)) (ja_cons (je_tup (ja_cons (je_str) (ja_cons (je_str) (ja_cons (je_int) (ja_nil))))) (ja_nil))))) (je_tup (ja_cons (je_str) (ja_cons (je_tup (ja_nil)) (ja_cons (je_tup (ja_nil)) (ja_nil)))))))))
theorem b_law (W : Facts P w T K mg fd) : Binds K (fd 42) ["_law_script"] [] := W.f_law.bindsN fun _ _ _ _ _ _ us hl => match us, hl with | [_], _ => rfl
end
/-! ### the head -/
def ds : List DH := [⟨gloAt "_law_pen", "_law_pen", "_law_pen", defArgs (top 35), defBody (top 35), defScope (top 35)⟩,
  ⟨gloAt "_law_draw", "_law_draw", "_law_draw", defArgs (top 36), defBody (top 36), defScope (top 36)⟩,
  ⟨gloAt "_law_pick", "_law_pick", "_law_pick", defArgs (top 37), defBody (top 37), defScope (top 37)⟩,
  ⟨gloAt "_law_number", "_law_number", "_law_number", defArgs (top 39), defBody (top 39), defScope (top 39)⟩,
  ⟨gloAt "_law_leaf", "_law_leaf", "_law_leaf", defArgs (top 40), defBody (top 40), defScope (top 40)⟩,
  ⟨gloAt "_law_e", "_law_e", "_law_e", defArgs (top 41), defBody (top 41), defScope (top 41)⟩,
  ⟨gloAt "_law_c", "_law_c", "_law_c", defArgs (top 42), defBody (top 42), defScope (top 42)⟩,
  ⟨gloAt "_law_deeds", "_law_deeds", "_law_deeds", defArgs (top 44), defBody (top 44), defScope (top 44)⟩,
  ⟨gloAt "_law_deed", "_law_deed", "_law_deed", defArgs (top 43), defBody (top 43), defScope (top 43)⟩,
  ⟨gloAt "_law_handler", "_law_handler", "_law_handler", defArgs (top 45), defBody (top 45), defScope (top 45)⟩,
  ⟨gloAt "_law_row_tuple", "_law_row_tuple", "_law_row_tuple", defArgs (top 47), defBody (top 47), defScope (top 47)⟩,
  ⟨gloAt "_law_rows", "_law_rows", "_law_rows", defArgs (top 46), defBody (top 46), defScope (top 46)⟩,
  ⟨gloAt "is_tree", "is_tree", "is_tree", defArgs (top 22), defBody (top 22), defScope (top 22)⟩,
  ⟨gloAt "is_word", "is_word", "is_word", defArgs (top 8), defBody (top 8), defScope (top 8)⟩,
  ⟨gloAt "is_integer", "is_integer", "is_integer", defArgs (top 7), defBody (top 7), defScope (top 7)⟩,
  ⟨gloAt "is_value", "is_value", "is_value", defArgs (top 9), defBody (top 9), defScope (top 9)⟩,
  ⟨gloAt "is_expression", "is_expression", "is_expression", defArgs (top 23), defBody (top 23), defScope (top 23)⟩,
  ⟨gloAt "is_condition", "is_condition", "is_condition", defArgs (top 24), defBody (top 24), defScope (top 24)⟩,
  ⟨gloAt "are_deeds", "are_deeds", "are_deeds", defArgs (top 25), defBody (top 25), defScope (top 25)⟩,
  ⟨gloAt "is_deed", "is_deed", "is_deed", defArgs (top 26), defBody (top 26), defScope (top 26)⟩,
  ⟨gloAt "count_deeds", "count_deeds", "count_deeds", defArgs (top 27), defBody (top 27), defScope (top 27)⟩,
  ⟨gloAt "is_handler", "is_handler", "is_handler", defArgs (top 28), defBody (top 28), defScope (top 28)⟩,
  ⟨gloAt "need_handler", "need_handler", "need_handler", defArgs (top 29), defBody (top 29), defScope (top 29)⟩,
  ⟨gloAt "is_cell", "is_cell", "is_cell", defArgs (top 11), defBody (top 11), defScope (top 11)⟩,
  ⟨gloAt "is_row", "is_row", "is_row", defArgs (top 12), defBody (top 12), defScope (top 12)⟩,
  ⟨gloAt "are_rows", "are_rows", "are_rows", defArgs (top 13), defBody (top 13), defScope (top 13)⟩,
  ⟨gloAt "is_message", "is_message", "is_message", defArgs (top 10), defBody (top 10), defScope (top 10)⟩,
  ⟨mAt "Run" "__init__", "__init__", "Run.__init__", defArgs (inCls (top 31) 0), defBody (inCls (top 31) 0), defScope (inCls (top 31) 0)⟩,
  ⟨gloAt "held_within", "held_within", "held_within", defArgs (top 30), defBody (top 30), defScope (top 30)⟩,
  ⟨mAt "Run" "row_value", "row_value", "Run.row_value", defArgs (inCls (top 31) 2), defBody (inCls (top 31) 2), defScope (inCls (top 31) 2)⟩,
  ⟨mAt "Run" "value_of", "value_of", "Run.value_of", defArgs (inCls (top 31) 1), defBody (inCls (top 31) 1), defScope (inCls (top 31) 1)⟩,
  ⟨mAt "Run" "truth_of", "truth_of", "Run.truth_of", defArgs (inCls (top 31) 3), defBody (inCls (top 31) 3), defScope (inCls (top 31) 3)⟩,
  ⟨mAt "Run" "is_done", "is_done", "Run.is_done", defArgs (inCls (top 31) 4), defBody (inCls (top 31) 4), defScope (inCls (top 31) 4)⟩,
  ⟨mAt "Run" "is_deed_done", "is_deed_done", "Run.is_deed_done", defArgs (inCls (top 31) 5), defBody (inCls (top 31) 5), defScope (inCls (top 31) 5)⟩,
  ⟨mAt "Run" "rows_left", "rows_left", "Run.rows_left", defArgs (inCls (top 31) 6), defBody (inCls (top 31) 6), defScope (inCls (top 31) 6)⟩,
  ⟨gloAt "traced", "traced", "traced", defArgs (top 32), defBody (top 32), defScope (top 32)⟩,
  ⟨gloAt "run_handler", "run_handler", "run_handler", defArgs (top 33), defBody (top 33), defScope (top 33)⟩,
  ⟨gloAt "_law_words", "_law_words", "_law_words", defArgs (top 38), defBody (top 38), defScope (top 38)⟩,
  ⟨gloAt "_law_worth", "_law_worth", "_law_worth", defArgs (top 48), defBody (top 48), defScope (top 48)⟩,
  ⟨gloAt "_law_holds", "_law_holds", "_law_holds", defArgs (top 49), defBody (top 49), defScope (top 49)⟩,
  ⟨gloAt "_law_did", "_law_did", "_law_did", defArgs (top 50), defBody (top 50), defScope (top 50)⟩,
  ⟨gloAt "_law_run", "_law_run", "_law_run", defArgs (top 51), defBody (top 51), defScope (top 51)⟩,
  ⟨gloAt "law", "law", "law", defArgs (top 52), defBody (top 52), defScope (top 52)⟩]
def fs : List Fc := [isGlo "_law_pen",
  isGlo "_law_draw",
  isGlo "_law_pick",
  isGlo "_law_number",
  isGlo "_law_leaf",
  isGlo "_law_e",
  isGlo "_law_c",
  isGlo "_law_deeds",
  isGlo "_law_deed",
  isGlo "_law_handler",
  isGlo "_law_row_tuple",
  isGlo "_law_rows",
  isGlo "is_tree",
  isGlo "is_word",
  isGlo "is_integer",
  isGlo "is_value",
  isGlo "is_expression",
  isGlo "is_condition",
  isGlo "are_deeds",
  isGlo "is_deed",
  isGlo "count_deeds",
  isGlo "is_handler",
  isGlo "need_handler",
  isGlo "is_cell",
  isGlo "is_row",
  isGlo "are_rows",
  isGlo "is_message",
  isGlo "held_within",
  isGlo "traced",
  isGlo "run_handler",
  isGlo "_law_words",
  isGlo "_law_worth",
  isGlo "_law_holds",
  isGlo "_law_did",
  isGlo "_law_run",
  isGlo "law",
  isFree "list",
  isFree "int",
  isFree "len",
  isFree "abs",
  isFree "range",
  isFree "tuple",
  isFree "sorted",
  isFree "isinstance",
  isFree "str",
  isFree "all",
  isFree "bool",
  isFree "any",
  isFree "sum",
  isFree "zip",
  isFree "dict",
  isFree "min",
  isFree "max",
  isFree "repr",
  isGlo "Run",
  fcls "Run",
  fnoat "Run" "own_values",
  fnoat "Run" "own_key",
  fnoat "Run" "own_body",
  fnoat "Run" "own_reads",
  fnoat "Run" "own_sets",
  fnoat "Run" "own_sends",
  fmeth "Run" "row_value",
  fmeth "Run" "value_of",
  fmeth "Run" "truth_of",
  fmeth "Run" "is_deed_done",
  fmeth "Run" "is_done",
  fmeth "Run" "rows_left",
  fmkr "Run",
  isDat "MAX_LETTERS" (.int 6),
  isDat "LETTERS" (.str [97, 98, 99, 100, 101, 102, 103, 104, 105, 106, 107, 108, 109, 110, 111, 112, 113, 114, 115, 116, 117, 118, 119, 120, 121, 122]),
  isDat "MAX_VALUE" (.int 99),
  isDat "SUMS" (.tup [(.str [43]), (.str [45]), (.str [42])]),
  isDat "COMPARISONS" (.tup [(.str [60]), (.str [61])]),
  isDat "MAX_DEPTH" (.int 6),
  isDat "JOINS" (.tup [(.str [97, 110, 100]), (.str [111, 114])]),
  isDat "MAX_IFS" (.int 3),
  isDat "MAX_DEEDS" (.int 12)]
def tcls (K : PySem.W.Frag) : Nat → Addr := fun c => gloAt ((["Run"] : List Str).getD c "Run") K
theorem facts {K : PySem.W.Frag} {h : Heap} {mg : Str → Option Value} {T : Tb} {P : Program} {w : World} (tw : T.w = w) (tp : T.P = P) (tc : T.cls = tcls K) (I : K.In h) (G : h.Ns mainGlobals mg) (c : obsV fs ds K = goodV ds) : ∃ fd : Nat → FuncData, Facts P w T K mg fd := by
  obtain ⟨d0, f0⟩ := said_def c 0
  obtain ⟨d1, f1⟩ := said_def c 1
  obtain ⟨d2, f2⟩ := said_def c 2
  obtain ⟨d3, f3⟩ := said_def c 3
  obtain ⟨d4, f4⟩ := said_def c 4
  obtain ⟨d5, f5⟩ := said_def c 5
  obtain ⟨d6, f6⟩ := said_def c 6
  obtain ⟨d7, f7⟩ := said_def c 7
  obtain ⟨d8, f8⟩ := said_def c 8
  obtain ⟨d9, f9⟩ := said_def c 9
  obtain ⟨d10, f10⟩ := said_def c 10
  obtain ⟨d11, f11⟩ := said_def c 11
  obtain ⟨d12, f12⟩ := said_def c 12
  obtain ⟨d13, f13⟩ := said_def c 13
  obtain ⟨d14, f14⟩ := said_def c 14
  obtain ⟨d15, f15⟩ := said_def c 15
  obtain ⟨d16, f16⟩ := said_def c 16
  obtain ⟨d17, f17⟩ := said_def c 17
  obtain ⟨d18, f18⟩ := said_def c 18
  obtain ⟨d19, f19⟩ := said_def c 19
  obtain ⟨d20, f20⟩ := said_def c 20
  obtain ⟨d21, f21⟩ := said_def c 21
  obtain ⟨d22, f22⟩ := said_def c 22
  obtain ⟨d23, f23⟩ := said_def c 23
  obtain ⟨d24, f24⟩ := said_def c 24
  obtain ⟨d25, f25⟩ := said_def c 25
  obtain ⟨d26, f26⟩ := said_def c 26
  obtain ⟨d27, f27⟩ := said_def c 27
  obtain ⟨d28, f28⟩ := said_def c 28
  obtain ⟨d29, f29⟩ := said_def c 29
  obtain ⟨d30, f30⟩ := said_def c 30
  obtain ⟨d31, f31⟩ := said_def c 31
  obtain ⟨d32, f32⟩ := said_def c 32
  obtain ⟨d33, f33⟩ := said_def c 33
  obtain ⟨d34, f34⟩ := said_def c 34
  obtain ⟨d35, f35⟩ := said_def c 35
  obtain ⟨d36, f36⟩ := said_def c 36
  obtain ⟨d37, f37⟩ := said_def c 37
  obtain ⟨d38, f38⟩ := said_def c 38
  obtain ⟨d39, f39⟩ := said_def c 39
  obtain ⟨d40, f40⟩ := said_def c 40
  obtain ⟨d41, f41⟩ := said_def c 41
  obtain ⟨d42, f42⟩ := said_def c 42
  exact ⟨fun i => [d0, d1, d2, d3, d4, d5, d6, d7, d8, d9, d10, d11, d12, d13, d14, d15, d16, d17, d18, d19, d20, d21, d22, d23, d24, d25, d26, d27, d28, d29, d30, d31, d32, d33, d34, d35, d36, d37, d38, d39, d40, d41, d42].getD i d0, tw, tp, f0,
    glo_of I G (said_fact c 0 (f := isGlo "_law_pen")),
    f1,
    glo_of I G (said_fact c 1 (f := isGlo "_law_draw")),
    f2,
    glo_of I G (said_fact c 2 (f := isGlo "_law_pick")),
    f3,
    glo_of I G (said_fact c 3 (f := isGlo "_law_number")),
    f4,
    glo_of I G (said_fact c 4 (f := isGlo "_law_leaf")),
    f5,
    glo_of I G (said_fact c 5 (f := isGlo "_law_e")),
    f6,
    glo_of I G (said_fact c 6 (f := isGlo "_law_c")),
    f7,
    glo_of I G (said_fact c 7 (f := isGlo "_law_deeds")),
    f8,
    glo_of I G (said_fact c 8 (f := isGlo "_law_deed")),
    f9,
    glo_of I G (said_fact c 9 (f := isGlo "_law_handler")),
    f10,
    glo_of I G (said_fact c 10 (f := isGlo "_law_row_tuple")),
    f11,
    glo_of I G (said_fact c 11 (f := isGlo "_law_rows")),
    f12,
    glo_of I G (said_fact c 12 (f := isGlo "is_tree")),
    f13,
    glo_of I G (said_fact c 13 (f := isGlo "is_word")),
    f14,
    glo_of I G (said_fact c 14 (f := isGlo "is_integer")),
    f15,
    glo_of I G (said_fact c 15 (f := isGlo "is_value")),
    f16,
    glo_of I G (said_fact c 16 (f := isGlo "is_expression")),
    f17,
    glo_of I G (said_fact c 17 (f := isGlo "is_condition")),
    f18,
    glo_of I G (said_fact c 18 (f := isGlo "are_deeds")),
    f19,
    glo_of I G (said_fact c 19 (f := isGlo "is_deed")),
    f20,
    glo_of I G (said_fact c 20 (f := isGlo "count_deeds")),
    f21,
    glo_of I G (said_fact c 21 (f := isGlo "is_handler")),
    f22,
    glo_of I G (said_fact c 22 (f := isGlo "need_handler")),
    f23,
    glo_of I G (said_fact c 23 (f := isGlo "is_cell")),
    f24,
    glo_of I G (said_fact c 24 (f := isGlo "is_row")),
    f25,
    glo_of I G (said_fact c 25 (f := isGlo "are_rows")),
    f26,
    glo_of I G (said_fact c 26 (f := isGlo "is_message")),
    f27,
    f28,
    glo_of I G (said_fact c 27 (f := isGlo "held_within")),
    f29,
    f30,
    f31,
    f32,
    f33,
    f34,
    f35,
    glo_of I G (said_fact c 28 (f := isGlo "traced")),
    f36,
    glo_of I G (said_fact c 29 (f := isGlo "run_handler")),
    f37,
    glo_of I G (said_fact c 30 (f := isGlo "_law_words")),
    f38,
    glo_of I G (said_fact c 31 (f := isGlo "_law_worth")),
    f39,
    glo_of I G (said_fact c 32 (f := isGlo "_law_holds")),
    f40,
    glo_of I G (said_fact c 33 (f := isGlo "_law_did")),
    f41,
    glo_of I G (said_fact c 34 (f := isGlo "_law_run")),
    f42,
    glo_of I G (said_fact c 35 (f := isGlo "law")),
    free_of I G (said_fact c 36 (f := isFree "list")),
    free_of I G (said_fact c 37 (f := isFree "int")),
    free_of I G (said_fact c 38 (f := isFree "len")),
    free_of I G (said_fact c 39 (f := isFree "abs")),
    free_of I G (said_fact c 40 (f := isFree "range")),
    free_of I G (said_fact c 41 (f := isFree "tuple")),
    free_of I G (said_fact c 42 (f := isFree "sorted")),
    free_of I G (said_fact c 43 (f := isFree "isinstance")),
    free_of I G (said_fact c 44 (f := isFree "str")),
    free_of I G (said_fact c 45 (f := isFree "all")),
    free_of I G (said_fact c 46 (f := isFree "bool")),
    free_of I G (said_fact c 47 (f := isFree "any")),
    free_of I G (said_fact c 48 (f := isFree "sum")),
    free_of I G (said_fact c 49 (f := isFree "zip")),
    free_of I G (said_fact c 50 (f := isFree "dict")),
    free_of I G (said_fact c 51 (f := isFree "min")),
    free_of I G (said_fact c 52 (f := isFree "max")),
    free_of I G (said_fact c 53 (f := isFree "repr")),
    (by rw [tc]; exact glo_of I G (said_fact c 54 (f := isGlo "Run"))),
    (by rw [tc]; exact He.cls_ok (said_fact c 55 (f := fcls "Run"))),
    (by rw [tc]; exact He.noat_ok (said_fact c 56 (f := fnoat "Run" "own_values"))),
    (by rw [tc]; exact He.noat_ok (said_fact c 57 (f := fnoat "Run" "own_key"))),
    (by rw [tc]; exact He.noat_ok (said_fact c 58 (f := fnoat "Run" "own_body"))),
    (by rw [tc]; exact He.noat_ok (said_fact c 59 (f := fnoat "Run" "own_reads"))),
    (by rw [tc]; exact He.noat_ok (said_fact c 60 (f := fnoat "Run" "own_sets"))),
    (by rw [tc]; exact He.noat_ok (said_fact c 61 (f := fnoat "Run" "own_sends"))),
    (by rw [tc]; exact He.meth_ok (said_fact c 62 (f := fmeth "Run" "row_value"))),
    (by rw [tc]; exact He.meth_ok (said_fact c 63 (f := fmeth "Run" "value_of"))),
    (by rw [tc]; exact He.meth_ok (said_fact c 64 (f := fmeth "Run" "truth_of"))),
    (by rw [tc]; exact He.meth_ok (said_fact c 65 (f := fmeth "Run" "is_deed_done"))),
    (by rw [tc]; exact He.meth_ok (said_fact c 66 (f := fmeth "Run" "is_done"))),
    (by rw [tc]; exact He.meth_ok (said_fact c 67 (f := fmeth "Run" "rows_left"))),
    (by rw [tc]; exact He.mkr_ok (said_fact c 68 (f := fmkr "Run"))),
    dat_of I G (said_fact c 69 (f := isDat "MAX_LETTERS" (.int 6))),
    dat_of I G (said_fact c 70 (f := isDat "LETTERS" (.str [97, 98, 99, 100, 101, 102, 103, 104, 105, 106, 107, 108, 109, 110, 111, 112, 113, 114, 115, 116, 117, 118, 119, 120, 121, 122]))),
    dat_of I G (said_fact c 71 (f := isDat "MAX_VALUE" (.int 99))),
    dat_of I G (said_fact c 72 (f := isDat "SUMS" (.tup [(.str [43]), (.str [45]), (.str [42])]))),
    dat_of I G (said_fact c 73 (f := isDat "COMPARISONS" (.tup [(.str [60]), (.str [61])]))),
    dat_of I G (said_fact c 74 (f := isDat "MAX_DEPTH" (.int 6))),
    dat_of I G (said_fact c 75 (f := isDat "JOINS" (.tup [(.str [97, 110, 100]), (.str [111, 114])]))),
    dat_of I G (said_fact c 76 (f := isDat "MAX_IFS" (.int 3))),
    dat_of I G (said_fact c 77 (f := isDat "MAX_DEEDS" (.int 12)))⟩
abbrev R : PySem.W.OpenRow := PySem.W.OpenLaw.row PySem.Challenge.rw_oncepost_k01_runs_of_handlers
abbrev hk : PySem.W.Hook := hookV 7 fs ds
def ob (s : PySem.W.SharedT) : Bool × List He.FnW := obsVG 7 fs ds (HandSHeadRun.getT s)
theorem ob_eq (s : PySem.W.SharedT) : ob s = hk.obs s.abs := obsVG_eq (HandSHeadRun.getT_eq s)
def names : List PySem.Str := [PySem.Str.ofString "MAX_LETTERS", PySem.Str.ofString "MAX_VALUE", PySem.Str.ofString "MAX_DEPTH", PySem.Str.ofString "MAX_DEEDS", PySem.Str.ofString "MAX_IFS", PySem.Str.ofString "__name__", PySem.Str.ofString "LETTERS", PySem.Str.ofString "is_integer", PySem.Str.ofString "is_word", PySem.Str.ofString "is_value", PySem.Str.ofString "is_message", PySem.Str.ofString "is_cell", PySem.Str.ofString "is_row", PySem.Str.ofString "are_rows", PySem.Str.ofString "InvalidHandler", PySem.Str.ofString "InvalidRows", PySem.Str.ofString "InvalidMessage", PySem.Str.ofString "SUMS", PySem.Str.ofString "COMPARISONS", PySem.Str.ofString "JOINS", PySem.Str.ofString "is_tree", PySem.Str.ofString "is_expression", PySem.Str.ofString "is_condition", PySem.Str.ofString "are_deeds", PySem.Str.ofString "is_deed", PySem.Str.ofString "count_deeds", PySem.Str.ofString "is_handler", PySem.Str.ofString "need_handler", PySem.Str.ofString "held_within", PySem.Str.ofString "Run", PySem.Str.ofString "traced", PySem.Str.ofString "run_handler", PySem.Str.ofString "_law_pen", PySem.Str.ofString "_law_draw", PySem.Str.ofString "_law_pick", PySem.Str.ofString "_law_words", PySem.Str.ofString "_law_number", PySem.Str.ofString "_law_leaf", PySem.Str.ofString "_law_e", PySem.Str.ofString "_law_c", PySem.Str.ofString "_law_deed", PySem.Str.ofString "_law_deeds", PySem.Str.ofString "_law_handler", PySem.Str.ofString "_law_rows", PySem.Str.ofString "_law_row_tuple", PySem.Str.ofString "_law_worth", PySem.Str.ofString "_law_holds", PySem.Str.ofString "_law_did", PySem.Str.ofString "_law_run"]
end K01
end Ev

set_option linter.all false
set_option maxRecDepth 100000
set_option autoImplicit false
/-! EvX: running the plain semantics by rules. -/
namespace Ev
section
variable {B L L1 L2 L3 L4 : Hs} {ρ ρ1 ρ2 : Sl} {w x y z : W} {p q r s : D} {a b c o i v : SE} {f g : SA} {t u : ST} {k k1 k2 : Bool}
theorem x_var {n : Nat} (h : ρ[n]? = some (some w)) : eVar n B ρ L = .ok w L := by unfold eVar; rw [h]
theorem x_c {d : D} : eC d B ρ L = .ok (.d d) L := rfl
theorem x_1 {op : D → Option D} (h : a B ρ L = .ok x L1) (hx : vw B L1 x = some p) (ho : op p = some r) : e1 op a B ρ L = .ok (.d r) L1 := by
  unfold e1 vwR ofOpt Res.bind
  rw [h]
  dsimp only
  rw [hx]
  dsimp only
  rw [ho]
theorem x_2 {op : D → D → Option D} (h : a B ρ L = .ok x L1) (h2 : b B ρ L1 = .ok y L2) (hx : vw B L2 x = some p) (hy : vw B L2 y = some q) (ho : op p q = some r) : e2 op a b B ρ L = .ok (.d r) L2 := by
  unfold e2 vwR ofOpt Res.bind
  rw [h]
  dsimp only
  rw [h2]
  dsimp only
  rw [hx]
  dsimp only
  rw [hy]
  dsimp only
  rw [ho]
theorem x_nil : aNil B ρ L = .ok [] L := rfl
theorem x_cons {ws : List W} (h : a B ρ L = .ok x L1) (h2 : f B ρ L1 = .ok ws L2) : aCons a f B ρ L = .ok (x :: ws) L2 := by
  unfold aCons Res.bind
  rw [h]
  dsimp only
  rw [h2]
theorem x_star {ws : List W} {ys : List D} (h : a B ρ L = .ok x L1) (hx : vw B L1 x = some p) (hs : seqD p = some ys) (h2 : f B ρ L1 = .ok ws L2) : aStar a f B ρ L = .ok (ys.map .d ++ ws) L2 := by
  unfold aStar vwR ofOpt Res.bind
  rw [h]
  dsimp only
  rw [hx]
  dsimp only
  rw [hs]
  dsimp only
  rw [h2]
theorem x_tup {ws : List W} {xs : List D} (h : f B ρ L = .ok ws L1) (ho : ownAll B L1 ws = some (xs, L2)) (hl : xs.length ≤ sizeL) : eTup f B ρ L = .ok (.d (.tup xs)) L2 := by
  unfold eTup ownsR guardR Res.bind
  rw [h]
  dsimp only
  rw [ho]
  dsimp only
  rw [decide_eq_true hl]
theorem x_lst {ws : List W} {xs : List D} (h : f B ρ L = .ok ws L1) (ho : ownAll B L1 ws = some (xs, L2)) (hl : xs.length ≤ sizeL) : eLst f B ρ L = .ok (.d (.lst xs)) L2 := by
  unfold eLst ownsR guardR Res.bind
  rw [h]
  dsimp only
  rw [ho]
  dsimp only
  rw [decide_eq_true hl]
theorem x_lstM {ws : List W} (h : f B ρ L = .ok ws L1) (hl : ws.length ≤ sizeL) : eLstM f B ρ L = .ok (.ref (B.length + L1.length)) (L1 ++ [.lst ws]) := by
  unfold eLstM guardR Res.bind
  rw [h]
  dsimp only
  rw [decide_eq_true hl]
theorem x_call {np : Nat} {F : Fn} {ws : List W} (h : f B ρ L = .ok ws L1) (hl : ws.length = np) (hF : F ws B L1 = .ok w L2) : eCall np F f B ρ L = .ok w L2 := by
  unfold eCall guardR Res.bind
  rw [h]
  dsimp only
  rw [decide_eq_true hl]
  exact hF
theorem x_callK {nk np : Nat} {F : Fn} {ws : List W} {gg : List W → List W} (h : f B ρ L = .ok ws L1) (hl : ws.length = nk) (hF : F (gg ws) B L1 = .ok w L2) : eCallK nk np F gg f B ρ L = .ok w L2 := by
  unfold eCallK guardR Res.bind
  rw [h]
  dsimp only
  rw [decide_eq_true hl]
  exact hF
theorem x_B {op : List D → Option D} {ws : List W} {ps : List D} (h : f B ρ L = .ok ws L1) (hv : vwsR B L1 ws = .ok ps L2) (ho : op ps = some r) : eB op f B ρ L = .ok (.d r) L2 := by
  unfold eB ofOpt Res.bind
  rw [h]
  dsimp only
  rw [hv]
  dsimp only
  rw [ho]
theorem x_vnil : vwsR B L [] = .ok [] L := rfl
theorem x_vcons {ws : List W} {ps : List D} (h : vw B L w = some p) (h2 : vwsR B L ws = .ok ps L2) : vwsR B L (w :: ws) = .ok (p :: ps) L2 := by
  show (vwR B L w).bind _ = _
  unfold vwR ofOpt Res.bind
  rw [h]
  dsimp only
  rw [h2]
/-! tests -/
theorem x_tE (h : a B ρ L = .ok x L1) (hx : vw B L1 x = some p) (ht : tru p = some k) : tE a B ρ L = .ok k L1 := by
  unfold tE vwR ofOpt Res.bind
  rw [h]
  dsimp only
  rw [hx]
  dsimp only
  rw [ht]
/-- two ways on -/
def Br (k : Bool) (P Q : Prop) : Prop := (k = true → P) ∧ (k = false → Q)
theorem br1 {P Q : Prop} (h : k = true) (p : P) : Br k P Q := ⟨fun _ => p, fun z => by rw [h] at z; cases z⟩
theorem br0 {P Q : Prop} (h : k = false) (p : Q) : Br k P Q := ⟨fun z => absurd z (by rw [h]; exact Bool.false_ne_true), fun _ => p⟩
theorem br2 {P Q : Prop} (p : k = true → P) (q : k = false → Q) : Br k P Q := ⟨p, q⟩
theorem x_tAnd {R : Res Bool} (h : t B ρ L = .ok k L1) (h2 : Br k (u B ρ L1 = R) (Res.ok false L1 = R)) : tAnd t u B ρ L = R := by
  unfold tAnd Res.bind
  rw [h]
  cases k with
  | true => exact h2.1 rfl
  | false => exact h2.2 rfl
theorem x_tOr {R : Res Bool} (h : t B ρ L = .ok k L1) (h2 : Br k (Res.ok true L1 = R) (u B ρ L1 = R)) : tOr t u B ρ L = R := by
  unfold tOr Res.bind
  rw [h]
  cases k with
  | true => exact h2.1 rfl
  | false => exact h2.2 rfl
theorem x_tNot (h : t B ρ L = .ok k L1) : tNot t B ρ L = .ok (!k) L1 := by
  unfold tNot Res.bind
  rw [h]
theorem x_if {R : Res W} (h : t B ρ L = .ok k L1) (h2 : Br k (a B ρ L1 = R) (b B ρ L1 = R)) : eIf t a b B ρ L = R := by
  unfold eIf Res.bind
  rw [h]
  cases k with
  | true => exact h2.1 rfl
  | false => exact h2.2 rfl
theorem x_and {R : Res W} (h : a B ρ L = .ok x L1) (hx : vw B L1 x = some p) (ht : tru p = some k) (h2 : Br k (b B ρ L1 = R) (Res.ok x L1 = R)) : eAnd a b B ρ L = R := by
  unfold eAnd vwR ofOpt Res.bind
  rw [h]
  dsimp only
  rw [hx]
  dsimp only
  rw [ht]
  cases k with
  | true => exact h2.1 rfl
  | false => exact h2.2 rfl
theorem x_or {R : Res W} (h : a B ρ L = .ok x L1) (hx : vw B L1 x = some p) (ht : tru p = some k) (h2 : Br k (Res.ok x L1 = R) (b B ρ L1 = R)) : eOr a b B ρ L = R := by
  unfold eOr vwR ofOpt Res.bind
  rw [h]
  dsimp only
  rw [hx]
  dsimp only
  rw [ht]
  cases k with
  | true => exact h2.1 rfl
  | false => exact h2.2 rfl
theorem x_not (h : a B ρ L = .ok x L1) (hx : vw B L1 x = some p) (ht : tru p = some k) : eNot a B ρ L = .ok (.d (.bl (!k))) L1 := by
  unfold eNot vwR ofOpt Res.bind
  rw [h]
  dsimp only
  rw [hx]
  dsimp only
  rw [ht]
theorem x_isN (h : a B ρ L = .ok x L1) : eIsN a B ρ L = .ok (.d (.bl (isN x))) L1 := by
  unfold eIsN Res.bind
  rw [h]
theorem x_notN (h : a B ρ L = .ok x L1) : eNotN a B ρ L = .ok (.d (.bl (!isN x))) L1 := by
  unfold eNotN Res.bind
  rw [h]
/-- the second half of a chain -/
def ch2 (op' : D → D → Option D) (B : Hs) (y z : W) (L3 : Hs) : Res W := (vwR B L3 y).bind fun q L3 => (vwR B L3 z).bind fun s L3 => (ofOpt (op' q s) L3).bind fun r L4 => .ok (.d r) L4
theorem x_ch2 {op' : D → D → Option D} (hy : vw B L y = some q) (hz : vw B L z = some s) (ho : op' q s = some r) : ch2 op' B y z L = .ok (.d r) L := by
  unfold ch2 vwR ofOpt Res.bind
  rw [hy]
  dsimp only
  rw [hz]
  dsimp only
  rw [ho]
theorem x_chain {op op' : D → D → Option D} {R : Res W} (h : a B ρ L = .ok x L1) (h2 : b B ρ L1 = .ok y L2) (hx : vw B L2 x = some p) (hy : vw B L2 y = some q) (ho : op p q = some (.bl k))
    (h3 : Br k (∃ z L3, c B ρ L2 = .ok z L3 ∧ ch2 op' B y z L3 = R) (Res.ok (.d (.bl false)) L2 = R)) : eChain op op' a b c B ρ L = R := by
  unfold eChain
  rw [h]
  show (b B ρ L1).bind _ = _
  rw [h2]
  show (vwR B L2 x).bind _ = _
  unfold vwR
  rw [hx]
  show (ofOpt (vw B L2 y) L2).bind _ = _
  rw [hy]
  show (ofOpt (op p q) L2).bind _ = _
  rw [ho]
  show (if k = true then _ else _) = R
  cases k with
  | true =>
    obtain ⟨z, L3, e1, e2⟩ := h3.1 rfl
    rw [if_pos rfl, e1]
    exact e2
  | false => rw [if_neg Bool.false_ne_true]; exact h3.2 rfl
theorem x_ex {A' : Type} {B' : Type} {P : A' → B' → Prop} {Q : A' → B' → Prop} {z : A'} {l : B'} (h : P z l) (h2 : Q z l) : ∃ z l, P z l ∧ Q z l := ⟨z, l, h, h2⟩
theorem x_oNone : oNone B ρ L = .ok none L := rfl
theorem x_oSome {j : Int} (h : a B ρ L = .ok x L1) (hx : vw B L1 x = some p) (hj : intD p = some j) : oSome a B ρ L = .ok (some j) L1 := by
  unfold oSome vwR ofOpt Res.bind
  rw [h]
  dsimp only
  rw [hx]
  dsimp only
  rw [hj]
theorem x_sl {lo hi : SO} {l h : Option Int} (h1 : a B ρ L = .ok x L1) (h2 : lo B ρ L1 = .ok l L2) (h3 : hi B ρ L2 = .ok h L3) (hx : vw B L3 x = some p) (ho : opSl p l h = some r) : eSl a lo hi B ρ L = .ok (.d r) L3 := by
  unfold eSl vwR ofOpt Res.bind
  rw [h1]
  dsimp only
  rw [h2]
  dsimp only
  rw [h3]
  dsimp only
  rw [hx]
  dsimp only
  rw [ho]
/-! dicts -/
theorem x_pnil : pairsGo B ρ [] L = .ok ([], []) L := rfl
theorem x_pcons {ps : List (SE × SE)} {ww : List W × List W} (h : a B ρ L = .ok x L1) (h2 : b B ρ L1 = .ok y L2) (h3 : pairsGo B ρ ps L2 = .ok ww L3) : pairsGo B ρ ((a, b) :: ps) L = .ok (x :: ww.1, y :: ww.2) L3 := by
  show (a B ρ L).bind _ = _
  unfold Res.bind
  rw [h]
  dsimp only
  rw [h2]
  dsimp only
  rw [h3]
theorem x_dct {ps : List (SE × SE)} {ww : List W × List W} {xs ks : List D} (h : pairsGo B ρ ps L = .ok ww L1) (ho : ownAll B L1 ww.2 = some (xs, L2)) (hk : vwsR B L2 ww.1 = .ok ks L3) (hg : (ks.all isKey && decide (ks.length ≤ 15)) = true) :
    eDct ps B ρ L = .ok (.d (.dct (mergeKV [] [] ks xs).1 (mergeKV [] [] ks xs).2)) L3 := by
  unfold eDct ownsR guardR Res.bind
  rw [h]
  dsimp only
  rw [ho]
  dsimp only
  rw [hk]
  dsimp only
  rw [hg]
theorem x_dctM {ps : List (SE × SE)} {ww : List W × List W} {ks : List D} (h : pairsGo B ρ ps L = .ok ww L1) (hk : vwsR B L1 ww.1 = .ok ks L2) (hg : (ks.all isKey && decide (ks.length ≤ 15)) = true) :
    eDctM ps B ρ L = .ok (.ref (B.length + L2.length)) (L2 ++ [.dct (mergeKV [] [] ks ww.2).1 (mergeKV [] [] ks ww.2).2]) := by
  unfold eDctM guardR Res.bind
  rw [h]
  dsimp only
  rw [hk]
  dsimp only
  rw [hg]
/-! statements -/
variable {S1 S2 : SS} {sr : SR}
theorem x_snil : sNil B ρ L = .next ρ L := rfl
theorem x_seq {r1 : SR} (h : S1 B ρ L = r1) (h2 : r1.then (fun ρ1 L1 => S2 B ρ1 L1) = sr) : sSeq S1 S2 B ρ L = sr := by
  unfold sSeq
  rw [h]
  exact h2
theorem x_thenN (h : S2 B ρ L = sr) : (SR.next ρ L).then (fun ρ1 L1 => S2 B ρ1 L1) = sr := h
theorem x_thenR {kk : Sl → Hs → SR} : (SR.ret w L).then kk = .ret w L := rfl
theorem x_thenB {kk : Sl → Hs → SR} : (SR.brk ρ L).then kk = .brk ρ L := rfl
theorem x_thenC {kk : Sl → Hs → SR} : (SR.cnt ρ L).then kk = .cnt ρ L := rfl
theorem x_ret (h : a B ρ L = .ok w L1) : sRet a B ρ L = .ret w L1 := by
  unfold sRet Res.st
  rw [h]
theorem x_expr (h : a B ρ L = .ok w L1) : sExpr a B ρ L = .next ρ L1 := by
  unfold sExpr Res.st
  rw [h]
theorem x_sif (h : t B ρ L = .ok k L1) (h2 : Br k (S1 B ρ L1 = sr) (S2 B ρ L1 = sr)) : sIf t S1 S2 B ρ L = sr := by
  unfold sIf Res.st
  rw [h]
  cases k with
  | true => exact h2.1 rfl
  | false => exact h2.2 rfl
theorem x_asg {g : SG} (h : a B ρ L = .ok w L1) (hg : g w B ρ L1 = .ok ρ1 L2) : sAsg a g B ρ L = .next ρ1 L2 := by
  unfold sAsg Res.st
  rw [h]
  dsimp only
  rw [hg]
theorem x_gvar {n : Nat} : gVar n w B ρ L = .ok (ρ.set n (some w)) L := rfl
theorem x_gtup {gs : List SG} {xs : List D} (hx : vw B L w = some p) (ht : tupD p = some xs) (h : gAll gs xs B ρ L = .ok ρ1 L1) : gTup gs w B ρ L = .ok ρ1 L1 := by
  unfold gTup vwR ofOpt Res.bind
  rw [hx]
  dsimp only
  rw [ht]
  exact h
theorem x_gnil : gAll [] [] B ρ L = .ok ρ L := rfl
theorem x_gcons {g : SG} {gs : List SG} {xs : List D} (h : g (.d p) B ρ L = .ok ρ1 L1) (h2 : gAll gs xs B ρ1 L1 = .ok ρ2 L2) : gAll (g :: gs) (p :: xs) B ρ L = .ok ρ2 L2 := by
  show (g (.d p) B ρ L).bind _ = _
  unfold Res.bind
  rw [h]
  exact h2
theorem x_par {n m : Nat} (h : f B ρ L = .ok [x, y] L1) : sPar n m f B ρ L = .next ((ρ.set n (some x)).set m (some y)) L1 := by
  unfold sPar Res.st
  rw [h]
theorem x_par3 {n m l : Nat} (h : f B ρ L = .ok [x, y, z] L1) : sPar3 n m l f B ρ L = .next (((ρ.set n (some x)).set m (some y)).set l (some z)) L1 := by
  unfold sPar3 Res.st
  rw [h]
theorem x_dput (hv : v B ρ L = .ok z L1) (ho : o B ρ L1 = .ok x L2) (hi : i B ρ L2 = .ok y L3) (hy : vw B L3 y = some q) (hp : putAt B L3 x q z = some L4) : sDPut o i v B ρ L = .next ρ L4 := by
  unfold sDPut vwR ofOpt Res.st
  rw [hv]
  dsimp only
  rw [ho]
  dsimp only
  rw [hi]
  dsimp only
  rw [hy]
  dsimp only
  rw [hp]
/-! defs -/
def fnEnd : SR → Res W
  | .next _ L1 => .ok (.d .non) L1
  | .ret w L1 => .ok w L1
  | .exc c ds _ L1 => .exc c ds L1
  | _ => .bad
theorem x_fn {np ns : Nat} {b : SS} {ws : List W} {r1 : SR} {R : Res W} (hl : ws.length = np) (h : b B (ws.map some ++ List.replicate (ns - np) none) L = r1) (h2 : fnEnd r1 = R) : fnBody np ns b ws B L = R := by
  unfold fnBody
  rw [if_pos hl, h, ← h2]
  cases r1 <;> rfl
theorem x_pure {F : Fn} {ws : List W} {w' : W} (h : F ws (B ++ L) [] = .ok w L1) (ho : out (B ++ L).length L1 w = some w') : pureFn F ws B L = .ok w' L := by
  unfold pureFn
  rw [h]
  dsimp only
  rw [ho]
/-! operators -/
theorem o_fdiv {m n : Int} (h : 0 < n ∧ n.natAbs.log2 < 9000) : opFdiv (.int m) (.int n) = some (.int (m / n)) := if_pos h
theorem o_mod {m n : Int} (h : 0 < n) : opMod (.int m) (.int n) = some (.int (m % n)) := if_pos h
theorem o_pow {m n : Int} (h : 0 ≤ n ∧ n ≤ 1000000 ∧ m.natAbs < 2 ^ 64) : opPow (.int m) (.int n) = some (.int (m ^ n.toNat)) := if_pos h
theorem o_mul {m n : Int} (h : mulOk m n = true) : opMul (.int m) (.int n) = some (.int (m * n)) := if_pos h
theorem o_eq {d e : D} (h : (okD d && okD e) = true) : opEq d e = some (.bl (eqD d e)) := by
  cases d with
  | str x => cases e with
    | str y => rfl
    | _ => first | (unfold opEq; exact if_pos h) | (unfold opNe; exact if_pos h)
  | int m => cases e with
    | int n => rfl
    | _ => unfold opEq; exact if_pos h
  | lst xs => cases e with
    | lst ys => cases ys with
      | nil => cases xs <;> rfl
      | cons _ _ => unfold opEq; exact if_pos h
    | _ => unfold opEq; exact if_pos h
  | _ => cases e <;> (unfold opEq; exact if_pos h)
theorem o_ne {d e : D} (h : (okD d && okD e) = true) : opNe d e = some (.bl (!eqD d e)) := by
  cases d with
  | str x => cases e with
    | str y => rfl
    | _ => first | (unfold opEq; exact if_pos h) | (unfold opNe; exact if_pos h)
  | int m => cases e with
    | int n => rfl
    | _ => unfold opNe; exact if_pos h
  | lst xs => cases e with
    | lst ys => cases ys with
      | nil => cases xs <;> rfl
      | cons _ _ => unfold opNe; exact if_pos h
    | _ => unfold opNe; exact if_pos h
  | _ => cases e <;> (unfold opNe; exact if_pos h)
end
theorem r_ok {α : Type} {a : α} {L : Hs} : Res.ok a L = Res.ok a L := rfl
theorem v_d {B L : Hs} {p : D} : vw B L (.d p) = some p := rfl
theorem t_bl {k : Bool} : tru (.bl k) = some k := rfl
theorem t_int {n : Int} : tru (.int n) = some (decide (n ≠ 0)) := rfl
theorem t_non : tru .non = some false := rfl
theorem o_add {m n : Int} : opAdd (.int m) (.int n) = some (.int (m + n)) := rfl
theorem o_sub {m n : Int} : opSub (.int m) (.int n) = some (.int (m - n)) := rfl
theorem o_lt {m n : Int} : opLt (.int m) (.int n) = some (.bl (decide (m < n))) := rfl
theorem o_le {m n : Int} : opLe (.int m) (.int n) = some (.bl (decide (m ≤ n))) := rfl
theorem o_gt {m n : Int} : opGt (.int m) (.int n) = some (.bl (decide (n < m))) := rfl
theorem o_ge {m n : Int} : opGe (.int m) (.int n) = some (.bl (decide (n ≤ m))) := rfl
theorem o_eqI {m n : Int} : opEq (.int m) (.int n) = some (.bl (decide (m = n))) := rfl
theorem o_eqS {m n : List Nat} : opEq (.str m) (.str n) = some (.bl (decide (m = n))) := rfl
theorem o_neI {m n : Int} : opNe (.int m) (.int n) = some (.bl (!decide (m = n))) := rfl
theorem o_neS {m n : List Nat} : opNe (.str m) (.str n) = some (.bl (!decide (m = n))) := rfl
theorem b_len {xs : List D} : bLen [.lst xs] = some (.int xs.length) := rfl
theorem b_lenT {xs : List D} : bLen [.tup xs] = some (.int xs.length) := rfl
theorem b_lenS {xs : List D} : bLen [.scr xs] = some (.int xs.length) := rfl
theorem b_abs {n : Int} : bAbs [.int n] = some (.int (if n < 0 then -n else n)) := rfl
theorem b_int {n : Int} : bInt [.int n] = some (.int n) := rfl
theorem b_intB {k : Bool} : bInt [.bl k] = some (.int (if k then 1 else 0)) := rfl
theorem b_max {m n : Int} : bMax [.int m, .int n] = some (.int (if n > m then n else m)) := rfl
theorem b_min {m n : Int} : bMin [.int m, .int n] = some (.int (if n < m then n else m)) := rfl
theorem w_nil {B L : Hs} : ownAll B L [] = some ([], L) := rfl
theorem w_cons {B L L2 : Hs} {p : D} {ws : List W} {xs : List D} (h : ownAll B L ws = some (xs, L2)) : ownAll B L (.d p :: ws) = some (p :: xs, L2) := by
  show (match ownAll B L ws with | some (xs, L2) => some (p :: xs, L2) | none => none) = _
  rw [h]
section
variable {B L L1 L2 : Hs} {ρ ρ1 : Sl} {w x : W} {p r : D} {a : SE} {it : SI} {g : SG} {b : SS} {sr sr1 : SR} {xs ys : List D}
theorem x_iE (h : a B ρ L = .ok x L1) (hs : still B L1 x = some p) (hi : items p = some xs) : iE a B ρ L = .ok xs L1 := by
  unfold iE ofOpt Res.bind
  rw [h]
  dsimp only
  rw [hs]
  dsimp only
  rw [hi]
theorem x_iRange {j : Int} (h : a B ρ L = .ok x L1) (hx : vw B L1 x = some p) (hj : intD p = some j) (hg : -(2 ^ 62) ≤ j ∧ j < 2 ^ 62) : iRange a B ρ L = .ok ((List.range j.toNat).map fun (i : Nat) => D.int i) L1 := by
  unfold iRange vwR ofOpt guardR Res.bind
  rw [h]
  dsimp only
  rw [hx]
  dsimp only
  rw [hj]
  dsimp only
  rw [decide_eq_true hg]
theorem x_for (hi : it B ρ L = .ok xs L1) (h : forGo g b B xs ρ L1 = sr) : sFor it g b B ρ L = sr := by
  unfold sFor Res.st
  rw [hi]
  exact h
theorem x_fornil : forGo g b B [] ρ L = .next ρ L := rfl
theorem x_forcons (hg : g (.d p) B ρ L = .ok ρ1 L1) (hb : b B ρ1 L1 = sr1) (h : sr1.turn (fun ρ2 L2 => forGo g b B xs ρ2 L2) = sr) : forGo g b B (p :: xs) ρ L = sr := by
  show (g (.d p) B ρ L).st ρ _ = sr
  unfold Res.st
  rw [hg]
  dsimp only
  rw [hb]
  exact h
theorem x_turnN {k : Sl → Hs → SR} (h : k ρ L = sr) : (SR.next ρ L).turn k = sr := h
theorem x_turnC {k : Sl → Hs → SR} (h : k ρ L = sr) : (SR.cnt ρ L).turn k = sr := h
theorem x_turnB {k : Sl → Hs → SR} : (SR.brk ρ L).turn k = .next ρ L := rfl
theorem x_turnR {k : Sl → Hs → SR} : (SR.ret w L).turn k = .ret w L := rfl
theorem e_ret : fnEnd (.ret w L) = .ok w L := rfl
theorem e_next : fnEnd (.next ρ L) = .ok (.d .non) L := rfl
theorem o_out {n : Nat} : out n L (.d p) = some (.d p) := rfl
theorem a_lst (h : xs.length + ys.length ≤ sizeL) : opAdd (.lst xs) (.lst ys) = some (.lst (xs ++ ys)) := if_pos h
theorem a_tup (h : xs.length + ys.length ≤ sizeL) (hr : (xs.isEmpty || ys.isEmpty || !rowy (xs ++ ys)) = true) : opAdd (.tup xs) (.tup ys) = some (.tup (xs ++ ys)) := if_pos ⟨h, hr⟩
end
section
variable {B L L1 L2 L3 L4 : Hs} {ρ ρ1 ρ2 : Sl} {w x y z : W} {p q r s : D} {a b c o i v : SE} {f g : SA} {t u t1 t2 : ST} {k k1 k2 : Bool} {n : Nat} {ws : List W}
theorem x_app (ho : o B ρ L = .ok x L1) (h1 : (lstAt B L1 x).isSome = true) (ha : a B ρ L1 = .ok y L2) (h2 : lstAt B L2 x = some (n, ws)) (hl : ws.length < sizeL) (hL : L2.set n (.lst (ws ++ [y])) = L3) : eApp o a B ρ L = .ok (.d .non) L3 := by
  unfold eApp guardR Res.bind
  rw [ho]
  dsimp only
  rw [h1]
  dsimp only
  rw [ha]
  dsimp only
  rw [h2]
  dsimp only
  rw [if_pos hl, hL]
theorem x_ext {ys : List D} (ho : o B ρ L = .ok x L1) (h1 : (lstAt B L1 x).isSome = true) (ha : a B ρ L1 = .ok y L2) (hy : vw B L2 y = some p) (hp : lstD p = some ys) (h2 : lstAt B L2 x = some (n, ws)) (hl : ws.length + ys.length ≤ sizeL) (hL : L2.set n (.lst (ws ++ ys.map .d)) = L3) : eExt o a B ρ L = .ok (.d .non) L3 := by
  unfold eExt guardR vwR ofOpt Res.bind
  rw [ho]
  dsimp only
  rw [h1]
  dsimp only
  rw [ha]
  dsimp only
  rw [hy]
  dsimp only
  rw [hp]
  dsimp only
  rw [h2]
  dsimp only
  rw [if_pos hl, hL]
theorem x_pop (ho : o B ρ L = .ok x L1) (h2 : lstAt B L1 x = some (n, ws)) (hl : ws[ws.length - 1]? = some y) (hL : L1.set n (.lst ws.dropLast) = L3) : ePop o B ρ L = .ok y L3 := by
  unfold ePop Res.bind
  rw [ho]
  dsimp only
  rw [h2]
  dsimp only
  rw [hl, hL]
theorem x_inN {ks : List D} {neg : Bool} (h : a B ρ L = .ok x L1) (h2 : b B ρ L1 = .ok (.ref n) L2) (hx : vw B L2 x = some p) (hd : look B L2 n = some (.dcn ks ws)) (hk : isNK p = true) (he : (if neg = true then !nkIn p ks else nkIn p ks) = k) : eInN neg a b B ρ L = .ok (.d (.bl k)) L2 := by
  unfold eInN vwR ofOpt Res.bind
  rw [h]
  dsimp only
  rw [h2]
  dsimp only
  rw [hx]
  dsimp only
  rw [hd]
  dsimp only
  rw [if_pos hk, he]
theorem x_gitem (ho : o B ρ L = .ok x L1) (hi : i B ρ L1 = .ok y L2) (hy : vw B L2 y = some p) (hp : putIn B L2 x p w = some L3) : gItem o i w B ρ L = .ok ρ L3 := by
  unfold gItem vwR ofOpt Res.bind
  rw [ho]
  dsimp only
  rw [hi]
  dsimp only
  rw [hy]
  dsimp only
  rw [hp]
theorem x_listM {xs : List D} (h : a B ρ L = .ok x L1) (hx : vw B L1 x = some p) (hs : seqS p = some xs) : eListM a B ρ L = .ok (.ref (B.length + L1.length)) (L1 ++ [.lst (xs.map .d)]) := by
  unfold eListM vwR ofOpt Res.bind
  rw [h]
  dsimp only
  rw [hx]
  dsimp only
  rw [hs]
theorem x_parN {is : List Nat} (h : f B ρ L = .ok ws L1) (hs : setAll is ws ρ = some ρ1) (hl : ws.length ≤ sizeL) : sParN is f B ρ L = .next ρ1 L1 := by
  unfold sParN Res.st
  rw [h]
  dsimp only
  rw [hs]
  dsimp only
  rw [if_pos hl]
theorem x_tIf {R : Res Bool} (h : t B ρ L = .ok k L1) (h2 : Br k (t1 B ρ L1 = R) (t2 B ρ L1 = R)) : tIfT t t1 t2 B ρ L = R := by
  unfold tIfT Res.bind
  rw [h]
  cases k with
  | true => exact h2.1 rfl
  | false => exact h2.2 rfl
theorem l_own : lstAt B [.lst ws] (.ref B.length) = some (0, ws) := by
  unfold lstAt
  simp
theorem l_some : (lstAt B [.lst ws] (.ref B.length)).isSome = true := by rw [l_own]; rfl
end
end Ev

set_option linter.all false
set_option maxRecDepth 100000
set_option autoImplicit false
/-! EvX2: running the words of instances, and of dicts keyed by tuples. -/
namespace Ev
section
variable {B L L1 L2 L3 L4 : Hs} {ρ : Sl} {o a b : SE} {f : SA} {x y w z : W} {ws : List W} {c n np : Nat} {fs : List (List Nat × W)} {m : List Nat} {F : Fn} {p : D} {R : Res W}
theorem x_fld (h : o B ρ L = .ok x L1) (hi : insAt B L1 x = some (n, c, fs)) (hf : getF m fs = some w) : eFld c m o B ρ L = .ok w L1 := by
  simp only [eFld, h, Res.bind, ofOpt, hi, hf, guardR, decide_true]
theorem x_sfld (hv : b B ρ L = .ok y L1) (h : o B ρ L1 = .ok x L2) (hi : insAt B L2 x = some (n, c, fs)) (hn : B.length ≤ n) (hl : fs.length < 1000) (hL : L2.set (n - B.length) (.ins c (putFs m y fs)) = L3) : sFld c m o b B ρ L = .next ρ L3 := by
  simp only [sFld, hv, h, Res.st, ofOpt, hi, guardR, hn, hl, and_self, decide_true, hL]
theorem x_meth (h : o B ρ L = .ok x L1) (hi : insAt B L1 x = some (n, c, fs)) (hm : getF m fs = none) (ha : f B ρ L1 = .ok ws L2) (hl : ws.length + 1 = np) (hF : F (x :: ws) B L2 = R) : eMeth c m np F o f B ρ L = R := by
  simp only [eMeth, h, Res.bind, ofOpt, hi, hm, guardR, decide_true, Option.isNone_none, Bool.and_self, ha, hl, hF]
theorem x_make (ha : f B ρ L = .ok ws L1) (hl : ws.length + 1 = np) (hF : F (.ref (B.length + L1.length) :: ws) B (L1 ++ [.ins c []]) = .ok (.d .non) L2) : eMake c np F f B ρ L = .ok (.ref (B.length + L1.length)) L2 := by
  simp only [eMake, ha, Res.bind, guardR, hl, decide_true, hF, nonW]
theorem x_ixN {kw : List D × List W} (h : o B ρ L = .ok x L1) (h2 : a B ρ L1 = .ok y L2) (hy : vw B L2 y = some p) (hd : dcnAt B L2 x = some kw) (hk : isNK p = true) (hg : nkGet p kw.1 kw.2 = some w) : eIxN o a B ρ L = .ok w L2 := by
  simp only [eIxN, h, Res.bind, h2, vwR, ofOpt, hy, hd, guardR, hk, hg]
theorem x_getN {kw : List D × List W} (h : o B ρ L = .ok x L1) (h0 : (dcnAt B L1 x).isSome = true) (h2 : a B ρ L1 = .ok y L2) (h3 : b B ρ L2 = .ok z L3) (hy : vw B L3 y = some p) (hd : dcnAt B L3 x = some kw) (hk : isNK p = true) (hg : (nkGet p kw.1 kw.2).getD z = w) : eGetN o a b B ρ L = .ok w L3 := by
  simp only [eGetN, h, Res.bind, guardR, h0, h2, h3, vwR, ofOpt, hy, hd, hk, hg]
theorem x_sortN {kw : List D × List W} {ps : List SS2} {r : List D} (h : o B ρ L = .ok x L1) (hd : dcnAt B L1 x = some kw) (hu : unDs kw.1 = some ps) (hr : (sortP ps).map pairD = r) : eSortN o B ρ L = .ok (.d (.lst r)) L1 := by
  simp only [eSortN, h, Res.bind, ofOpt, hd, hu, hr]
theorem x_dictN {kv : List D × List D} {ob : Ob} (h : o B ρ L = .ok x L1) (hx : vw B L1 x = some p) (hd : rowsD p = some kv) (ho : Ob.dcn (mergeN [] [] kv.1 kv.2).1 (mergeN [] [] kv.1 kv.2).2 = ob) : eDictN o B ρ L = .ok (.ref (B.length + L1.length)) (L1 ++ [ob]) := by
  simp only [eDictN, h, Res.bind, vwR, ofOpt, hx, hd, ho]
theorem x_zip {zs : List D} (h : f B ρ L = .ok ws L1) (hz : zipW ws = some zs) : iZip f B ρ L = .ok zs L1 := by
  simp only [iZip, h, Res.bind, ofOpt, hz]
end
/-! a heap's own part, by its places -/
theorem look_own {B L : Hs} (i : Nat) : look B L (B.length + i) = L[i]? := by
  unfold look
  rw [List.getElem?_append_right (by omega)]
  congr 1
  omega
theorem own_ix (n i : Nat) : n + i - n = i := by omega
/-! dicts of whole numbers, keyed by pairs of texts -/
abbrev Env := List (SS2 × Int)
def kD2 (es : Env) : List D := es.map fun p => pairD p.1
def vD2 (es : Env) : List W := es.map fun p => W.d (.int p.2)
def obN (es : Env) : Ob := .dcn (kD2 es) (vD2 es)
def val (k : SS2) : Env → Int
  | [] => 0
  | p :: es => if p.1 = k then p.2 else val k es
def has (k : SS2) (es : Env) : Bool := es.any fun p => decide (p.1 = k)
def putE (k : SS2) (v : Int) (es : Env) : Env := if has k es = true then es.map (fun p => if p.1 = k then (p.1, v) else p) else es ++ [(k, v)]
theorem eqD_pair (p q : SS2) : eqD (pairD p) (pairD q) = decide (p = q) := by
  obtain ⟨a, b⟩ := p
  obtain ⟨c, d⟩ := q
  show (eqD (.str a) (.str c) && (eqD (.str b) (.str d) && true)) = _
  show (decide (a = c) && (decide (b = d) && true)) = _
  rw [Bool.and_true]
  by_cases h1 : a = c <;> by_cases h2 : b = d <;> simp [h1, h2]
theorem isNK_pair (p : SS2) : isNK (pairD p) = true := rfl
theorem get_env (k : SS2) : ∀ es : Env, (nkGet (pairD k) (kD2 es) (vD2 es)).getD (.d (.int 0)) = .d (.int (val k es))
  | [] => rfl
  | p :: es => by
    show (if eqD (pairD p.1) (pairD k) = true then some (W.d (.int p.2)) else nkGet (pairD k) (kD2 es) (vD2 es)).getD _ = W.d (.int (if p.1 = k then p.2 else val k es))
    rw [eqD_pair]
    by_cases h : p.1 = k
    · rw [if_pos (decide_eq_true h), if_pos h]; rfl
    · rw [decide_eq_false h, if_neg Bool.false_ne_true, if_neg h]
      exact get_env k es
theorem ix_env (k : SS2) : ∀ es : Env, has k es = true → nkGet (pairD k) (kD2 es) (vD2 es) = some (.d (.int (val k es)))
  | [], h => by cases h
  | p :: es, h => by
    show (if eqD (pairD p.1) (pairD k) = true then some (W.d (.int p.2)) else nkGet (pairD k) (kD2 es) (vD2 es)) = some (W.d (.int (if p.1 = k then p.2 else val k es)))
    rw [eqD_pair]
    by_cases e : p.1 = k
    · rw [if_pos (decide_eq_true e), if_pos e]
    · rw [decide_eq_false e, if_neg Bool.false_ne_true, if_neg e]
      have h : (decide (p.1 = k) || has k es) = true := h
      rw [decide_eq_false e, Bool.false_or] at h
      exact ix_env k es h
theorem nkIn_env (k : SS2) (es : Env) : nkIn (pairD k) (kD2 es) = has k es := by
  unfold nkIn has kD2
  rw [List.any_map]
  congr 1
  funext p
  exact eqD_pair p.1 k
theorem zip_same {α β : Type} (f : α → α → β) : ∀ l : List α, List.zipWith f l l = l.map fun x => f x x
  | [] => rfl
  | x :: l => by
    show f x x :: List.zipWith f l l = _
    rw [zip_same f l]
    rfl
theorem put_env (k : SS2) (v : Int) (es : Env) : Ob.dcn (nkKs (pairD k) (kD2 es)) (nkVs (pairD k) (.d (.int v)) (kD2 es) (vD2 es)) = obN (putE k v es) := by
  unfold nkKs nkVs putE
  rw [nkIn_env]
  cases has k es with
  | true =>
    rw [if_pos rfl, if_pos rfl, if_pos rfl]
    unfold obN kD2 vD2
    congr 1
    · rw [List.map_map]
      congr 1
      funext p
      show pairD p.1 = pairD (if p.1 = k then (p.1, v) else p).1
      split <;> rfl
    · rw [List.zipWith_map, zip_same, List.map_map]
      congr 1
      funext p
      show (if eqD (pairD p.1) (pairD k) = true then W.d (.int v) else .d (.int p.2)) = W.d (.int (if p.1 = k then (p.1, v) else p).2)
      rw [eqD_pair]
      by_cases h : p.1 = k
      · rw [if_pos (decide_eq_true h), if_pos h]
      · rw [decide_eq_false h, if_neg Bool.false_ne_true, if_neg h]
  | false =>
    rw [if_neg Bool.false_ne_true, if_neg Bool.false_ne_true, if_neg Bool.false_ne_true]
    unfold obN kD2 vD2
    rw [List.map_append, List.map_append]
    rfl
theorem unDs_env : ∀ es : Env, unDs (kD2 es) = some (es.map (·.1))
  | [] => rfl
  | p :: es => by
    show (match unD (pairD p.1), unDs (kD2 es) with | some p, some ps => some (p :: ps) | _, _ => none) = _
    rw [unDs_env es]
    rfl
theorem put_len (k : SS2) (v : Int) (es : Env) : (putE k v es).length ≤ es.length + 1 := by
  unfold putE
  split
  · rw [List.length_map]; omega
  · rw [List.length_append]; exact Nat.le_refl _
theorem put_mem {k : SS2} {v : Int} {es : Env} {p : SS2 × Int} (h : p ∈ putE k v es) : p = (k, v) ∨ p ∈ es := by
  unfold putE at h
  split at h
  · obtain ⟨q, hq, rfl⟩ := List.mem_map.mp h
    by_cases e : q.1 = k
    · rw [if_pos e, e]; exact .inl rfl
    · rw [if_neg e]; exact .inr hq
  · rcases List.mem_append.mp h with h | h
    · exact .inr h
    · exact .inl (List.mem_singleton.mp h)
theorem put_keys (k : SS2) (v : Int) (es : Env) : (putE k v es).map (·.1) = if has k es = true then es.map (·.1) else es.map (·.1) ++ [k] := by
  unfold putE
  split
  · rw [List.map_map]
    congr 1
    funext p
    show (if p.1 = k then (p.1, v) else p).1 = p.1
    split <;> rfl
  · rw [List.map_append]; rfl
theorem has_mem {k : SS2} {es : Env} : has k es = true ↔ k ∈ es.map (·.1) := by
  unfold has
  rw [List.any_eq_true]
  constructor
  · rintro ⟨p, hp, e⟩
    exact List.mem_map.mpr ⟨p, hp, of_decide_eq_true e⟩
  · intro h
    obtain ⟨p, hp, e⟩ := List.mem_map.mp h
    exact ⟨p, hp, decide_eq_true e⟩
theorem put_nodup {k : SS2} {v : Int} {es : Env} (h : (es.map (·.1)).Nodup) : ((putE k v es).map (·.1)).Nodup := by
  rw [put_keys]
  split
  · exact h
  · rename_i hk
    rw [List.nodup_append]
    refine ⟨h, by simp, fun a ha b hb => ?_⟩
    rw [List.mem_singleton] at hb
    subst hb
    intro e
    subst e
    exact hk (has_mem.mpr ha)
theorem val_mem {k : SS2} : ∀ {es : Env}, has k es = true → (k, val k es) ∈ es
  | [], h => by cases h
  | p :: es, h => by
    show (k, if p.1 = k then p.2 else val k es) ∈ p :: es
    by_cases e : p.1 = k
    · rw [if_pos e, ← e]; exact List.mem_cons_self
    · rw [if_neg e]
      have h : (decide (p.1 = k) || has k es) = true := h
      rw [decide_eq_false e, Bool.false_or] at h
      exact List.mem_cons_of_mem _ (val_mem h)
theorem val_le {k : SS2} : ∀ {es : Env}, (∀ p ∈ es, -99 ≤ p.2 ∧ p.2 ≤ 99) → -99 ≤ val k es ∧ val k es ≤ 99
  | [], _ => by show (-99 : Int) ≤ 0 ∧ (0 : Int) ≤ 99; omega
  | p :: es, h => by
    show -99 ≤ (if p.1 = k then p.2 else val k es) ∧ (if p.1 = k then p.2 else val k es) ≤ 99
    split
    · exact h p List.mem_cons_self
    · exact val_le fun q hq => h q (List.mem_cons_of_mem _ hq)
/-! rows -/
def rowD (p : SS2 × Int) : D := .tup [pairD p.1, .int p.2]
def rowsOf (es : Env) : Env := ((sortP (es.map (·.1))).filter fun k => !decide (val k es = 0)).map fun k => (k, val k es)
theorem rowy_rows : ∀ es : Env, rowy (es.map rowD) = true
  | [] => rfl
  | p :: es => rowy_rows es
theorem unpair_rows : ∀ es : Env, unpair (es.map rowD) = some (kD2 es, es.map fun p => D.int p.2)
  | [] => rfl
  | p :: es => by
    show (match unpair (es.map rowD) with | some (ks, vs) => some (pairD p.1 :: ks, D.int p.2 :: vs) | none => none) = _
    rw [unpair_rows es]
    rfl
theorem all_nk : ∀ es : Env, (kD2 es).all isNK = true
  | [] => rfl
  | p :: es => by
    show (isNK (pairD p.1) && (kD2 es).all isNK) = true
    rw [all_nk es]
    rfl
theorem rowsD_rows (es : Env) : rowsD (.tup (es.map rowD)) = some (kD2 es, es.map fun p => D.int p.2) := by
  show (if rowy (es.map rowD) = true then (match unpair (es.map rowD) with | some kv => if kv.1.all isNK = true then some kv else none | none => none) else none) = _
  rw [if_pos (rowy_rows es), unpair_rows]
  exact if_pos (all_nk es)
theorem merge_env : ∀ (rs es : Env), ∃ es', Ob.dcn (mergeN (kD2 es) (vD2 es) (kD2 rs) (rs.map fun p => D.int p.2)).1 (mergeN (kD2 es) (vD2 es) (kD2 rs) (rs.map fun p => D.int p.2)).2 = obN es' ∧ es' = rs.foldl (fun acc p => putE p.1 p.2 acc) es
  | [], es => ⟨es, rfl, rfl⟩
  | p :: rs, es => by
    obtain ⟨es', h1, h2⟩ := merge_env rs (putE p.1 p.2 es)
    refine ⟨es', ?_, h2⟩
    rw [← h1]
    have e := put_env p.1 p.2 es
    unfold obN at e
    injection e with e1 e2
    show Ob.dcn (mergeN (nkKs (pairD p.1) (kD2 es)) (nkVs (pairD p.1) (.d (.int p.2)) (kD2 es) (vD2 es)) (kD2 rs) _).1 (mergeN (nkKs (pairD p.1) (kD2 es)) (nkVs (pairD p.1) (.d (.int p.2)) (kD2 es) (vD2 es)) (kD2 rs) _).2 = _
    rw [e1, e2]
def dictOf (rs : Env) : Env := rs.foldl (fun acc p => putE p.1 p.2 acc) []
theorem dict_env (rs : Env) : Ob.dcn (mergeN [] [] (kD2 rs) (rs.map fun p => D.int p.2)).1 (mergeN [] [] (kD2 rs) (rs.map fun p => D.int p.2)).2 = obN (dictOf rs) := by
  obtain ⟨es', h1, h2⟩ := merge_env rs []
  subst h2
  exact h1
end Ev

set_option linter.all false
set_option maxRecDepth 100000
set_option autoImplicit false
/-! EvY: how long a repr may be. -/
namespace Ev
open PySem
mutual
def est : D → Nat
  | .int i => i.natAbs.log2 + 2
  | .str s => 10 * s.length + 2
  | .tup xs => 3 + ests xs
  | .lst xs => 3 + ests xs
  | _ => 5
def ests : List D → Nat
  | [] => 0
  | x :: xs => est x + 2 + ests xs
end
theorem join_le (ts : List Str) : (Str.join ", " ts).length ≤ piled ts := by
  by_cases h : ts = []
  · subst h; decide
  · have := join_length_add ts h
    omega
theorem tupT_le (ts : List Str) : (tupleText ts).length ≤ piled ts + 3 := by
  unfold tupleText
  rw [strLen_append, strLen_append]
  have h1 := join_le ts
  have h2 : ((if ts.length == 1 then ",)" else ")" : String) : Str).length ≤ 2 := by split <;> decide
  have h3 : ((("(" : String) : Str)).length = 1 := by decide
  omega
theorem from_le : ∀ (ts : List Str) (k : Nat) (acc : Str), (textFrom k acc ts).length ≤ acc.length + piled ts
  | [], k, acc => Nat.le_refl _
  | t :: r, k, acc => by
    have h := from_le r (k + 1) (acc ++ (if k > 0 then ", " else "" : String) ++ t)
    have e : ((if k > 0 then ", " else "" : String) : Str).length ≤ 2 := by split <;> decide
    rw [strLen_append, strLen_append] at h
    rw [piled_cons]
    show (textFrom (k + 1) _ r).length ≤ _
    omega
theorem lstT_le (ts : List Str) : (listText ts).length ≤ piled ts + 3 := by
  unfold listText
  rw [strLen_append]
  have h1 := from_le ts 0 "["
  have h2 : ((("[" : String) : Str)).length = 1 := by decide
  have h3 : ((("]" : String) : Str)).length = 1 := by decide
  omega
mutual
theorem shown_le : ∀ d : D, dOk d = true → (toPy d).shown.length ≤ est d
  | .non, _ => by decide
  | .bl true, _ => by decide
  | .bl false, _ => by decide
  | .int i, _ => by
    show (Str.ofString (toString i)).length ≤ i.natAbs.log2 + 2
    have := int_text_length_le (a := i) (k := i.natAbs.log2 + 1) (by omega) (by omega)
    have e : (Str.ofString (toString i)).length = (toString i).length := ofString_length _
    omega
  | .str s, h => by
    show (reprText ⟨s.toArray⟩).length ≤ 10 * s.length + 2
    have := StrLaws.reprText_len ⟨s.toArray⟩ (fun c hc => by
      have h' : s.all (· < 0x110000) = true := h
      have := List.all_eq_true.mp h' c (by simpa using hc)
      have : c < 0x110000 := by simpa using this
      omega)
    have e : (⟨s.toArray⟩ : Str).length = s.length := by simp [Str.length]
    omega
  | .tup xs, h => by
    show (tupleText (PyData.shownAll (toPys xs))).length ≤ 3 + ests xs
    have h1 := tupT_le (PyData.shownAll (toPys xs))
    have h2 := shows_le xs h
    omega
  | .lst xs, h => by
    show (listText (PyData.shownAll (toPys xs))).length ≤ 3 + ests xs
    have h1 := lstT_le (PyData.shownAll (toPys xs))
    have h2 := shows_le xs h
    omega
theorem shows_le : ∀ ds : List D, dOks ds = true → piled (PyData.shownAll (toPys ds)) ≤ ests ds
  | [], _ => Nat.le_refl _
  | d :: ds, h => by
    have h' : (dOk d && dOks ds) = true := h
    rw [Bool.and_eq_true] at h'
    have h1 := shown_le d h'.1
    have h2 := shows_le ds h'.2
    show piled (PyData.shown (toPy d) :: PyData.shownAll (toPys ds)) ≤ est d + 2 + ests ds
    rw [piled_cons]
    omega
end
mutual
def shOk : D → Bool
  | .int i => decide (i.natAbs.log2 < 1920)
  | .tup xs => shOks xs
  | .lst xs => shOks xs
  | _ => true
def shOks : List D → Bool
  | [] => true
  | x :: xs => shOk x && shOks xs
end
mutual
theorem sh_ok : ∀ d : D, dOk d = true → shOk d = true → (toPy d).showable = true
  | .non, _, _ => rfl
  | .bl _, _, _ => rfl
  | .int i, _, h => h
  | .str _, _, _ => rfl
  | .tup xs, h, h2 => shs_ok xs h h2
  | .lst xs, h, h2 => shs_ok xs h h2
theorem shs_ok : ∀ ds : List D, dOks ds = true → shOks ds = true → PyData.showableAll (toPys ds) = true
  | [], _, _ => rfl
  | d :: ds, h, h2 => by
    have h' : (dOk d && dOks ds) = true := h
    have h2' : (shOk d && shOks ds) = true := h2
    rw [Bool.and_eq_true] at h' h2'
    show (PyData.showable (toPy d) && PyData.showableAll (toPys ds)) = true
    rw [sh_ok d h'.1 h2'.1, shs_ok ds h'.2 h2'.2]
    rfl
end
/-- repr is told -/
theorem repr_tup {xs : List D} (h1 : okD (.tup xs) = true) (h2 : shOks xs = true) (h3 : 3 + ests xs ≤ sizeL) : ∃ s, bRepr [.tup xs] = some (.str s) := by
  have ok : dOk (.tup xs) = true := by
    unfold okD at h1
    rw [Bool.and_eq_true] at h1
    exact h1.1
  exact ⟨_, if_pos ⟨h1, sh_ok (.tup xs) ok h2, Nat.le_trans (shown_le (.tup xs) ok) h3⟩⟩
theorem repr_lst {xs : List D} (h1 : okD (.lst xs) = true) (h2 : shOks xs = true) (h3 : 3 + ests xs ≤ sizeL) : ∃ s, bRepr [.lst xs] = some (.str s) := by
  have ok : dOk (.lst xs) = true := by
    unfold okD at h1
    rw [Bool.and_eq_true] at h1
    exact h1.1
  exact ⟨_, if_pos ⟨h1, sh_ok (.lst xs) ok h2, Nat.le_trans (shown_le (.lst xs) ok) h3⟩⟩
end Ev

set_option linter.all false
set_option maxRecDepth 100000
set_option maxHeartbeats 1000000
namespace Ev
section
variable {B L : Hs} {ρ : Sl} {a b : SE} {t u : ST} {S S1 S2 : SS} {k k' : Bool} {x y : D} {w w' : W}
theorem z_and (h : a B ρ L = .ok (.d (.bl k)) L) (h2 : k = true → b B ρ L = .ok (.d (.bl k')) L) : eAnd a b B ρ L = .ok (.d (.bl (k && k'))) L := by
  unfold eAnd Res.bind
  rw [h]
  cases k with
  | true => exact h2 rfl
  | false => rfl
theorem z_or (h : a B ρ L = .ok (.d (.bl k)) L) (h2 : k = false → b B ρ L = .ok (.d (.bl k')) L) : eOr a b B ρ L = .ok (.d (.bl (k || k'))) L := by
  unfold eOr Res.bind
  rw [h]
  cases k with
  | true => rfl
  | false => exact h2 rfl
theorem z_tAnd (h : t B ρ L = .ok k L) (h2 : k = true → u B ρ L = .ok k' L) : tAnd t u B ρ L = .ok (k && k') L := by
  unfold tAnd Res.bind
  rw [h]
  cases k with
  | true => exact h2 rfl
  | false => rfl
theorem z_tOr (h : t B ρ L = .ok k L) (h2 : k = false → u B ρ L = .ok k' L) : tOr t u B ρ L = .ok (k || k') L := by
  unfold tOr Res.bind
  rw [h]
  cases k with
  | true => rfl
  | false => exact h2 rfl
theorem z_if (h : t B ρ L = .ok k L) (h1 : k = true → a B ρ L = .ok (.d x) L) (h2 : k = false → b B ρ L = .ok (.d y) L) : eIf t a b B ρ L = .ok (.d (if k = true then x else y)) L := by
  unfold eIf Res.bind
  rw [h]
  cases k with
  | true => exact h1 rfl
  | false => exact h2 rfl
/-- if c: return a .. -/
theorem z_ret (ht : t B ρ L = .ok k L) (ha : k = true → a B ρ L = .ok (.d x) L) (hs : k = false → S B ρ L = .ret (.d y) L) : sSeq (sIf t (sRet a) sNil) S B ρ L = .ret (.d (if k = true then x else y)) L := by
  unfold sSeq sIf
  rw [ht]
  cases k with
  | true =>
    show (sRet a B ρ L).then _ = _
    unfold sRet
    rw [ha rfl]
    rfl
  | false => exact hs rfl
/-- if c: s; return a .. -/
theorem z_ret2 (ht : t B ρ L = .ok k L) (ha : k = true → S1 B ρ L = .ret (.d x) L) (hs : k = false → S B ρ L = .ret (.d y) L) : sSeq (sIf t S1 sNil) S B ρ L = .ret (.d (if k = true then x else y)) L := by
  unfold sSeq sIf
  rw [ht]
  cases k with
  | true =>
    show (S1 B ρ L).then _ = _
    rw [ha rfl]
    rfl
  | false => exact hs rfl
theorem x_pfn {np ns : Nat} {b : SS} {ws : List W} (hl : ws.length = np) (h : ∀ B', b B' (ws.map some ++ List.replicate (ns - np) none) [] = .ret (.d x) []) : pureFn (fnBody np ns b) ws B L = .ok (.d x) L :=
  x_pure (x_fn hl (h (B ++ L)) rfl) rfl
/-! comprehensions -/
theorem comp_map {i : Nat} {e : SE} {f : D → D} : ∀ (xs acc : List D), (∀ x ∈ xs, e B (ρ.set i (some (.d x))) L = .ok (.d (f x)) L) → acc.length + xs.length ≤ 16777216 → compGo (gVar i) tYes e B ρ xs acc L = .ok (acc ++ xs.map f) L
  | [], acc, _, _ => by rw [List.map_nil, List.append_nil]; rfl
  | x :: xs, acc, h, hl => by
    rw [List.length_cons] at hl
    show (gVar i (.d x) B ρ L).bind (fun ρ1 L1 => (tYes B ρ1 L1).bind fun k L2 => if k = true then (e B ρ1 L2).bind fun w L3 => (ownR B L3 w).bind fun y L4 => (guardR (decide (acc.length < sizeL)) L4).bind fun _ L4 => compGo (gVar i) tYes e B ρ xs (acc ++ [y]) L4 else compGo (gVar i) tYes e B ρ xs acc L2) = _
    show (e B (ρ.set i (some (.d x))) L).bind (fun w L3 => (ownR B L3 w).bind fun y L4 => (guardR (decide (acc.length < sizeL)) L4).bind fun _ L4 => compGo (gVar i) tYes e B ρ xs (acc ++ [y]) L4) = _
    rw [h x List.mem_cons_self]
    show (guardR (decide (acc.length < sizeL)) L).bind (fun _ L4 => compGo (gVar i) tYes e B ρ xs (acc ++ [f x]) L4) = _
    rw [decide_eq_true (show acc.length < sizeL by show _ < 16777216; omega)]
    show compGo (gVar i) tYes e B ρ xs (acc ++ [f x]) L = _
    rw [comp_map xs (acc ++ [f x]) (fun y hy => h y (List.mem_cons_of_mem _ hy)) (by rw [List.length_append]; show acc.length + 1 + _ ≤ _; omega), List.append_assoc]
    rfl
theorem comp_fil {i : Nat} {c : ST} {e : SE} {f : D → D} {p : D → Bool} : ∀ (xs acc : List D), (∀ x ∈ xs, c B (ρ.set i (some (.d x))) L = .ok (p x) L) → (∀ x ∈ xs, p x = true → e B (ρ.set i (some (.d x))) L = .ok (.d (f x)) L) → acc.length + xs.length ≤ 16777216 → compGo (gVar i) c e B ρ xs acc L = .ok (acc ++ (xs.filter p).map f) L
  | [], acc, _, _, _ => by rw [List.filter_nil, List.map_nil, List.append_nil]; rfl
  | x :: xs, acc, hc, h, hl => by
    rw [List.length_cons] at hl
    show (c B (ρ.set i (some (.d x))) L).bind (fun k L2 => if k = true then (e B (ρ.set i (some (.d x))) L2).bind fun w L3 => (ownR B L3 w).bind fun y L4 => (guardR (decide (acc.length < sizeL)) L4).bind fun _ L4 => compGo (gVar i) c e B ρ xs (acc ++ [y]) L4 else compGo (gVar i) c e B ρ xs acc L2) = _
    rw [hc x List.mem_cons_self]
    show (if p x = true then (e B (ρ.set i (some (.d x))) L).bind fun w L3 => (ownR B L3 w).bind fun y L4 => (guardR (decide (acc.length < sizeL)) L4).bind fun _ L4 => compGo (gVar i) c e B ρ xs (acc ++ [y]) L4 else compGo (gVar i) c e B ρ xs acc L) = _
    cases hp : p x with
    | true =>
      rw [if_pos rfl, h x List.mem_cons_self hp, List.filter_cons_of_pos hp]
      show (guardR (decide (acc.length < sizeL)) L).bind (fun _ L4 => compGo (gVar i) c e B ρ xs (acc ++ [f x]) L4) = _
      rw [decide_eq_true (show acc.length < sizeL by show _ < 16777216; omega)]
      show compGo (gVar i) c e B ρ xs (acc ++ [f x]) L = _
      rw [comp_fil xs (acc ++ [f x]) (fun y hy => hc y (List.mem_cons_of_mem _ hy)) (fun y hy => h y (List.mem_cons_of_mem _ hy)) (by rw [List.length_append]; show acc.length + 1 + _ ≤ _; omega), List.append_assoc]
      rfl
    | false =>
      rw [if_neg Bool.false_ne_true, List.filter_cons_of_neg (by rw [hp]; exact Bool.false_ne_true), comp_fil xs acc (fun y hy => hc y (List.mem_cons_of_mem _ hy)) (fun y hy => h y (List.mem_cons_of_mem _ hy)) (by omega)]
theorem x_comp {it : SI} {g : SG} {c : ST} {e : SE} {vs : List Nat} {xs ys : List D} {L1 L2 : Hs} (hi : it B ρ L = .ok xs L1) (hc : compGo g c e B (wipe ρ vs) xs [] L1 = .ok ys L2) : eComp it g c e vs B ρ L = .ok (.d (.lst ys)) L2 := by
  unfold eComp Res.bind
  rw [hi]
  dsimp only
  rw [hc]
end
theorem allB_map {f : D → Bool} : ∀ xs : List D, allB (xs.map fun x => .bl (f x)) = some (xs.map f)
  | [] => rfl
  | x :: xs => by
    show (match allB (xs.map fun x => .bl (f x)) with | some bs => some (f x :: bs) | none => none) = _
    rw [allB_map xs]
    rfl
theorem all_id {f : D → Bool} (xs : List D) : (xs.map f).all id = xs.all f := by rw [List.all_map]; rfl
namespace K01
/-! data that is looked at -/
mutual
def fine : D → Bool
  | .str s => s.all (· < 0x110000) && decide (s.length ≤ 1000)
  | .tup xs => decide (xs.length ≤ 1000) && fines xs
  | .non => true
  | .bl _ => true
  | .int _ => true
  | .lst _ => true
  | .dct _ _ => true
  | _ => false
def fines : List D → Bool
  | [] => true
  | x :: xs => fine x && fines xs
end
def isTup : D → Bool
  | .tup _ => true
  | _ => false
def isStr : D → Bool
  | .str _ => true
  | _ => false
def ln : D → Nat
  | .tup xs => xs.length
  | _ => 0
def it (v : D) (i : Nat) : D := match v with
  | .tup xs => xs.getD i .non
  | _ => .non
def deq (v : D) (s : List Nat) : Bool := match v with
  | .str t => decide (t = s)
  | _ => false
def tree (v : D) (h : List Nat) (n : Nat) : Bool := isTup v && (decide (ln v = n) && (isStr (it v 0) && deq (it v 0) h))
theorem fines_mem : ∀ {xs : List D} {x : D}, fines xs = true → x ∈ xs → fine x = true
  | y :: xs, x, h, hx => by
    have h : (fine y && fines xs) = true := h
    rw [Bool.and_eq_true] at h
    rcases List.mem_cons.mp hx with rfl | hx
    · exact h.1
    · exact fines_mem h.2 hx
theorem fine_tup {xs : List D} (h : fine (.tup xs) = true) : xs.length ≤ 1000 ∧ ∀ x ∈ xs, fine x = true := by
  have h : (decide (xs.length ≤ 1000) && fines xs) = true := h
  rw [Bool.and_eq_true, decide_eq_true_eq] at h
  exact ⟨h.1, fun x hx => fines_mem h.2 hx⟩
theorem fine_it {v : D} (h : fine v = true) (i : Nat) : fine (it v i) = true := by
  cases v with
  | tup xs =>
    show fine (xs.getD i .non) = true
    rw [List.getD_eq_getElem?_getD]
    cases e : xs[i]? with
    | none => rfl
    | some y => exact (fine_tup h).2 y (List.mem_of_getElem? e)
  | _ => rfl
theorem isi_tup {v : D} (h : fine v = true) : bIsi .tuple v = some (.bl (isTup v)) := by
  cases v <;> first | rfl | cases h
theorem isi_str {v : D} (h : fine v = true) : bIsi .str v = some (.bl (isStr v)) := by
  cases v <;> first | rfl | cases h
def isInt : D → Bool
  | .int _ => true
  | .bl _ => true
  | _ => false
def isBl : D → Bool
  | .bl _ => true
  | _ => false
theorem isi_int {v : D} (h : fine v = true) : bIsi .int v = some (.bl (isInt v)) := by
  cases v <;> first | rfl | cases h
theorem isi_bl {v : D} (h : fine v = true) : bIsi .bool v = some (.bl (isBl v)) := by
  cases v <;> first | rfl | cases h
theorem len_tup {v : D} (h : isTup v = true) : bLen [v] = some (.int (ln v)) := by
  cases v <;> first | rfl | cases h
theorem ix_tup {v : D} {i : Nat} (h : isTup v = true) (hi : i < ln v) : opIx v (.int i) = some (it v i) := by
  cases v with
  | tup xs =>
    show atI xs (i : Int) = some (xs.getD i .non)
    have hi : i < xs.length := hi
    unfold atI ixN
    rw [if_pos (by omega), if_pos (by omega)]
    show xs[((i : Int)).toNat]? = _
    rw [Int.toNat_natCast, List.getD_eq_getElem?_getD, List.getElem?_eq_getElem hi]
    rfl
  | _ => cases h
theorem eq_str {v : D} {s : List Nat} (h : isStr v = true) : opEq v (.str s) = some (.bl (deq v s)) := by
  cases v <;> first | rfl | cases h
theorem d_eqN (a b : Nat) : decide ((a : Int) = (b : Int)) = decide (a = b) := by
  rw [Bool.eq_iff_iff, decide_eq_true_eq, decide_eq_true_eq]
  omega
theorem tree_ok (v : D) (h : List Nat) (n : Nat) (hn : 0 < n) (hv : fine v = true) (B L : Hs) : F_is_tree [.d v, .d (.str h), .d (.int n)] B L = .ok (.d (.bl (tree v h n))) L := by
  unfold F_is_tree
  refine x_pfn rfl fun B' => x_ret (z_and (x_1 (x_var rfl) rfl (isi_tup hv)) fun h1 => z_and (x_2 (p := .int (ln v)) (q := .int n) (x_B (x_cons (x_var rfl) x_nil) (x_vcons rfl x_vnil) (len_tup h1)) (x_var rfl) rfl rfl ?_) fun h2 => ?_)
  · rw [← d_eqN]
    rfl
  · have h2 := of_decide_eq_true h2
    have i0 : opIx v (.int 0) = some (it v 0) := ix_tup (i := 0) h1 (by omega)
    refine z_and (x_1 (x_2 (x_var rfl) x_c rfl rfl i0) rfl (isi_str (fine_it hv 0))) fun h3 => ?_
    exact x_2 (x_2 (x_var rfl) x_c rfl rfl i0) (x_var rfl) rfl rfl (eq_str h3)
end K01
end Ev

set_option linter.all false
set_option maxRecDepth 100000
set_option maxHeartbeats 1000000
namespace Ev
section
variable {B L : Hs} {ρ : Sl} {a b c : SE} {t u : ST} {S S1 S2 : SS} {k k' p q : Bool} {x y z : D}
theorem z_retB (ht : t B ρ L = .ok k L) (ha : k = true → a B ρ L = .ok (.d (.bl p)) L) (hs : k = false → S B ρ L = .ret (.d (.bl q)) L) : sSeq (sIf t (sRet a) sNil) S B ρ L = .ret (.d (.bl (if k = true then p else q))) L := by
  rw [z_ret ht ha hs]
  cases k <;> rfl
theorem z_ret2B (ht : t B ρ L = .ok k L) (ha : k = true → S1 B ρ L = .ret (.d (.bl p)) L) (hs : k = false → S B ρ L = .ret (.d (.bl q)) L) : sSeq (sIf t S1 sNil) S B ρ L = .ret (.d (.bl (if k = true then p else q))) L := by
  rw [z_ret2 ht ha hs]
  cases k <;> rfl
theorem z_chain {op op' : D → D → Option D} (h : a B ρ L = .ok (.d x) L) (h2 : b B ρ L = .ok (.d y) L) (ho : op x y = some (.bl k)) (h3 : c B ρ L = .ok (.d z) L) (ho' : op' y z = some (.bl k')) : eChain op op' a b c B ρ L = .ok (.d (.bl (k && k'))) L := by
  refine x_chain h h2 rfl rfl ho ?_
  cases k with
  | true => exact br1 rfl ⟨_, _, h3, x_ch2 rfl rfl ho'⟩
  | false => exact br0 rfl rfl
end
namespace K01
def sVal : List Nat := [118, 97, 108, 117, 101]
def sRow : List Nat := [114, 111, 119]
def sBody : List Nat := [98, 111, 100, 121]
def sSet : List Nat := [115, 101, 116]
def sSend : List Nat := [115, 101, 110, 100]
def sIfS : List Nat := [105, 102]
def sFail : List Nat := [102, 97, 105, 108]
def sNot : List Nat := [110, 111, 116]
def letters : List Nat := [97, 98, 99, 100, 101, 102, 103, 104, 105, 106, 107, 108, 109, 110, 111, 112, 113, 114, 115, 116, 117, 118, 119, 120, 121, 122]
def inL : D → Bool
  | .str [c] => decide (c ∈ letters)
  | _ => false
def isW : D → Bool
  | .str s => (decide (1 ≤ s.length) && decide (s.length ≤ 6)) && s.all fun c => decide (c ∈ letters)
  | _ => false
theorem all_L (s : List Nat) : (s.map fun c => D.str [c]).all inL = s.all fun c => decide (c ∈ letters) := by rw [List.all_map]; rfl
theorem fine_str {s : List Nat} (h : fine (.str s) = true) : s.all (· < 0x110000) = true ∧ s.length ≤ 1000 := by
  have h : (s.all (· < 0x110000) && decide (s.length ≤ 1000)) = true := h
  rw [Bool.and_eq_true, decide_eq_true_eq] at h
  exact h
theorem len_str {s : List Nat} (h : s.length ≤ 1000) : bLen [.str s] = some (.int s.length) := by
  show (if s.length ≤ sizeL then some (D.int s.length) else none) = _
  rw [if_pos (by show _ ≤ 16777216; omega)]
theorem word_ok (v : D) (hv : fine v = true) (B L : Hs) : F_is_word [.d v] B L = .ok (.d (.bl (isW v))) L := by
  unfold F_is_word
  cases v with
  | str s =>
    obtain ⟨f1, f2⟩ := fine_str hv
    refine x_pfn rfl fun B' => ?_
    have e : isW (.str s) = (if (!true || !(decide ((1 : Int) ≤ s.length) && decide ((s.length : Int) ≤ 6))) = true then false else (s.map fun c => D.str [c]).all inL) := by
      rw [all_L]
      show ((decide (1 ≤ s.length) && decide (s.length ≤ 6)) && _) = _
      rw [show decide ((1 : Int) ≤ s.length) = decide (1 ≤ s.length) by rw [Bool.eq_iff_iff, decide_eq_true_eq, decide_eq_true_eq]; omega, show decide ((s.length : Int) ≤ 6) = decide (s.length ≤ 6) by rw [Bool.eq_iff_iff, decide_eq_true_eq, decide_eq_true_eq]; omega]
      cases decide (1 ≤ s.length) <;> cases decide (s.length ≤ 6) <;> rfl
    rw [e]
    refine z_retB (z_tOr (x_tNot (x_tE (x_1 (x_var rfl) rfl (isi_str hv)) rfl rfl)) fun _ => x_tNot (x_tE (z_chain x_c (x_B (x_cons (x_var rfl) x_nil) (x_vcons rfl x_vnil) (len_str f2)) rfl x_c rfl) rfl rfl)) (fun _ => x_c) fun _ => ?_
    refine x_ret (x_B (x_cons (x_comp (x_iE (x_var rfl) rfl rfl) (comp_map (f := fun x => .bl (inL x)) _ [] (fun x hx => ?_) ?_)) x_nil) (x_vcons rfl x_vnil) ?_)
    · obtain ⟨c, _, rfl⟩ := List.mem_map.mp hx
      exact x_2 (x_var rfl) x_c rfl rfl rfl
    · rw [List.length_map]; show 0 + _ ≤ _; omega
    · show (match allB ([] ++ (s.map fun c => D.str [c]).map fun x => D.bl (inL x)) with | some bs => some (D.bl (bs.all id)) | none => none) = _
      rw [List.nil_append, allB_map]
      show some (D.bl (((s.map fun c => D.str [c]).map inL).all id)) = _
      rw [all_id]
  | _ =>
    first
      | (cases hv; done)
      | exact x_pfn rfl fun B' => z_retB (k := true) (p := false) (q := false) (z_tOr (k := true) (k' := false) (x_tNot (k := false) (x_tE (x_1 (x_var rfl) rfl rfl) rfl rfl)) (fun z => by cases z)) (fun _ => x_c) (fun z => by cases z)
theorem okStrs (s : List Nat) (h : s.all (· < 0x110000) = true) (p : D → Bool) : okD (.lst ((s.map fun c => D.str [c]).filter p)) = true := by
  have h1 : ∀ x ∈ (s.map fun c => D.str [c]).filter p, dOk x = true ∧ dep x = 0 := fun x hx => by
    obtain ⟨hx, _⟩ := List.mem_filter.mp hx
    obtain ⟨c, hc, rfl⟩ := List.mem_map.mp hx
    refine ⟨?_, rfl⟩
    show ([c].all (· < 0x110000)) = true
    have := List.all_eq_true.mp h c hc
    simp only [List.all_cons, List.all_nil, Bool.and_true]
    exact this
  generalize (s.map fun c => D.str [c]).filter p = l at h1
  have h2 : dOks l = true ∧ deps l = 0 := by
    induction l with
    | nil => exact ⟨rfl, rfl⟩
    | cons x l ih =>
      obtain ⟨a1, a2⟩ := h1 x List.mem_cons_self
      obtain ⟨b1, b2⟩ := ih fun y hy => h1 y (List.mem_cons_of_mem _ hy)
      refine ⟨?_, ?_⟩
      · show (dOk x && dOks l) = true
        rw [a1, b1]; rfl
      · show max (dep x) (deps l) = 0
        rw [a2, b2]; rfl
  show (dOks l && decide (deps l + 1 ≤ 64)) = true
  rw [h2.1, h2.2]
  rfl
theorem eq_nil {l : List D} (h : okD (.lst l) = true) : opEq (.lst l) (.lst []) = some (.bl l.isEmpty) := by
  rw [o_eq (by rw [h]; rfl)]
  cases l <;> rfl
theorem fil_empty (p : D → Bool) (l : List D) : (l.filter fun x => !p x).isEmpty = l.all p := by
  induction l with
  | nil => rfl
  | cons x l ih =>
    cases h : p x with
    | true => rw [List.filter_cons_of_neg (by rw [h]; decide), ih, List.all_cons, h]; rfl
    | false => rw [List.filter_cons_of_pos (by rw [h]; rfl), List.all_cons, h]; rfl
def rng : D → Bool
  | .int i => decide (-99 ≤ i) && decide (i ≤ 99)
  | _ => false
def isV (v : D) : Bool := (isInt v && !isBl v) && rng v
theorem integer_ok (v : D) (hv : fine v = true) (B L : Hs) : F_is_integer [.d v] B L = .ok (.d (.bl (isInt v && !isBl v))) L := by
  unfold F_is_integer
  exact x_pfn rfl fun B' => x_ret (z_and (x_1 (x_var rfl) rfl (isi_int hv)) fun _ => x_not (x_1 (x_var rfl) rfl (isi_bl hv)) rfl rfl)
theorem rng_ok {v : D} {B L : Hs} {ρ : Sl} (h : (isInt v && !isBl v) = true) (h0 : ρ[0]? = some (some (.d v))) : eChain opLe opLe (e1 opNeg (eC (.int 99))) (eVar 0) (eC (.int 99)) B ρ L = .ok (.d (.bl (rng v))) L := by
  cases v with
  | int i => exact z_chain (x_1 x_c rfl rfl) (x_var h0) rfl x_c rfl
  | _ => cases h
theorem value_ok (v : D) (hv : fine v = true) (B L : Hs) : F_is_value [.d v] B L = .ok (.d (.bl (isV v))) L := by
  unfold F_is_value
  exact x_pfn rfl fun B' => x_ret (z_and (x_call (x_cons (x_var rfl) x_nil) rfl (integer_ok v hv _ _)) fun h => rng_ok h rfl)
/-! heads -/
def head (v : D) (hs : List (List Nat)) (n : Nat) : Bool := isTup v && (decide (ln v = n) && (isStr (it v 0) && hs.any fun s => deq (it v 0) s))
theorem in_heads {v : D} {hs : List (List Nat)} (h : isStr v = true) (hv : fine v = true) (ho : okD (.lst (hs.map .str)) = true) : opIn v (.lst (hs.map .str)) = some (.bl (hs.any fun s => deq v s)) := by
  cases v with
  | str t =>
    have f := (fine_str hv).1
    have h1 : okD (.str t) = true := by
      show (t.all (· < 0x110000) && decide (0 ≤ 64)) = true
      rw [f]
      rfl
    show (if (okD (.str t) && okD (.lst (hs.map .str))) = true then some (D.bl ((hs.map .str).any fun y => eqD y (.str t))) else none) = _
    rw [h1, ho, if_pos (show (true && true) = true from rfl), List.any_map]
    congr 3
    funext s
    show decide (s = t) = decide (t = s)
    rw [Bool.eq_iff_iff, decide_eq_true_eq, decide_eq_true_eq]
    exact eq_comm
  | _ => cases h
theorem head_any (v : D) (hs : List (List Nat)) (n : Nat) : head v hs n = hs.any fun s => tree v s n := by
  unfold head tree
  induction hs with
  | nil => simp
  | cons s hs ih =>
    rw [List.any_cons, List.any_cons, ← ih]
    cases isTup v <;> cases decide (ln v = n) <;> cases isStr (it v 0) <;> simp
theorem head_one (v : D) (s : List Nat) (n : Nat) : head v [s] n = tree v s n := by
  rw [head_any]
  simp
theorem tree_tup {v : D} {s : List Nat} {n : Nat} (h : tree v s n = true) : isTup v = true ∧ ln v = n ∧ it v 0 = .str s := by
  unfold tree at h
  rw [Bool.and_eq_true, Bool.and_eq_true, Bool.and_eq_true, decide_eq_true_eq] at h
  refine ⟨h.1, h.2.1, ?_⟩
  have h4 := h.2.2.2
  generalize it v 0 = x at h4 ⊢
  cases x with
  | str t =>
    have h4 : decide (t = s) = true := h4
    rw [of_decide_eq_true h4]
  | _ => cases h4
theorem any_tree {v : D} {hs : List (List Nat)} {n : Nat} (h : (hs.any fun s => tree v s n) = true) : isTup v = true ∧ ln v = n := by
  obtain ⟨s, _, hs⟩ := List.any_eq_true.mp h
  exact ⟨(tree_tup hs).1, (tree_tup hs).2.1⟩
theorem any_ok {v : D} {sgs : List (List Nat)} {n i : Nat} {B : Hs} {ρ : Sl} (hn : 0 < n) (hv : fine v = true) (hl : sgs.length ≤ 1000) (h0 : ∀ x, ((wipe ρ [i]).set i (some (.d x)))[0]? = some (some (.d v))) (hi : ∀ x, ((wipe ρ [i]).set i (some (.d x)))[i]? = some (some (.d x))) :
    eB bAny (aCons (eComp (iE (eC (.tup (sgs.map .str)))) (gVar i) (tYes) (eCall 3 F_is_tree (aCons (eVar 0) (aCons (eVar i) (aCons (eC (.int n)) (aNil))))) [i]) (aNil)) B ρ [] = .ok (.d (.bl (sgs.any fun s => tree v s n))) [] := by
  refine x_B (x_cons (x_comp (x_iE x_c rfl rfl) (comp_map (f := fun x => .bl (match x with | .str s => tree v s n | _ => false)) _ [] (fun x hx => ?_) ?_)) x_nil) (x_vcons rfl x_vnil) ?_
  · obtain ⟨s, _, rfl⟩ := List.mem_map.mp hx
    exact x_call (x_cons (x_var (h0 _)) (x_cons (x_var (hi _)) (x_cons x_c x_nil))) rfl (tree_ok v s n hn hv _ _)
  · rw [List.length_map]; show 0 + _ ≤ _; omega
  · show (match allB ([] ++ (sgs.map D.str).map fun x => D.bl (match x with | .str s => tree v s n | _ => false)) with | some bs => some (D.bl (bs.any id)) | none => none) = _
    rw [List.nil_append, allB_map]
    show some (D.bl (((sgs.map D.str).map fun x => match x with | .str s => tree v s n | _ => false).any id)) = _
    rw [List.map_map, List.any_map]
    rfl
/-! expressions -/
def isE : Nat → D → Bool
  | 0, _ => false
  | d + 1, v => if tree v sVal 2 = true then isV (it v 1) else if tree v sRow 2 = true then isW (it v 1) else if ([[43], [45], [42]].any fun s => tree v s 3) = true then (isE d (it v 1) && isE d (it v 2)) else tree v sBody 1
theorem sub1 (d : Nat) : opSub (.int ((d + 1 : Nat) : Int)) (.int 1) = some (.int (d : Int)) := by
  show some (D.int (((d + 1 : Nat) : Int) - 1)) = _
  congr 2
  omega
theorem eq00 : opEq (.int ((0 : Nat) : Int)) (.int 0) = some (.bl true) := rfl
theorem eq0s (d : Nat) : opEq (.int ((d + 1 : Nat) : Int)) (.int 0) = some (.bl false) := by
  show some (D.bl (decide (((d + 1 : Nat) : Int) = 0))) = _
  rw [decide_eq_false (by omega)]
theorem isE_ok : ∀ (d n : Nat) (v : D), d < n → fine v = true → ∀ B L, R_is_expression n [.d v, .d (.int d)] B L = .ok (.d (.bl (isE d v))) L
  | _, 0, _, h, _, _, _ => by omega
  | 0, n + 1, v, _, hv, B, L => by
    rw [R_is_expression]
    exact x_pfn rfl fun B' => z_retB (k := true) (p := false) (q := false) (x_tE (x_2 (x_var rfl) x_c rfl rfl eq00) rfl rfl) (fun _ => x_c) (fun z => by cases z)
  | d + 1, n + 1, v, h, hv, B, L => by
    rw [R_is_expression]
    refine x_pfn rfl fun B' => ?_
    refine (z_retB (k := false) (p := false) (q := isE (d + 1) v) (x_tE (x_2 (x_var rfl) x_c rfl rfl (eq0s d)) rfl rfl) (fun z => by cases z) fun _ => ?_)
    unfold isE
    refine z_retB (x_tE (x_call (x_cons (x_var rfl) (x_cons x_c (x_cons x_c x_nil))) rfl (tree_ok v sVal 2 (by decide) hv _ _)) rfl rfl) (fun h1 => ?_) fun _ => ?_
    · obtain ⟨t1, t2, _⟩ := tree_tup h1
      exact x_call (x_cons (x_2 (x_var rfl) x_c rfl rfl (ix_tup (i := 1) t1 (by omega))) x_nil) rfl (value_ok _ (fine_it hv 1) _ _)
    refine z_retB (x_tE (x_call (x_cons (x_var rfl) (x_cons x_c (x_cons x_c x_nil))) rfl (tree_ok v sRow 2 (by decide) hv _ _)) rfl rfl) (fun h1 => ?_) fun _ => ?_
    · obtain ⟨t1, t2, _⟩ := tree_tup h1
      exact x_call (x_cons (x_2 (x_var rfl) x_c rfl rfl (ix_tup (i := 1) t1 (by omega))) x_nil) rfl (word_ok _ (fine_it hv 1) _ _)
    refine z_retB (x_tE (any_ok (sgs := [[43], [45], [42]]) (n := 3) (by decide) hv (by decide) (fun _ => rfl) (fun _ => rfl)) rfl rfl) (fun h1 => ?_) fun _ => ?_
    · obtain ⟨t1, t2⟩ := any_tree h1
      refine z_and (x_call (x_cons (x_2 (x_var rfl) x_c rfl rfl (ix_tup (i := 1) t1 (by omega))) (x_cons (x_2 (x_var rfl) x_c rfl rfl (sub1 d)) x_nil)) rfl (isE_ok d n _ (by omega) (fine_it hv 1) _ _)) fun _ => ?_
      exact x_call (x_cons (x_2 (x_var rfl) x_c rfl rfl (ix_tup (i := 2) t1 (by omega))) (x_cons (x_2 (x_var rfl) x_c rfl rfl (sub1 d)) x_nil)) rfl (isE_ok d n _ (by omega) (fine_it hv 2) _ _)
    exact x_ret (x_call (x_cons (x_var rfl) (x_cons x_c (x_cons x_c x_nil))) rfl (tree_ok v sBody 1 (by decide) hv _ _))
end K01
end Ev

set_option linter.all false
set_option maxRecDepth 100000
set_option maxHeartbeats 1000000
namespace Ev
namespace K01
theorem tree_none {v : D} {s : List Nat} {n : Nat} (hn : 0 < n) (h : (!isTup v || decide (ln v = 0)) = true) : tree v s n = false := by
  cases e : tree v s n with
  | false => rfl
  | true =>
    obtain ⟨t1, t2, _⟩ := tree_tup e
    rw [t1] at h
    have h : decide (ln v = 0) = true := h
    have := of_decide_eq_true h
    omega
theorem isE_none {v : D} (d : Nat) (h : (!isTup v || decide (ln v = 0)) = true) : isE d v = false := by
  cases d with
  | zero => rfl
  | succ d =>
    unfold isE
    rw [tree_none (by decide) h, tree_none (by decide) h, tree_none (by decide) h]
    have : ([[43], [45], [42]].any fun s => tree v s 3) = false := by
      simp only [List.any_cons, List.any_nil, tree_none (show 0 < 3 by decide) h, Bool.or_false]
    rw [this]
    rfl
theorem len0 {v : D} : decide ((ln v : Int) = 0) = decide (ln v = 0) := d_eqN (ln v) 0
theorem E6 (v : D) (hv : fine v = true) (B L : Hs) : F_is_expression [.d v, .d (.int 6)] B L = .ok (.d (.bl (isE 6 v))) L := isE_ok 6 12 v (by decide) hv B L
/-! conditions -/
def sAnd : List Nat := [97, 110, 100]
def sOr : List Nat := [111, 114]
def isC : Nat → D → Bool
  | 0, _ => false
  | d + 1, v => if ([[60], [61]].any fun s => tree v s 3) = true then (isE 6 (it v 1) && isE 6 (it v 2)) else if ([sAnd, sOr].any fun s => tree v s 3) = true then (isC d (it v 1) && isC d (it v 2)) else (tree v sNot 2 && isC d (it v 1))
theorem isC_ok : ∀ (d n : Nat) (v : D), d < n → fine v = true → ∀ B L, R_is_condition n [.d v, .d (.int d)] B L = .ok (.d (.bl (isC d v))) L
  | _, 0, _, h, _, _, _ => by omega
  | 0, n + 1, v, _, hv, B, L => by
    rw [R_is_condition]
    exact x_pfn rfl fun B' => z_retB (k := true) (p := false) (q := false) (x_tE (x_2 (x_var rfl) x_c rfl rfl eq00) rfl rfl) (fun _ => x_c) (fun z => by cases z)
  | d + 1, n + 1, v, h, hv, B, L => by
    rw [R_is_condition]
    refine x_pfn rfl fun B' => ?_
    refine (z_retB (k := false) (p := false) (q := isC (d + 1) v) (x_tE (x_2 (x_var rfl) x_c rfl rfl (eq0s d)) rfl rfl) (fun z => by cases z) fun _ => ?_)
    unfold isC
    refine z_retB (x_tE (any_ok (sgs := [[60], [61]]) (n := 3) (by decide) hv (by decide) (fun _ => rfl) (fun _ => rfl)) rfl rfl) (fun h1 => ?_) fun _ => ?_
    · obtain ⟨t1, t2⟩ := any_tree h1
      refine z_and (x_call (x_cons (x_2 (x_var rfl) x_c rfl rfl (ix_tup (i := 1) t1 (by omega))) (x_cons x_c x_nil)) rfl (E6 _ (fine_it hv 1) _ _)) fun _ => ?_
      exact x_call (x_cons (x_2 (x_var rfl) x_c rfl rfl (ix_tup (i := 2) t1 (by omega))) (x_cons x_c x_nil)) rfl (E6 _ (fine_it hv 2) _ _)
    refine z_retB (x_tE (any_ok (sgs := [sAnd, sOr]) (n := 3) (by decide) hv (by decide) (fun _ => rfl) (fun _ => rfl)) rfl rfl) (fun h1 => ?_) fun _ => ?_
    · obtain ⟨t1, t2⟩ := any_tree h1
      refine z_and (x_call (x_cons (x_2 (x_var rfl) x_c rfl rfl (ix_tup (i := 1) t1 (by omega))) (x_cons (x_2 (x_var rfl) x_c rfl rfl (sub1 d)) x_nil)) rfl (isC_ok d n _ (by omega) (fine_it hv 1) _ _)) fun _ => ?_
      exact x_call (x_cons (x_2 (x_var rfl) x_c rfl rfl (ix_tup (i := 2) t1 (by omega))) (x_cons (x_2 (x_var rfl) x_c rfl rfl (sub1 d)) x_nil)) rfl (isC_ok d n _ (by omega) (fine_it hv 2) _ _)
    refine x_ret (z_and (x_call (x_cons (x_var rfl) (x_cons x_c (x_cons x_c x_nil))) rfl (tree_ok v sNot 2 (by decide) hv _ _)) fun h1 => ?_)
    obtain ⟨t1, t2, _⟩ := tree_tup h1
    exact x_call (x_cons (x_2 (x_var rfl) x_c rfl rfl (ix_tup (i := 1) t1 (by omega))) (x_cons (x_2 (x_var rfl) x_c rfl rfl (sub1 d)) x_nil)) rfl (isC_ok d n _ (by omega) (fine_it hv 1) _ _)
theorem C6 (v : D) (hv : fine v = true) (B L : Hs) : F_is_condition [.d v, .d (.int 6)] B L = .ok (.d (.bl (isC 6 v))) L := isC_ok 6 12 v (by decide) hv B L
/-! deeds -/
def its : D → List D
  | .tup xs => xs
  | _ => []
def isNo : D → Bool
  | .non => true
  | _ => false
def isDd (are : D → Bool) (i : Nat) (v : D) : Bool := if tree v sSet 3 = true then (isW (it v 1) && isE 6 (it v 2)) else if tree v sSend 4 = true then (isW (it v 1) && ((isNo (it v 2) || isW (it v 2)) && isE 6 (it v 3))) else
  if tree v sIfS 4 = true then ((decide (0 < i) && isC 6 (it v 1)) && (are (it v 2) && are (it v 3))) else tree v sFail 1
def areD : Nat → D → Bool
  | 0, v => isTup v && (its v).all (isDd (fun _ => false) 0)
  | i + 1, v => isTup v && (its v).all (isDd (areD i) (i + 1))
def isD : Nat → D → Bool
  | 0 => isDd (fun _ => false) 0
  | i + 1 => isDd (areD i) (i + 1)
theorem areD_eq (i : Nat) (v : D) : areD i v = (isTup v && (its v).all (isD i)) := by cases i <;> rfl
theorem isN_it (v : D) : isN (.d v) = isNo v := by cases v <;> rfl
theorem items_tup {v : D} (h : isTup v = true) : items v = some (its v) := by
  cases v <;> first | rfl | cases h
theorem fine_its {v : D} (h : fine v = true) : (its v).length ≤ 1000 ∧ ∀ x ∈ its v, fine x = true := by
  cases v with
  | tup xs => exact fine_tup h
  | _ => exact ⟨Nat.zero_le _, fun x hx => by cases hx⟩
theorem gt0 (i : Nat) : opGt (.int (i : Int)) (.int 0) = some (.bl (decide (0 < i))) := by
  show some (D.bl (decide ((0 : Int) < (i : Int)))) = _
  congr 2
  rw [Bool.eq_iff_iff, decide_eq_true_eq, decide_eq_true_eq]
  omega
theorem isD_step {i n : Nat} (v : D) (hv : fine v = true) (hr : ∀ j w, i = j + 1 → fine w = true → ∀ B L, R_are_deeds n [.d w, .d (.int j)] B L = .ok (.d (.bl (areD j w))) L) (B L : Hs) : R_is_deed (n + 1) [.d v, .d (.int i)] B L = .ok (.d (.bl (isD i v))) L := by
  rw [R_is_deed]
  refine x_pfn rfl fun B' => ?_
  have e : isD i v = (if tree v sSet 3 = true then (isW (it v 1) && isE 6 (it v 2)) else if tree v sSend 4 = true then (isW (it v 1) && ((isNo (it v 2) || isW (it v 2)) && isE 6 (it v 3))) else
    if tree v sIfS 4 = true then ((decide (0 < i) && isC 6 (it v 1)) && (areD (i - 1) (it v 2) && areD (i - 1) (it v 3))) else tree v sFail 1) := by
    cases i with
    | zero => rfl
    | succ i => rfl
  rw [e]
  refine z_retB (x_tE (x_call (x_cons (x_var rfl) (x_cons x_c (x_cons x_c x_nil))) rfl (tree_ok v sSet 3 (by decide) hv _ _)) rfl rfl) (fun h1 => ?_) fun _ => ?_
  · obtain ⟨t1, t2, _⟩ := tree_tup h1
    refine z_and (x_call (x_cons (x_2 (x_var rfl) x_c rfl rfl (ix_tup (i := 1) t1 (by omega))) x_nil) rfl (word_ok _ (fine_it hv 1) _ _)) fun _ => ?_
    exact x_call (x_cons (x_2 (x_var rfl) x_c rfl rfl (ix_tup (i := 2) t1 (by omega))) (x_cons x_c x_nil)) rfl (E6 _ (fine_it hv 2) _ _)
  refine z_ret2B (x_tE (x_call (x_cons (x_var rfl) (x_cons x_c (x_cons x_c x_nil))) rfl (tree_ok v sSend 4 (by decide) hv _ _)) rfl rfl) (fun h1 => ?_) fun _ => ?_
  · obtain ⟨t1, t2, _⟩ := tree_tup h1
    have i2 := ix_tup (i := 2) t1 (by omega)
    refine x_seq (x_asg (w := .d (.bl (isNo (it v 2) || isW (it v 2)))) (z_or (by
      have := x_isN (B := B') (L := []) (ρ := [some (.d v), some (.d (.int i)), none, none]) (a := e2 opIx (eVar 0) (eC (.int 2))) (x := .d (it v 2)) (L1 := []) (x_2 (x := .d v) (x_var rfl) x_c rfl rfl i2)
      rw [isN_it] at this
      exact this) fun _ => x_call (x_cons (x_2 (x_var rfl) x_c rfl rfl i2) x_nil) rfl (word_ok _ (fine_it hv 2) _ _)) x_gvar) (x_thenN ?_)
    refine x_ret (z_and (x_call (x_cons (x_2 (x_var rfl) x_c rfl rfl (ix_tup (i := 1) t1 (by omega))) x_nil) rfl (word_ok _ (fine_it hv 1) _ _)) fun _ => z_and (x_var rfl) fun _ => ?_)
    exact x_call (x_cons (x_2 (x_var rfl) x_c rfl rfl (ix_tup (i := 3) t1 (by omega))) (x_cons x_c x_nil)) rfl (E6 _ (fine_it hv 3) _ _)
  refine z_ret2B (x_tE (x_call (x_cons (x_var rfl) (x_cons x_c (x_cons x_c x_nil))) rfl (tree_ok v sIfS 4 (by decide) hv _ _)) rfl rfl) (fun h1 => ?_) fun _ => ?_
  · obtain ⟨t1, t2, _⟩ := tree_tup h1
    refine x_seq (x_asg (w := .d (.bl (decide (0 < i) && isC 6 (it v 1)))) (z_and (x_2 (x_var rfl) x_c rfl rfl (gt0 i)) fun _ => x_call (x_cons (x_2 (x_var rfl) x_c rfl rfl (ix_tup (i := 1) t1 (by omega))) (x_cons x_c x_nil)) rfl (C6 _ (fine_it hv 1) _ _)) x_gvar) (x_thenN ?_)
    refine x_ret (z_and (x_var rfl) fun h2 => ?_)
    rw [Bool.and_eq_true, decide_eq_true_eq] at h2
    obtain ⟨j, rfl⟩ : ∃ j, i = j + 1 := ⟨i - 1, by omega⟩
    refine z_and (x_call (x_cons (x_2 (x_var rfl) x_c rfl rfl (ix_tup (i := 2) t1 (by omega))) (x_cons (x_2 (x_var rfl) x_c rfl rfl (sub1 j)) x_nil)) rfl (hr j _ rfl (fine_it hv 2) _ _)) fun _ => ?_
    exact x_call (x_cons (x_2 (x_var rfl) x_c rfl rfl (ix_tup (i := 3) t1 (by omega))) (x_cons (x_2 (x_var rfl) x_c rfl rfl (sub1 j)) x_nil)) rfl (hr j _ rfl (fine_it hv 3) _ _)
  exact x_ret (x_call (x_cons (x_var rfl) (x_cons x_c (x_cons x_c x_nil))) rfl (tree_ok v sFail 1 (by decide) hv _ _))
theorem all_step {v : D} {i n : Nat} (hv : fine v = true) (hd : ∀ x, fine x = true → ∀ B L, R_is_deed n [.d x, .d (.int i)] B L = .ok (.d (.bl (isD i x))) L) (B L : Hs) : R_are_deeds (n + 1) [.d v, .d (.int i)] B L = .ok (.d (.bl (areD i v))) L := by
  rw [R_are_deeds, areD_eq]
  refine x_pfn rfl fun B' => x_ret (z_and (x_1 (x_var rfl) rfl (isi_tup hv)) fun h1 => ?_)
  obtain ⟨f1, f2⟩ := fine_its hv
  refine x_B (x_cons (x_comp (x_iE (x_var rfl) rfl (items_tup h1)) (comp_map (f := fun x => .bl (isD i x)) _ [] (fun x hx => ?_) ?_)) x_nil) (x_vcons rfl x_vnil) ?_
  · exact x_call (x_cons (x_var rfl) (x_cons (x_var rfl) x_nil)) rfl (hd x (f2 x hx) _ _)
  · show 0 + _ ≤ _; omega
  · show (match allB ([] ++ (its v).map fun x => D.bl (isD i x)) with | some bs => some (D.bl (bs.all id)) | none => none) = _
    rw [List.nil_append, allB_map]
    show some (D.bl (((its v).map (isD i)).all id)) = _
    rw [all_id]
theorem areD_ok : ∀ (i n : Nat) (v : D), 2 * i + 2 ≤ n → fine v = true → ∀ B L, R_are_deeds n [.d v, .d (.int i)] B L = .ok (.d (.bl (areD i v))) L
  | 0, n, v, h, hv, B, L => by
    obtain ⟨n, rfl⟩ : ∃ m, n = m + 1 + 1 := ⟨n - 2, by omega⟩
    exact all_step hv (fun x hx B L => isD_step x hx (fun j w z => by omega) B L) B L
  | i + 1, n, v, h, hv, B, L => by
    obtain ⟨n, rfl⟩ : ∃ m, n = m + 1 + 1 := ⟨n - 2, by omega⟩
    refine all_step hv (fun x hx B L => isD_step x hx (fun j w z hw B L => ?_) B L) B L
    have : j = i := by omega
    subst this
    exact areD_ok j n w (by omega) hw B L
end K01
end Ev

set_option linter.all false
set_option maxRecDepth 100000
set_option maxHeartbeats 1000000
namespace Ev
namespace K01
theorem tree_excl {v : D} {s s' : List Nat} {n n' : Nat} (h : tree v s n = true) (hs : s ≠ s') : tree v s' n' = false := by
  cases e : tree v s' n' with
  | false => rfl
  | true =>
    have a := (tree_tup h).2.2
    have b := (tree_tup e).2.2
    rw [a] at b
    injection b with b
    exact absurd b hs
theorem isD_eq (i : Nat) (v : D) : isD i v = (if tree v sSet 3 = true then (isW (it v 1) && isE 6 (it v 2)) else if tree v sSend 4 = true then (isW (it v 1) && ((isNo (it v 2) || isW (it v 2)) && isE 6 (it v 3))) else
    if tree v sIfS 4 = true then ((decide (0 < i) && isC 6 (it v 1)) && (areD (i - 1) (it v 2) && areD (i - 1) (it v 3))) else tree v sFail 1) := by
  cases i <;> rfl
theorem eq_nil0 {l : List D} : opEq (.lst l) (.lst []) = some (.bl l.isEmpty) := rfl
/-! counts -/
def isIf (x : D) : Bool := deq (it x 0) sIfS
def cnt : Nat → D → Int
  | 0, v => ln v
  | i + 1, v => ln v + (((its v).filter isIf).map fun x => cnt i (it x 2) + cnt i (it x 3)).sum
theorem isD_tree {i : Nat} {x : D} (h : isD i x = true) : ∃ s n, 0 < n ∧ tree x s n = true := by
  rw [isD_eq] at h
  split at h
  · exact ⟨_, 3, by decide, ‹_›⟩
  · split at h
    · exact ⟨_, 4, by decide, ‹_›⟩
    · split at h
      · exact ⟨_, 4, by decide, ‹_›⟩
      · exact ⟨_, 1, by decide, h⟩
theorem isD_if {i : Nat} {x : D} (h : isD i x = true) (hi : isIf x = true) : ∃ j, i = j + 1 ∧ isTup x = true ∧ ln x = 4 ∧ areD j (it x 2) = true ∧ areD j (it x 3) = true := by
  have no : ∀ {s n}, s ≠ sIfS → tree x s n = true → False := fun {s n} hs ht => by
    have a := (tree_tup ht).2.2
    unfold isIf at hi
    rw [a] at hi
    have hi : decide (s = sIfS) = true := hi
    exact hs (of_decide_eq_true hi)
  rw [isD_eq] at h
  split at h
  · exact (no (s := sSet) (n := 3) (by decide) ‹_›).elim
  · split at h
    · exact (no (s := sSend) (n := 4) (by decide) ‹_›).elim
    · split at h
      · rename_i ht
        obtain ⟨t1, t2, _⟩ := tree_tup ht
        rw [Bool.and_eq_true, Bool.and_eq_true, Bool.and_eq_true, decide_eq_true_eq] at h
        exact ⟨i - 1, by omega, t1, t2, h.2.1, h.2.2⟩
      · exact (no (by decide) h).elim
theorem allI_ints (l : List Int) : allI (l.map D.int) = some l := by
  induction l with
  | nil => rfl
  | cons i l ih =>
    show (match allI (l.map D.int) with | some is => some (i :: is) | none => none) = _
    rw [ih]
theorem sum_ints (l : List Int) : bSum [.lst (l.map D.int)] = some (.int l.sum) := by
  show (match allI (l.map D.int) with | some is => some (D.int is.sum) | none => none) = _
  rw [allI_ints]
def inner (i : Nat) (x : D) : Int := match i with
  | 0 => 0
  | i + 1 => cnt i (it x 2) + cnt i (it x 3)
theorem cnt_eq {i : Nat} {v : D} (h : areD i v = true) : cnt i v = ln v + (((its v).filter isIf).map (inner i)).sum := by
  cases i with
  | succ i => rfl
  | zero =>
    have e : (its v).filter isIf = [] := by
      rw [List.filter_eq_nil_iff]
      intro x hx hi
      rw [areD_eq, Bool.and_eq_true] at h
      obtain ⟨j, z, _⟩ := isD_if (List.all_eq_true.mp h.2 x hx) hi
      omega
    rw [e]
    show (ln v : Int) = ln v + 0
    omega
theorem cnt_ok : ∀ (i n : Nat) (v : D), i < n → fine v = true → areD i v = true → ∀ B L, R_count_deeds n [.d v] B L = .ok (.d (.int (cnt i v))) L
  | _, 0, _, h, _, _, _, _ => by omega
  | i, n + 1, v, h, hv, ha, B, L => by
    rw [R_count_deeds]
    obtain ⟨f1, f2⟩ := fine_its hv
    have ha' := ha
    rw [areD_eq, Bool.and_eq_true] at ha'
    obtain ⟨h1, h2⟩ := ha'
    refine x_pfn rfl fun B' => x_seq (x_asg (w := .d (.lst ((((its v).filter isIf).map (inner i)).map D.int))) (L1 := []) (x_comp (x_iE (x_var rfl) rfl (items_tup h1)) ?_) x_gvar) (x_thenN ?_)
    · refine (comp_fil (f := fun x => .int (inner i x)) (p := isIf) _ [] (fun x hx => ?_) (fun x hx hi => ?_) ?_).trans ?_
      · obtain ⟨s, m, hm, ht⟩ := isD_tree (List.all_eq_true.mp h2 x hx)
        obtain ⟨t1, t2, t3⟩ := tree_tup ht
        exact x_tE (x_2 (x_2 (x_var rfl) x_c rfl rfl (ix_tup (i := 0) t1 (by omega))) x_c rfl rfl (eq_str (by rw [t3]; rfl))) rfl rfl
      · obtain ⟨j, rfl, t1, t2, a2, a3⟩ := isD_if (List.all_eq_true.mp h2 x hx) hi
        exact x_2 (x_call (x_cons (x_2 (x_var rfl) x_c rfl rfl (ix_tup (i := 2) t1 (by omega))) x_nil) rfl (cnt_ok j n _ (by omega) (fine_it (f2 x hx) 2) a2 _ _)) (x_call (x_cons (x_2 (x_var rfl) x_c rfl rfl (ix_tup (i := 3) t1 (by omega))) x_nil) rfl (cnt_ok j n _ (by omega) (fine_it (f2 x hx) 3) a3 _ _)) rfl rfl rfl
      · show 0 + _ ≤ _; omega
      · rw [List.nil_append, List.map_map]
        rfl
    · rw [cnt_eq ha]
      exact x_ret (x_2 (x_B (x_cons (x_var rfl) x_nil) (x_vcons rfl x_vnil) (len_tup h1)) (x_B (x_cons (x_var rfl) x_nil) (x_vcons rfl x_vnil) (sum_ints _)) rfl rfl rfl)
theorem sum_if (p : D → Bool) (f : D → Int) : ∀ l : List D, (l.map fun x => if (!p x) = true then 1 else 1 + f x).sum = (l.length : Int) + ((l.filter p).map f).sum
  | [] => rfl
  | x :: l => by
    rw [List.map_cons, List.sum_cons, sum_if p f l, List.length_cons]
    cases h : p x with
    | true =>
      rw [List.filter_cons_of_pos h, List.map_cons, List.sum_cons]
      show 1 + f x + _ = _
      omega
    | false =>
      rw [List.filter_cons_of_neg (by rw [h]; exact Bool.false_ne_true)]
      show 1 + _ = _
      omega
theorem ln_its {v : D} (h : isTup v = true) : ln v = (its v).length := by
  cases v <;> first | rfl | cases h
theorem ne_str {v : D} {s : List Nat} (h : isStr v = true) : opNe v (.str s) = some (.bl (!deq v s)) := by
  cases v <;> first | rfl | cases h
def isH (v : D) : Bool := areD 3 v && decide (cnt 3 v ≤ 12)
theorem handler_ok (v : D) (hv : fine v = true) (B L : Hs) : F_is_handler [.d v] B L = .ok (.d (.bl (isH v))) L := by
  unfold F_is_handler
  exact x_pfn rfl fun B' => x_ret (z_and (x_call (x_cons (x_var rfl) (x_cons x_c x_nil)) rfl (areD_ok 3 12 v (by decide) hv _ _)) fun h => x_2 (x_call (x_cons (x_var rfl) x_nil) rfl (cnt_ok 3 12 v (by decide) hv h _ _)) x_c rfl rfl rfl)
end K01
end Ev

set_option linter.all false
set_option maxRecDepth 100000
set_option maxHeartbeats 1000000
namespace Ev
namespace K01
abbrev sCells : List Nat := [99, 101, 108, 108, 115]
abbrev sAt : List Nat := [97, 116]
abbrev sRest : List Nat := [114, 101, 115, 116]
def pen (cs : List D) (b r : Int) : Ob := .dct [.str sCells, .str sAt, .str sRest] [.d (.lst cs), .d (.int b), .d (.int r)]
def dP (cs : List D) (b r : Int) : D := .dct [.str sCells, .str sAt, .str sRest] [.lst cs, .int b, .int r]
section
variable {cs : List D} {b r z : Int} {R : Hs}
theorem v_pen : vw [] (pen cs b r :: R) (.ref 0) = some (dP cs b r) := rfl
theorem i_rest : opIx (dP cs b r) (.str [114, 101, 115, 116]) = some (.int r) := rfl
theorem i_at : opIx (dP cs b r) (.str [97, 116]) = some (.int b) := rfl
theorem i_cells : opIx (dP cs b r) (.str [99, 101, 108, 108, 115]) = some (.lst cs) := rfl
theorem p_rest : putIn [] (pen cs b r :: R) (.ref 0) (.str [114, 101, 115, 116]) (.d (.int z)) = some (pen cs b z :: R) := rfl
theorem p_at : putIn [] (pen cs b r :: R) (.ref 0) (.str [97, 116]) (.d (.int z)) = some (pen cs z r :: R) := rfl
end
theorem p18 : opPow (.int 10) (.int 18) = some (.int 1000000000000000000) := rfl
theorem mulOk_l {m n : Int} (h : m.natAbs < 2 ^ 64) : mulOk m n = true := by
  unfold mulOk
  rw [decide_eq_true h]
  rfl
theorem mulOk_r {m n : Int} (h : n.natAbs < 2 ^ 64) : mulOk m n = true := by
  unfold mulOk
  rw [decide_eq_true h]
  cases decide (m.natAbs < 2 ^ 64) <;> rfl
theorem log2_400 {n : Nat} (h : n < 2 ^ 400) : n.log2 < 400 := by
  by_cases h0 : n = 0
  · subst h0; decide +kernel
  · exact (Nat.log2_lt h0).mpr h
theorem mulOk_s {m n : Int} (h1 : m.natAbs < 2 ^ 400) (h2 : n.natAbs < 2 ^ 400) : mulOk m n = true := by
  have a := log2_400 h1
  have b := log2_400 h2
  unfold mulOk
  rw [decide_eq_true (show m.natAbs.log2 + n.natAbs.log2 < 1000000 by omega), Bool.or_true]
theorem draw_rest (cs : List D) (b r m : Int) (R : Hs) (hr : 0 < r) (hm : 0 < m) (hg : m.natAbs.log2 < 9000) : F__law_draw [.ref 0, .d (.int m)] [] (pen cs b r :: R) = .ok (.d (.int (r % m))) (pen cs b (r / m) :: R) := by
  unfold F__law_draw
  refine x_fn rfl (r1 := .ret (.d (.int (r % m))) (pen cs b (r / m) :: R)) ?_ rfl
  (repeat' (first | (with_reducible first | exact v_pen | exact i_rest | exact i_at | exact i_cells | exact p_rest | exact p_at | exact p18 | exact r_ok | exact x_c | exact x_nil | exact x_vnil | exact x_pnil | exact x_snil | exact x_gvar | exact x_gnil | exact x_oNone | exact v_d | exact t_bl | exact t_int | exact t_non | exact o_add | exact o_sub | exact o_lt | exact o_le | exact o_gt | exact o_ge | exact o_eqI | exact o_eqS | exact o_neI | exact o_neS | exact b_len | exact b_lenT | exact b_lenS | exact b_abs | exact b_int | exact b_intB | exact b_max | exact b_min | exact w_nil | apply w_cons | exact x_fornil | exact x_turnB | exact x_turnR | exact e_ret | exact e_next | exact o_out | apply x_for | apply x_forcons | apply x_turnN | apply x_turnC | apply x_iE | apply x_fn | apply x_pure | apply a_lst | apply a_tup | apply x_seq | apply x_thenN | exact x_thenR | exact x_thenB | exact x_thenC | apply x_2 | apply x_1 | apply x_cons | apply x_B | apply x_vcons | apply x_star | apply x_tup | apply x_lst | apply x_call | apply x_callK | apply x_tE | apply x_tNot | apply x_not | apply x_isN | apply x_notN | apply x_oSome | apply x_sl | apply x_app | apply x_ext | apply x_pop | apply x_inN | apply x_gitem | apply x_listM | apply x_lstM | apply x_parN | apply x_tIf | exact l_own | exact l_some | apply x_tAnd | apply x_tOr | apply x_if | apply x_and | apply x_or | apply x_chain | apply x_ch2 | apply x_ex | apply x_pcons | apply x_dct | apply x_dctM | apply x_ret | apply x_expr | apply x_sif | apply x_asg | apply x_gtup | apply x_gcons | apply x_par | apply x_par3 | apply x_dput | apply o_mod | apply o_fdiv | apply o_mul | apply o_pow ) | ((with_reducible apply x_var); rfl) | ((with_reducible apply br1); (first | (apply decide_eq_true; omega) | (apply decide_eq_false; omega) | (apply decide_eq_true; with_reducible assumption) | (apply decide_eq_false; with_reducible assumption) | decide +kernel)) | ((with_reducible apply br0); (first | (apply decide_eq_true; omega) | (apply decide_eq_false; omega) | (apply decide_eq_true; with_reducible assumption) | (apply decide_eq_false; with_reducible assumption) | decide +kernel)) | ((with_reducible show List.length _ = _); rfl) | ((with_reducible show vw _ _ _ = _); rfl) | ((with_reducible show putAt _ _ _ _ _ = _); rfl) | ((with_reducible show putIn _ _ _ _ _ = _); rfl) | ((with_reducible show ownAll _ _ _ = _); rfl) | ((with_reducible show tupD _ = _); rfl) | ((with_reducible show seqD _ = _); rfl) | ((with_reducible show intD _ = _); rfl) | ((with_reducible show still _ _ _ = _); rfl) | ((with_reducible show items _ = _); rfl) | ((with_reducible show opIx _ _ = _); rfl) | ((with_reducible show (List.all _ _ && _) = true); rfl) | ((with_reducible show opItems _ = _); rfl) | ((with_reducible show bDict _ = _); rfl) | ((with_reducible show bIsi _ _ = _); rfl) | ((with_reducible show List.set _ _ _ = _); rfl) | ((with_reducible show seqS _ = _); rfl) | ((with_reducible show lstD _ = _); rfl) | ((with_reducible show setAll _ _ _ = _); rfl) | ((with_reducible show _ ≤ sizeL); exact Nat.le_of_ble_eq_true rfl)))
  · exact hm
  · exact ⟨hm, hg⟩
theorem ix_of {cs : List D} (hcs : ∀ d ∈ cs, ∃ i, d = D.int i) {j : Int} (h0 : 0 ≤ j) (h1 : j < (cs.length : Int)) : ∃ c : Int, opIx (.lst cs) (.int j) = some (.int c) := by
  have hl : j.toNat < cs.length := by omega
  obtain ⟨c, hc⟩ := hcs cs[j.toNat] (List.getElem_mem hl)
  refine ⟨c, ?_⟩
  show atI cs j = _
  unfold atI ixN
  rw [if_pos h0, if_pos h1]
  show cs[j.toNat]? = _
  rw [List.getElem?_eq_getElem hl, hc]
theorem drawn {S : SS} {cs : List D} {b r m y r' : Int} {R : Hs} (hm : 0 < m) (h : S [] [some (.ref 0), some (.d (.int m)), none, none, none, none] (pen cs b r :: R) = .ret (.d (.int (y % m))) (pen cs (b + 1) r' :: R)) :
    ∃ x r' : Int, fnBody 2 6 S [.ref 0, .d (.int m)] [] (pen cs b r :: R) = .ok (.d (.int x)) (pen cs (b + 1) r' :: R) ∧ 0 ≤ x ∧ x < m :=
  ⟨y % m, r', x_fn rfl h rfl, Int.emod_nonneg y (by omega), Int.emod_lt_of_pos y hm⟩
theorem ne_cs {cs : List D} : opNe (.lst cs) (.lst []) = some (.bl (!cs.isEmpty)) := rfl
theorem draw_new (cs : List D) (hcs : ∀ d ∈ cs, ∃ i, d = D.int i) (b r m : Int) (R : Hs) (hr : ¬ 0 < r) (hb : 0 ≤ b) (hb2 : b ≤ 1099511627776) (hm : 0 < m) (hg : m.natAbs.log2 < 9000) :
    ∃ x r' : Int, F__law_draw [.ref 0, .d (.int m)] [] (pen cs b r :: R) = .ok (.d (.int x)) (pen cs (b + 1) r' :: R) ∧ 0 ≤ x ∧ x < m := by
  unfold F__law_draw
  by_cases hs : 0 < (cs.length : Int)
  · have he : (!cs.isEmpty) = true := by
      cases cs with
      | nil => exact absurd hs (by decide)
      | cons _ _ => rfl
    obtain ⟨c, hc⟩ := ix_of hcs (j := b % (cs.length : Int)) (Int.emod_nonneg b (by omega)) (Int.emod_lt_of_pos b hs)
    by_cases h1 : b < (cs.length : Int)
    · by_cases h2 : 1000000000000000000 ≤ (if c < 0 then -c else c)
      · apply drawn hm
        (repeat' (first | (with_reducible first | exact v_pen | exact i_rest | exact i_at | exact i_cells | exact p_rest | exact p_at | exact p18 | exact hc | exact ne_cs | exact he | (apply br1; exact he) | exact r_ok | exact x_c | exact x_nil | exact x_vnil | exact x_pnil | exact x_snil | exact x_gvar | exact x_gnil | exact x_oNone | exact v_d | exact t_bl | exact t_int | exact t_non | exact o_add | exact o_sub | exact o_lt | exact o_le | exact o_gt | exact o_ge | exact o_eqI | exact o_eqS | exact o_neI | exact o_neS | exact b_len | exact b_lenT | exact b_lenS | exact b_abs | exact b_int | exact b_intB | exact b_max | exact b_min | exact w_nil | apply w_cons | exact x_fornil | exact x_turnB | exact x_turnR | exact e_ret | exact e_next | exact o_out | apply x_for | apply x_forcons | apply x_turnN | apply x_turnC | apply x_iE | apply x_fn | apply x_pure | apply a_lst | apply a_tup | apply x_seq | apply x_thenN | exact x_thenR | exact x_thenB | exact x_thenC | apply x_2 | apply x_1 | apply x_cons | apply x_B | apply x_vcons | apply x_star | apply x_tup | apply x_lst | apply x_call | apply x_callK | apply x_tE | apply x_tNot | apply x_not | apply x_isN | apply x_notN | apply x_oSome | apply x_sl | apply x_app | apply x_ext | apply x_pop | apply x_inN | apply x_gitem | apply x_listM | apply x_lstM | apply x_parN | apply x_tIf | exact l_own | exact l_some | apply x_tAnd | apply x_tOr | apply x_if | apply x_and | apply x_or | apply x_chain | apply x_ch2 | apply x_ex | apply x_pcons | apply x_dct | apply x_dctM | apply x_ret | apply x_expr | apply x_sif | apply x_asg | apply x_gtup | apply x_gcons | apply x_par | apply x_par3 | apply x_dput | apply o_mod | apply o_fdiv | apply o_mul | apply o_pow ) | ((with_reducible apply x_var); rfl) | ((with_reducible apply br1); (first | (apply decide_eq_true; omega) | (apply decide_eq_false; omega) | (apply decide_eq_true; with_reducible assumption) | (apply decide_eq_false; with_reducible assumption) | decide +kernel)) | ((with_reducible apply br0); (first | (apply decide_eq_true; omega) | (apply decide_eq_false; omega) | (apply decide_eq_true; with_reducible assumption) | (apply decide_eq_false; with_reducible assumption) | decide +kernel)) | ((with_reducible show List.length _ = _); rfl) | ((with_reducible show vw _ _ _ = _); rfl) | ((with_reducible show putAt _ _ _ _ _ = _); rfl) | ((with_reducible show putIn _ _ _ _ _ = _); rfl) | ((with_reducible show ownAll _ _ _ = _); rfl) | ((with_reducible show tupD _ = _); rfl) | ((with_reducible show seqD _ = _); rfl) | ((with_reducible show intD _ = _); rfl) | ((with_reducible show still _ _ _ = _); rfl) | ((with_reducible show items _ = _); rfl) | ((with_reducible show opIx _ _ = _); rfl) | ((with_reducible show (List.all _ _ && _) = true); rfl) | ((with_reducible show opItems _ = _); rfl) | ((with_reducible show bDict _ = _); rfl) | ((with_reducible show bIsi _ _ = _); rfl) | ((with_reducible show List.set _ _ _ = _); rfl) | ((with_reducible show seqS _ = _); rfl) | ((with_reducible show lstD _ = _); rfl) | ((with_reducible show setAll _ _ _ = _); rfl) | ((with_reducible show _ ≤ sizeL); exact Nat.le_of_ble_eq_true rfl)))
        all_goals (first | omega | decide +kernel | (refine ⟨?_, ?_⟩ <;> first | omega | decide +kernel) | (apply mulOk_l; omega) | (apply mulOk_r; omega) | (apply mulOk_s <;> omega))
      · apply drawn hm
        (repeat' (first | (with_reducible first | exact v_pen | exact i_rest | exact i_at | exact i_cells | exact p_rest | exact p_at | exact p18 | exact hc | exact ne_cs | exact he | (apply br1; exact he) | exact r_ok | exact x_c | exact x_nil | exact x_vnil | exact x_pnil | exact x_snil | exact x_gvar | exact x_gnil | exact x_oNone | exact v_d | exact t_bl | exact t_int | exact t_non | exact o_add | exact o_sub | exact o_lt | exact o_le | exact o_gt | exact o_ge | exact o_eqI | exact o_eqS | exact o_neI | exact o_neS | exact b_len | exact b_lenT | exact b_lenS | exact b_abs | exact b_int | exact b_intB | exact b_max | exact b_min | exact w_nil | apply w_cons | exact x_fornil | exact x_turnB | exact x_turnR | exact e_ret | exact e_next | exact o_out | apply x_for | apply x_forcons | apply x_turnN | apply x_turnC | apply x_iE | apply x_fn | apply x_pure | apply a_lst | apply a_tup | apply x_seq | apply x_thenN | exact x_thenR | exact x_thenB | exact x_thenC | apply x_2 | apply x_1 | apply x_cons | apply x_B | apply x_vcons | apply x_star | apply x_tup | apply x_lst | apply x_call | apply x_callK | apply x_tE | apply x_tNot | apply x_not | apply x_isN | apply x_notN | apply x_oSome | apply x_sl | apply x_app | apply x_ext | apply x_pop | apply x_inN | apply x_gitem | apply x_listM | apply x_lstM | apply x_parN | apply x_tIf | exact l_own | exact l_some | apply x_tAnd | apply x_tOr | apply x_if | apply x_and | apply x_or | apply x_chain | apply x_ch2 | apply x_ex | apply x_pcons | apply x_dct | apply x_dctM | apply x_ret | apply x_expr | apply x_sif | apply x_asg | apply x_gtup | apply x_gcons | apply x_par | apply x_par3 | apply x_dput | apply o_mod | apply o_fdiv | apply o_mul | apply o_pow ) | ((with_reducible apply x_var); rfl) | ((with_reducible apply br1); (first | (apply decide_eq_true; omega) | (apply decide_eq_false; omega) | (apply decide_eq_true; with_reducible assumption) | (apply decide_eq_false; with_reducible assumption) | decide +kernel)) | ((with_reducible apply br0); (first | (apply decide_eq_true; omega) | (apply decide_eq_false; omega) | (apply decide_eq_true; with_reducible assumption) | (apply decide_eq_false; with_reducible assumption) | decide +kernel)) | ((with_reducible show List.length _ = _); rfl) | ((with_reducible show vw _ _ _ = _); rfl) | ((with_reducible show putAt _ _ _ _ _ = _); rfl) | ((with_reducible show putIn _ _ _ _ _ = _); rfl) | ((with_reducible show ownAll _ _ _ = _); rfl) | ((with_reducible show tupD _ = _); rfl) | ((with_reducible show seqD _ = _); rfl) | ((with_reducible show intD _ = _); rfl) | ((with_reducible show still _ _ _ = _); rfl) | ((with_reducible show items _ = _); rfl) | ((with_reducible show opIx _ _ = _); rfl) | ((with_reducible show (List.all _ _ && _) = true); rfl) | ((with_reducible show opItems _ = _); rfl) | ((with_reducible show bDict _ = _); rfl) | ((with_reducible show bIsi _ _ = _); rfl) | ((with_reducible show List.set _ _ _ = _); rfl) | ((with_reducible show seqS _ = _); rfl) | ((with_reducible show lstD _ = _); rfl) | ((with_reducible show setAll _ _ _ = _); rfl) | ((with_reducible show _ ≤ sizeL); exact Nat.le_of_ble_eq_true rfl)))
        all_goals (first | omega | decide +kernel | (refine ⟨?_, ?_⟩ <;> first | omega | decide +kernel) | (apply mulOk_l; omega) | (apply mulOk_r; omega) | (apply mulOk_s <;> omega))
    · apply drawn hm
      (repeat' (first | (with_reducible first | exact v_pen | exact i_rest | exact i_at | exact i_cells | exact p_rest | exact p_at | exact p18 | exact hc | exact ne_cs | exact he | (apply br1; exact he) | exact r_ok | exact x_c | exact x_nil | exact x_vnil | exact x_pnil | exact x_snil | exact x_gvar | exact x_gnil | exact x_oNone | exact v_d | exact t_bl | exact t_int | exact t_non | exact o_add | exact o_sub | exact o_lt | exact o_le | exact o_gt | exact o_ge | exact o_eqI | exact o_eqS | exact o_neI | exact o_neS | exact b_len | exact b_lenT | exact b_lenS | exact b_abs | exact b_int | exact b_intB | exact b_max | exact b_min | exact w_nil | apply w_cons | exact x_fornil | exact x_turnB | exact x_turnR | exact e_ret | exact e_next | exact o_out | apply x_for | apply x_forcons | apply x_turnN | apply x_turnC | apply x_iE | apply x_fn | apply x_pure | apply a_lst | apply a_tup | apply x_seq | apply x_thenN | exact x_thenR | exact x_thenB | exact x_thenC | apply x_2 | apply x_1 | apply x_cons | apply x_B | apply x_vcons | apply x_star | apply x_tup | apply x_lst | apply x_call | apply x_callK | apply x_tE | apply x_tNot | apply x_not | apply x_isN | apply x_notN | apply x_oSome | apply x_sl | apply x_app | apply x_ext | apply x_pop | apply x_inN | apply x_gitem | apply x_listM | apply x_lstM | apply x_parN | apply x_tIf | exact l_own | exact l_some | apply x_tAnd | apply x_tOr | apply x_if | apply x_and | apply x_or | apply x_chain | apply x_ch2 | apply x_ex | apply x_pcons | apply x_dct | apply x_dctM | apply x_ret | apply x_expr | apply x_sif | apply x_asg | apply x_gtup | apply x_gcons | apply x_par | apply x_par3 | apply x_dput | apply o_mod | apply o_fdiv | apply o_mul | apply o_pow ) | ((with_reducible apply x_var); rfl) | ((with_reducible apply br1); (first | (apply decide_eq_true; omega) | (apply decide_eq_false; omega) | (apply decide_eq_true; with_reducible assumption) | (apply decide_eq_false; with_reducible assumption) | decide +kernel)) | ((with_reducible apply br0); (first | (apply decide_eq_true; omega) | (apply decide_eq_false; omega) | (apply decide_eq_true; with_reducible assumption) | (apply decide_eq_false; with_reducible assumption) | decide +kernel)) | ((with_reducible show List.length _ = _); rfl) | ((with_reducible show vw _ _ _ = _); rfl) | ((with_reducible show putAt _ _ _ _ _ = _); rfl) | ((with_reducible show putIn _ _ _ _ _ = _); rfl) | ((with_reducible show ownAll _ _ _ = _); rfl) | ((with_reducible show tupD _ = _); rfl) | ((with_reducible show seqD _ = _); rfl) | ((with_reducible show intD _ = _); rfl) | ((with_reducible show still _ _ _ = _); rfl) | ((with_reducible show items _ = _); rfl) | ((with_reducible show opIx _ _ = _); rfl) | ((with_reducible show (List.all _ _ && _) = true); rfl) | ((with_reducible show opItems _ = _); rfl) | ((with_reducible show bDict _ = _); rfl) | ((with_reducible show bIsi _ _ = _); rfl) | ((with_reducible show List.set _ _ _ = _); rfl) | ((with_reducible show seqS _ = _); rfl) | ((with_reducible show lstD _ = _); rfl) | ((with_reducible show setAll _ _ _ = _); rfl) | ((with_reducible show _ ≤ sizeL); exact Nat.le_of_ble_eq_true rfl)))
      all_goals (first | omega | decide +kernel | (refine ⟨?_, ?_⟩ <;> first | omega | decide +kernel) | (apply mulOk_l; omega) | (apply mulOk_r; omega) | (apply mulOk_s <;> omega))
  · have he : (!cs.isEmpty) = false := by
      cases cs with
      | nil => rfl
      | cons _ _ => exact absurd (by rw [List.length_cons]; omega) hs
    apply drawn hm
    (repeat' (first | (with_reducible first | exact v_pen | exact i_rest | exact i_at | exact i_cells | exact p_rest | exact p_at | exact p18 | exact ne_cs | (apply br0; exact he) | exact r_ok | exact x_c | exact x_nil | exact x_vnil | exact x_pnil | exact x_snil | exact x_gvar | exact x_gnil | exact x_oNone | exact v_d | exact t_bl | exact t_int | exact t_non | exact o_add | exact o_sub | exact o_lt | exact o_le | exact o_gt | exact o_ge | exact o_eqI | exact o_eqS | exact o_neI | exact o_neS | exact b_len | exact b_lenT | exact b_lenS | exact b_abs | exact b_int | exact b_intB | exact b_max | exact b_min | exact w_nil | apply w_cons | exact x_fornil | exact x_turnB | exact x_turnR | exact e_ret | exact e_next | exact o_out | apply x_for | apply x_forcons | apply x_turnN | apply x_turnC | apply x_iE | apply x_fn | apply x_pure | apply a_lst | apply a_tup | apply x_seq | apply x_thenN | exact x_thenR | exact x_thenB | exact x_thenC | apply x_2 | apply x_1 | apply x_cons | apply x_B | apply x_vcons | apply x_star | apply x_tup | apply x_lst | apply x_call | apply x_callK | apply x_tE | apply x_tNot | apply x_not | apply x_isN | apply x_notN | apply x_oSome | apply x_sl | apply x_app | apply x_ext | apply x_pop | apply x_inN | apply x_gitem | apply x_listM | apply x_lstM | apply x_parN | apply x_tIf | exact l_own | exact l_some | apply x_tAnd | apply x_tOr | apply x_if | apply x_and | apply x_or | apply x_chain | apply x_ch2 | apply x_ex | apply x_pcons | apply x_dct | apply x_dctM | apply x_ret | apply x_expr | apply x_sif | apply x_asg | apply x_gtup | apply x_gcons | apply x_par | apply x_par3 | apply x_dput | apply o_mod | apply o_fdiv | apply o_mul | apply o_pow ) | ((with_reducible apply x_var); rfl) | ((with_reducible apply br1); (first | (apply decide_eq_true; omega) | (apply decide_eq_false; omega) | (apply decide_eq_true; with_reducible assumption) | (apply decide_eq_false; with_reducible assumption) | decide +kernel)) | ((with_reducible apply br0); (first | (apply decide_eq_true; omega) | (apply decide_eq_false; omega) | (apply decide_eq_true; with_reducible assumption) | (apply decide_eq_false; with_reducible assumption) | decide +kernel)) | ((with_reducible show List.length _ = _); rfl) | ((with_reducible show vw _ _ _ = _); rfl) | ((with_reducible show putAt _ _ _ _ _ = _); rfl) | ((with_reducible show putIn _ _ _ _ _ = _); rfl) | ((with_reducible show ownAll _ _ _ = _); rfl) | ((with_reducible show tupD _ = _); rfl) | ((with_reducible show seqD _ = _); rfl) | ((with_reducible show intD _ = _); rfl) | ((with_reducible show still _ _ _ = _); rfl) | ((with_reducible show items _ = _); rfl) | ((with_reducible show opIx _ _ = _); rfl) | ((with_reducible show (List.all _ _ && _) = true); rfl) | ((with_reducible show opItems _ = _); rfl) | ((with_reducible show bDict _ = _); rfl) | ((with_reducible show bIsi _ _ = _); rfl) | ((with_reducible show List.set _ _ _ = _); rfl) | ((with_reducible show seqS _ = _); rfl) | ((with_reducible show lstD _ = _); rfl) | ((with_reducible show setAll _ _ _ = _); rfl) | ((with_reducible show _ ≤ sizeL); exact Nat.le_of_ble_eq_true rfl)))
    all_goals (first | omega | decide +kernel | (refine ⟨?_, ?_⟩ <;> first | omega | decide +kernel) | (apply mulOk_l; omega) | (apply mulOk_r; omega) | (apply mulOk_s <;> omega))
end K01
end Ev

set_option linter.all false
set_option maxRecDepth 100000
set_option maxHeartbeats 1000000
namespace Ev
namespace K01
/-- a pen, drawn from at most N times -/
def Pn (N : Int) (L : Hs) : Prop := ∃ cs b r R, L = pen cs b r :: R ∧ (∀ d ∈ cs, ∃ i, d = D.int i) ∧ 0 ≤ b ∧ b ≤ N
/-- all else stays -/
def Fr (L L' : Hs) : Prop := L.length ≤ L'.length ∧ ∀ j, 0 < j → j < L.length → L'[j]? = L[j]?
theorem Fr.refl (L : Hs) : Fr L L := ⟨Nat.le_refl _, fun _ _ _ => rfl⟩
theorem Fr.trans {L L1 L2 : Hs} (a : Fr L L1) (b : Fr L1 L2) : Fr L L2 := ⟨Nat.le_trans a.1 b.1, fun j h0 h1 => (b.2 j h0 (Nat.lt_of_lt_of_le h1 a.1)).trans (a.2 j h0 h1)⟩
theorem Fr.pen {cs cs' : List D} {b b' r r' : Int} {R : Hs} : Fr (K01.pen cs b r :: R) (K01.pen cs' b' r' :: R) := ⟨Nat.le_refl _, fun j h0 _ => by
  obtain ⟨k, rfl⟩ : ∃ k, j = k + 1 := ⟨j - 1, by omega⟩
  rfl⟩
theorem Fr.add {L : Hs} (o : Ob) : Fr L (L ++ [o]) := ⟨by rw [List.length_append]; omega, fun j _ h => List.getElem?_append_left h⟩
theorem Pn.mono {N N' : Int} {L : Hs} (h : Pn N L) (hN : N ≤ N') : Pn N' L := by
  obtain ⟨cs, b, r, R, e, hc, h0, h1⟩ := h
  exact ⟨cs, b, r, R, e, hc, h0, by omega⟩
theorem Pn.add {N : Int} {L : Hs} (h : Pn N L) (o : Ob) : Pn N (L ++ [o]) := by
  obtain ⟨cs, b, r, R, rfl, hc, h0, h1⟩ := h
  exact ⟨cs, b, r, R ++ [o], rfl, hc, h0, h1⟩
theorem Pn.len {N : Int} {L : Hs} (h : Pn N L) : 0 < L.length := by
  obtain ⟨cs, b, r, R, rfl, _⟩ := h
  exact Nat.succ_pos _
theorem draw_ok {N m : Int} {L : Hs} (h : Pn N L) (hN : N ≤ 1099511627776) (hm : 0 < m) (hg : m.natAbs.log2 < 9000) :
    ∃ (x : Int) (L' : Hs), F__law_draw [.ref 0, .d (.int m)] [] L = .ok (.d (.int x)) L' ∧ Pn (N + 1) L' ∧ Fr L L' ∧ 0 ≤ x ∧ x < m := by
  obtain ⟨cs, b, r, R, rfl, hcs, h0, h1⟩ := h
  by_cases hr : 0 < r
  · exact ⟨r % m, _, draw_rest cs b r m R hr hm hg, ⟨cs, b, r / m, R, rfl, hcs, h0, by omega⟩, Fr.pen, Int.emod_nonneg r (by omega), Int.emod_lt_of_pos r hm⟩
  · obtain ⟨x, r', e, h2, h3⟩ := draw_new cs hcs b r m R hr h0 (by omega) hm hg
    exact ⟨x, _, e, ⟨cs, b + 1, r', R, rfl, hcs, by omega, by omega⟩, Fr.pen, h2, h3⟩
theorem log2_small {m : Int} (h : m.natAbs < 2000) (h0 : m.natAbs ≠ 0) : m.natAbs.log2 < 9000 := by
  have : m.natAbs.log2 < 11 := (Nat.log2_lt h0).mpr (by omega)
  omega
theorem ix_at {xs : List D} {j : Int} (h0 : 0 ≤ j) (h1 : j < (xs.length : Int)) : ∃ y ∈ xs, opIx (.lst xs) (.int j) = some y := by
  have hl : j.toNat < xs.length := by omega
  refine ⟨xs[j.toNat], List.getElem_mem hl, ?_⟩
  show atI xs j = _
  unfold atI ixN
  rw [if_pos h0, if_pos h1]
  show xs[j.toNat]? = _
  rw [List.getElem?_eq_getElem hl]
theorem ixS_at {s : List Nat} {j : Int} (hl : s.length ≤ 1000) (h0 : 0 ≤ j) (h1 : j < (s.length : Int)) : ∃ c ∈ s, opIx (.str s) (.int j) = some (.str [c]) := by
  have hj : j.toNat < s.length := by omega
  refine ⟨s[j.toNat], List.getElem_mem hj, ?_⟩
  show (if s.length ≤ sizeL then (atI s j).map (fun c => D.str [c]) else none) = _
  rw [if_pos (by show _ ≤ 16777216; omega)]
  unfold atI ixN
  rw [if_pos h0, if_pos h1]
  show (s[j.toNat]?).map _ = _
  rw [List.getElem?_eq_getElem hj]
  rfl
theorem pickW {N : Int} {L : Hs} {w : W} {xs : List D} (h : Pn N L) (hN : N ≤ 1099511627776) (hw : ∀ L', Fr L L' → vw [] L' w = some (.lst xs)) (h0 : 0 < xs.length) (hx : xs.length < 1000) :
    ∃ (y : D) (L' : Hs), F__law_pick [.ref 0, w] [] L = .ok (.d y) L' ∧ Pn (N + 1) L' ∧ Fr L L' ∧ y ∈ xs := by
  obtain ⟨x, L', e, ht, fr, h2, h3⟩ := draw_ok h hN (m := (xs.length : Int)) (by omega) (log2_small (by omega) (by omega))
  obtain ⟨y, hy, ey⟩ := ix_at h2 h3
  refine ⟨y, L', ?_, ht, fr, hy⟩
  unfold F__law_pick
  exact x_fn (r1 := .ret (.d y) L') rfl (x_ret (x_2 (x_var rfl) (x_call (x_cons (x_var rfl) (x_cons (x_B (x_cons (x_var rfl) x_nil) (x_vcons (hw L (Fr.refl L)) x_vnil) rfl) x_nil)) rfl e) (hw L' fr) rfl ey)) rfl
theorem pick_ok {N : Int} {L : Hs} {xs : List D} (h : Pn N L) (hN : N ≤ 1099511627776) (h0 : 0 < xs.length) (hx : xs.length < 1000) :
    ∃ (y : D) (L' : Hs), F__law_pick [.ref 0, .d (.lst xs)] [] L = .ok (.d y) L' ∧ Pn (N + 1) L' ∧ Fr L L' ∧ y ∈ xs := pickW h hN (fun _ _ => rfl) h0 hx
theorem pickS_ok {N : Int} {L : Hs} {s : List Nat} (h : Pn N L) (hN : N ≤ 1099511627776) (h0 : 0 < s.length) (hx : s.length < 1000) :
    ∃ (c : Nat) (L' : Hs), F__law_pick [.ref 0, .d (.str s)] [] L = .ok (.d (.str [c])) L' ∧ Pn (N + 1) L' ∧ Fr L L' ∧ c ∈ s := by
  obtain ⟨x, L', e, ht, fr, h2, h3⟩ := draw_ok h hN (m := (s.length : Int)) (by omega) (log2_small (by omega) (by omega))
  obtain ⟨y, hy, ey⟩ := ixS_at (by omega) h2 h3
  refine ⟨y, L', ?_, ht, fr, hy⟩
  unfold F__law_pick
  exact x_fn (r1 := .ret (.d (.str [y])) L') rfl (x_ret (x_2 (x_var rfl) (x_call (x_cons (x_var rfl) (x_cons (x_B (x_cons (x_var rfl) x_nil) (x_vcons rfl x_vnil) (len_str (by omega))) x_nil)) rfl e) rfl rfl ey)) rfl
theorem number_ok {N : Int} {L : Hs} (h : Pn N L) (hN : N ≤ 1099511627000) :
    ∃ (n : Int) (L' : Hs), F__law_number [.ref 0] [] L = .ok (.d (.int n)) L' ∧ Pn (N + 3) L' ∧ Fr L L' ∧ -99 ≤ n ∧ n ≤ 99 := by
  obtain ⟨x1, L1, e1, t1, f1, a1, b1⟩ := draw_ok h (by omega) (m := 9) (by decide) (by decide +kernel)
  obtain ⟨x2, L2, e2, t2, f2, a2, b2⟩ := draw_ok t1 (by omega) (m := 199) (by decide) (by decide +kernel)
  obtain ⟨y, L3, e3, t3, f3, hy⟩ := pick_ok t2 (by omega) (xs := [.int (x1 - 3), .int (x1 - 3), .int (x1 - 3), .int 99, .int (-99), .int 98, .int (x2 - 99)]) (by simp) (by simp)
  have hn : ∃ n : Int, y = .int n ∧ -99 ≤ n ∧ n ≤ 99 := by
    simp only [List.mem_cons, List.not_mem_nil, or_false] at hy
    rcases hy with rfl | rfl | rfl | rfl | rfl | rfl | rfl <;> exact ⟨_, rfl, by omega, by omega⟩
  obtain ⟨n, rfl, n0, n1⟩ := hn
  refine ⟨n, L3, ?_, t3.mono (by omega), (f1.trans f2).trans f3, n0, n1⟩
  unfold F__law_number
  refine x_fn (r1 := .ret (.d (.int n)) L3) rfl ?_ rfl
  refine x_seq (x_asg (x_2 (x_call (x_cons (x_var rfl) (x_cons x_c x_nil)) rfl e1) x_c rfl rfl rfl) x_gvar) (x_thenN ?_)
  exact x_ret (x_call (x_cons (x_var rfl) (x_cons (x_lst (x_cons (x_var rfl) (x_cons (x_var rfl) (x_cons (x_var rfl) (x_cons x_c (x_cons (x_1 x_c rfl rfl) (x_cons x_c (x_cons (x_2 (x_call (x_cons (x_var rfl) (x_cons x_c x_nil)) rfl e2) x_c rfl rfl rfl) x_nil))))))) rfl (Nat.le_of_ble_eq_true rfl)) x_nil)) rfl e3)
/-! expressions as they are drawn -/
inductive Ex (ns : List (List Nat)) : Nat → D → Prop
  | val {d : Nat} {n : Int} : -99 ≤ n → n ≤ 99 → Ex ns (d + 1) (.tup [.str sVal, .int n])
  | body {d : Nat} : Ex ns (d + 1) (.tup [.str sBody])
  | row {d : Nat} {s : List Nat} : s ∈ ns → Ex ns (d + 1) (.tup [.str sRow, .str s])
  | op {d : Nat} {o : List Nat} {a b : D} : o ∈ [[43], [45], [42]] → Ex ns d a → Ex ns d b → Ex ns (d + 1) (.tup [.str o, a, b])
theorem mem_strs {ns : List (List Nat)} {y : D} (h : y ∈ ns.map D.str) : ∃ s ∈ ns, y = .str s := by
  obtain ⟨s, hs, rfl⟩ := List.mem_map.mp h
  exact ⟨s, hs, rfl⟩
theorem leaf_ok {N : Int} {L : Hs} {ns : List (List Nat)} (h : Pn N L) (hN : N ≤ 1099511626000) (h0 : 0 < ns.length) (h1 : ns.length < 1000) (d : Nat) :
    ∃ (y : D) (L' : Hs), F__law_leaf [.ref 0, .d (.lst (ns.map .str))] [] L = .ok (.d y) L' ∧ Pn (N + 5) L' ∧ Fr L L' ∧ Ex ns (d + 1) y := by
  obtain ⟨n, L1, e1, t1, f1, a1, b1⟩ := number_ok h (by omega)
  obtain ⟨z, L2, e2, t2, f2, hz⟩ := pick_ok t1 (by omega) (xs := ns.map .str) (by rw [List.length_map]; exact h0) (by rw [List.length_map]; exact h1)
  obtain ⟨s, hs, rfl⟩ := mem_strs hz
  obtain ⟨y, L3, e3, t3, f3, hy⟩ := pick_ok t2 (by omega) (xs := [.tup [.str sVal, .int n], .tup [.str sBody], .tup [.str sRow, .str s]]) (by simp) (by simp)
  refine ⟨y, L3, ?_, t3.mono (by omega), (f1.trans f2).trans f3, ?_⟩
  · unfold F__law_leaf
    refine x_fn (r1 := .ret (.d y) L3) rfl ?_ rfl
    exact x_ret (x_call (x_cons (x_var rfl) (x_cons (x_lst (x_cons (x_tup (x_cons x_c (x_cons (x_call (x_cons (x_var rfl) x_nil) rfl e1) x_nil)) rfl (Nat.le_of_ble_eq_true rfl)) (x_cons (x_tup (x_cons x_c x_nil) rfl (Nat.le_of_ble_eq_true rfl)) (x_cons (x_tup (x_cons x_c (x_cons (x_call (x_cons (x_var rfl) (x_cons (x_var rfl) x_nil)) rfl e2) x_nil)) rfl (Nat.le_of_ble_eq_true rfl)) x_nil))) rfl (Nat.le_of_ble_eq_true rfl)) x_nil)) rfl e3)
  · simp only [List.mem_cons, List.not_mem_nil, or_false] at hy
    rcases hy with rfl | rfl | rfl
    · exact .val a1 b1
    · exact .body
    · exact .row hs
/-- how often e draws at most -/
def cE : Nat → Int
  | 0 => 6
  | d + 1 => 2 * cE d + 8
theorem cE_pos : ∀ d, 6 ≤ cE d
  | 0 => by decide
  | d + 1 => by have := cE_pos d; show 6 ≤ 2 * cE d + 8; omega
theorem e_ok {ns : List (List Nat)} (h0 : 0 < ns.length) (h1 : ns.length < 1000) : ∀ (d n : Nat) (N : Int) (L : Hs), 0 < d → d ≤ n → Pn N L → N + cE d ≤ 1099511625000 →
    ∃ (y : D) (L' : Hs), R__law_e n [.ref 0, .d (.lst (ns.map .str)), .d (.int d)] [] L = .ok (.d y) L' ∧ Pn (N + cE d) L' ∧ Fr L L' ∧ Ex ns d y
  | 0, _, _, _, h, _, _, _ => by omega
  | d + 1, 0, _, _, _, h, _, _ => by omega
  | d + 1, n + 1, N, L, _, hn, hp, hN => by
    have pos := cE_pos d
    have ec : cE (d + 1) = 2 * cE d + 8 := rfl
    rw [ec] at hN ⊢
    rw [R__law_e]
    by_cases hd : d = 0
    · subst hd
      obtain ⟨y, L1, e1, t1, f1, x1⟩ := leaf_ok hp (by omega) h0 h1 0
      refine ⟨y, L1, x_fn (r1 := .ret (.d y) L1) rfl ?_ rfl, t1.mono (by omega), f1, x1⟩
      exact x_seq (r1 := .ret (.d y) L1) (x_sif (k := true) (x_tOr (x_tE (x_2 (x_var rfl) x_c rfl rfl rfl) rfl rfl) (br1 rfl rfl)) (br1 rfl (x_ret (x_call (x_cons (x_var rfl) (x_cons (x_var rfl) x_nil)) rfl e1)))) x_thenR
    · have l2 : decide (((d + 1 : Nat) : Int) < 2) = false := decide_eq_false (by omega)
      obtain ⟨q, L1, e1, t1, f1, a1, b1⟩ := draw_ok hp (by omega) (m := 3) (by decide) (by decide +kernel)
      by_cases hq : q = 0
      · obtain ⟨y, L2, e2, t2, f2, x2⟩ := leaf_ok t1 (by omega) h0 h1 d
        refine ⟨y, L2, x_fn (r1 := .ret (.d y) L2) rfl ?_ rfl, t2.mono (by omega), f1.trans f2, x2⟩
        exact x_seq (r1 := .ret (.d y) L2) (x_sif (x_tOr (x_tE (x_2 (x_var rfl) x_c rfl rfl rfl) rfl rfl) (br0 l2 (x_tE (x_2 (x_call (x_cons (x_var rfl) (x_cons x_c x_nil)) rfl e1) x_c rfl rfl rfl) rfl rfl))) (br1 (decide_eq_true hq) (x_ret (x_call (x_cons (x_var rfl) (x_cons (x_var rfl) x_nil)) rfl e2)))) x_thenR
      · obtain ⟨o, L2, e2, t2, f2, ho⟩ := pick_ok t1 (by omega) (xs := [[43], [45], [42]].map .str) (by decide) (by decide)
        obtain ⟨o, ho', rfl⟩ := mem_strs ho
        obtain ⟨y, L3, e3, t3, f3, x3⟩ := e_ok h0 h1 d n (N + 1 + 1) L2 (by omega) (by omega) t2 (by omega)
        obtain ⟨z, L4, e4, t4, f4, x4⟩ := e_ok h0 h1 d n (N + 1 + 1 + cE d) L3 (by omega) (by omega) t3 (by omega)
        refine ⟨.tup [.str o, y, z], L4, x_fn (r1 := .ret (.d (.tup [.str o, y, z])) L4) rfl ?_ rfl, t4.mono (by omega), ((f1.trans f2).trans f3).trans f4, .op ho' x3 x4⟩
        refine x_seq (r1 := .next [some (.ref 0), some (.d (.lst (ns.map .str))), some (.d (.int ((d + 1 : Nat) : Int)))] L1) (x_sif (x_tOr (x_tE (x_2 (x_var rfl) x_c rfl rfl rfl) rfl rfl) (br0 l2 (x_tE (x_2 (x_call (x_cons (x_var rfl) (x_cons x_c x_nil)) rfl e1) x_c rfl rfl rfl) rfl rfl))) (br0 (decide_eq_false hq) rfl)) (x_thenN ?_)
        exact x_ret (x_tup (x_cons (x_call (x_cons (x_var rfl) (x_cons (x_lst (x_cons x_c (x_cons x_c (x_cons x_c x_nil))) rfl (Nat.le_of_ble_eq_true rfl)) x_nil)) rfl e2) (x_cons (x_call (x_cons (x_var rfl) (x_cons (x_var rfl) (x_cons (x_2 (x_var rfl) x_c rfl rfl (sub1 d)) x_nil))) rfl e3) (x_cons (x_call (x_cons (x_var rfl) (x_cons (x_var rfl) (x_cons (x_2 (x_var rfl) x_c rfl rfl (sub1 d)) x_nil))) rfl e4) x_nil))) rfl (Nat.le_of_ble_eq_true rfl))
/-! conditions -/
inductive Cn (ns : List (List Nat)) : Nat → D → Prop
  | cmp {d : Nat} {o : List Nat} {a b : D} : o ∈ [[60], [61]] → Ex ns 3 a → Ex ns 2 b → Cn ns (d + 1) (.tup [.str o, a, b])
  | no {d : Nat} {a : D} : Cn ns d a → Cn ns (d + 1) (.tup [.str sNot, a])
  | jn {d : Nat} {o : List Nat} {a b : D} : o ∈ [sAnd, sOr] → Cn ns d a → Cn ns d b → Cn ns (d + 1) (.tup [.str o, a, b])
def cC : Nat → Int
  | 0 => 200
  | d + 1 => 2 * cC d + 8
theorem cC_pos : ∀ d, 200 ≤ cC d
  | 0 => by decide
  | d + 1 => by have := cC_pos d; show 200 ≤ 2 * cC d + 8; omega
theorem E_ok {ns : List (List Nat)} (h0 : 0 < ns.length) (h1 : ns.length < 1000) (d : Nat) (N : Int) (L : Hs) (hd : 0 < d) (hd2 : d ≤ 12) (hp : Pn N L) (hN : N + cE d ≤ 1099511625000) :
    ∃ (y : D) (L' : Hs), F__law_e [.ref 0, .d (.lst (ns.map .str)), .d (.int d)] [] L = .ok (.d y) L' ∧ Pn (N + cE d) L' ∧ Fr L L' ∧ Ex ns d y := e_ok h0 h1 d 12 N L hd hd2 hp hN
theorem gt1 (d : Nat) : opGt (.int ((d + 1 : Nat) : Int)) (.int 1) = some (.bl (decide (0 < d))) := by
  show some (D.bl (decide ((1 : Int) < ((d + 1 : Nat) : Int)))) = _
  congr 2
  rw [Bool.eq_iff_iff, decide_eq_true_eq, decide_eq_true_eq]
  omega
theorem ix3 {q : Int} {a b c : List Nat} (h0 : 0 ≤ q) (h1 : q < 3) : ∃ o, o ∈ [a, b, c] ∧ opIx (.lst [.str a, .str b, .str c]) (.int q) = some (.str o) := by
  have : q = 0 ∨ q = 1 ∨ q = 2 := by omega
  rcases this with rfl | rfl | rfl
  · exact ⟨a, by simp, rfl⟩
  · exact ⟨b, by simp, rfl⟩
  · exact ⟨c, by simp, rfl⟩
theorem ix2 {q : Int} {a b : List Nat} (h0 : 0 ≤ q) (h1 : q < 2) : ∃ o, o ∈ [a, b] ∧ opIx (.lst [.str a, .str b]) (.int q) = some (.str o) := by
  have : q = 0 ∨ q = 1 := by omega
  rcases this with rfl | rfl
  · exact ⟨a, by simp, rfl⟩
  · exact ⟨b, by simp, rfl⟩
theorem c_ok {ns : List (List Nat)} (h0 : 0 < ns.length) (h1 : ns.length < 1000) : ∀ (d n : Nat) (N : Int) (L : Hs), 0 < d → d ≤ n → Pn N L → N + cC d ≤ 1099511624000 →
    ∃ (y : D) (L' : Hs), R__law_c n [.ref 0, .d (.lst (ns.map .str)), .d (.int d)] [] L = .ok (.d y) L' ∧ Pn (N + cC d) L' ∧ Fr L L' ∧ Cn ns d y
  | 0, _, _, _, h, _, _, _ => by omega
  | d + 1, 0, _, _, _, h, _, _ => by omega
  | d + 1, n + 1, N, L, _, hn, hp, hN => by
    have pos := cC_pos d
    have ec : cC (d + 1) = 2 * cC d + 8 := rfl
    rw [ec] at hN ⊢
    rw [R__law_c]
    have c3 : cE 3 = 104 := rfl
    have c2 : cE 2 = 48 := rfl
    -- what is drawn
    have hq : ∃ q L1, (eIf (tE (e2 opGt (eVar 2) (eC (.int 1)))) (eCall 2 F__law_draw (aCons (eVar 0) (aCons (eC (.int 6)) (aNil)))) (eCall 2 F__law_draw (aCons (eVar 0) (aCons (eC (.int 2)) (aNil))))) [] [some (.ref 0), some (.d (.lst (ns.map .str))), some (.d (.int ((d + 1 : Nat) : Int))), none] L = .ok (.d (.int q)) L1 ∧ Pn (N + 1) L1 ∧ Fr L L1 ∧ 0 ≤ q ∧ q < 6 ∧ (3 ≤ q → 0 < d) := by
      by_cases hd : 0 < d
      · obtain ⟨q, L1, e1, t1, f1, a1, b1⟩ := draw_ok hp (by omega) (m := 6) (by decide) (by decide +kernel)
        exact ⟨q, L1, x_if (x_tE (x_2 (x_var rfl) x_c rfl rfl (gt1 d)) rfl rfl) (br1 (decide_eq_true hd) (x_call (x_cons (x_var rfl) (x_cons x_c x_nil)) rfl e1)), t1, f1, a1, b1, fun _ => hd⟩
      · obtain ⟨q, L1, e1, t1, f1, a1, b1⟩ := draw_ok hp (by omega) (m := 2) (by decide) (by decide +kernel)
        exact ⟨q, L1, x_if (x_tE (x_2 (x_var rfl) x_c rfl rfl (gt1 d)) rfl rfl) (br0 (decide_eq_false hd) (x_call (x_cons (x_var rfl) (x_cons x_c x_nil)) rfl e1)), t1, f1, a1, by omega, fun z => by omega⟩
    obtain ⟨q, L1, e1, t1, f1, a1, b1, hd⟩ := hq
    by_cases q3 : q < 3
    · obtain ⟨o, ho, eo⟩ := ix3 (a := [60]) (b := [61]) (c := [60]) a1 q3
      obtain ⟨y, L2, e2, t2, f2, x2⟩ := E_ok h0 h1 3 (N + 1) L1 (by decide) (by decide) t1 (by omega)
      obtain ⟨z, L3, e3, t3, f3, x3⟩ := E_ok h0 h1 2 (N + 1 + cE 3) L2 (by decide) (by decide) t2 (by omega)
      refine ⟨.tup [.str o, y, z], L3, x_fn (r1 := .ret (.d (.tup [.str o, y, z])) L3) rfl ?_ rfl, t3.mono (by omega), (f1.trans f2).trans f3, .cmp (by simp only [List.mem_cons, List.not_mem_nil, or_false] at ho ⊢; rcases ho with h | h | h <;> simp [h]) x2 x3⟩
      refine x_seq (x_asg e1 x_gvar) (x_thenN (x_seq (r1 := .ret (.d (.tup [.str o, y, z])) L3) (x_sif (x_tE (x_2 (x_var rfl) x_c rfl rfl rfl) rfl rfl) (br1 (decide_eq_true q3) ?_)) x_thenR))
      exact x_ret (x_tup (x_cons (x_2 (x_lst (x_cons x_c (x_cons x_c (x_cons x_c x_nil))) rfl (Nat.le_of_ble_eq_true rfl)) (x_var rfl) rfl rfl eo) (x_cons (x_call (x_cons (x_var rfl) (x_cons (x_var rfl) (x_cons x_c x_nil))) rfl e2) (x_cons (x_call (x_cons (x_var rfl) (x_cons (x_var rfl) (x_cons x_c x_nil))) rfl e3) x_nil))) rfl (Nat.le_of_ble_eq_true rfl))
    · have hd := hd (by omega)
      obtain ⟨y, L2, e2, t2, f2, x2⟩ := c_ok h0 h1 d n (N + 1) L1 hd (by omega) t1 (by omega)
      by_cases q4 : q = 3
      · refine ⟨.tup [.str sNot, y], L2, x_fn (r1 := .ret (.d (.tup [.str sNot, y])) L2) rfl ?_ rfl, t2.mono (by omega), f1.trans f2, .no x2⟩
        refine x_seq (x_asg e1 x_gvar) (x_thenN (x_seq (x_sif (x_tE (x_2 (x_var rfl) x_c rfl rfl rfl) rfl rfl) (br0 (decide_eq_false q3) rfl)) (x_thenN (x_seq (r1 := .ret (.d (.tup [.str sNot, y])) L2) (x_sif (x_tE (x_2 (x_var rfl) x_c rfl rfl rfl) rfl rfl) (br1 (decide_eq_true q4) ?_)) x_thenR))))
        exact x_ret (x_tup (x_cons x_c (x_cons (x_call (x_cons (x_var rfl) (x_cons (x_var rfl) (x_cons (x_2 (x_var rfl) x_c rfl rfl (sub1 d)) x_nil))) rfl e2) x_nil)) rfl (Nat.le_of_ble_eq_true rfl))
      · obtain ⟨o, ho, eo⟩ := ix2 (q := q - 4) (a := sAnd) (b := sOr) (by omega) (by omega)
        obtain ⟨z, L3, e3, t3, f3, x3⟩ := c_ok h0 h1 d n (N + 1 + cC d) L2 hd (by omega) t2 (by omega)
        refine ⟨.tup [.str o, y, z], L3, x_fn (r1 := .ret (.d (.tup [.str o, y, z])) L3) rfl ?_ rfl, t3.mono (by omega), (f1.trans f2).trans f3, .jn ho x2 x3⟩
        refine x_seq (x_asg e1 x_gvar) (x_thenN (x_seq (x_sif (x_tE (x_2 (x_var rfl) x_c rfl rfl rfl) rfl rfl) (br0 (decide_eq_false q3) rfl)) (x_thenN (x_seq (x_sif (x_tE (x_2 (x_var rfl) x_c rfl rfl rfl) rfl rfl) (br0 (decide_eq_false q4) rfl)) (x_thenN ?_)))))
        exact x_ret (x_tup (x_cons (x_2 (x_lst (x_cons x_c (x_cons x_c x_nil)) rfl (Nat.le_of_ble_eq_true rfl)) (x_2 (x_var rfl) x_c rfl rfl rfl) rfl rfl eo) (x_cons (x_call (x_cons (x_var rfl) (x_cons (x_var rfl) (x_cons (x_2 (x_var rfl) x_c rfl rfl (sub1 d)) x_nil))) rfl e2) (x_cons (x_call (x_cons (x_var rfl) (x_cons (x_var rfl) (x_cons (x_2 (x_var rfl) x_c rfl rfl (sub1 d)) x_nil))) rfl e3) x_nil))) rfl (Nat.le_of_ble_eq_true rfl))
end K01
end Ev

set_option linter.all false
set_option maxRecDepth 100000
set_option maxHeartbeats 1000000
namespace Ev
namespace K01
theorem comp_draw {i : Nat} {e : SE} {ρ : Sl} {P : D → Prop} {K T : Int} (hK : 0 ≤ K) : ∀ (xs acc : List D) (N : Int) (L : Hs), (∀ x ∈ xs, ∀ N L, Pn N L → N ≤ T → ∃ y L', e [] (ρ.set i (some (.d x))) L = .ok (.d y) L' ∧ Pn (N + K) L' ∧ Fr L L' ∧ P y) → Pn N L → N + K * xs.length ≤ T → acc.length + xs.length ≤ 16777216 →
    ∃ ys L', compGo (gVar i) tYes e [] ρ xs acc L = .ok (acc ++ ys) L' ∧ Pn (N + K * xs.length) L' ∧ Fr L L' ∧ (∀ y ∈ ys, P y) ∧ ys.length = xs.length
  | [], acc, N, L, _, hp, _, _ => ⟨[], L, by rw [List.append_nil]; rfl, hp.mono (by simp), Fr.refl L, (fun y hy => by cases hy), rfl⟩
  | x :: xs, acc, N, L, h, hp, hT, hl => by
    rw [List.length_cons] at hl
    have hm : K * ((x :: xs).length : Int) = K * xs.length + K := by rw [List.length_cons, Int.natCast_succ, Int.mul_add, Int.mul_one]
    rw [hm] at hT ⊢
    have hKx : 0 ≤ K * (xs.length : Int) := Int.mul_nonneg hK (by omega)
    obtain ⟨y, L1, e1, t1, f1, p1⟩ := h x List.mem_cons_self N L hp (by omega)
    obtain ⟨ys, L2, e2, t2, f2, p2, l2⟩ := comp_draw hK xs (acc ++ [y]) (N + K) L1 (fun z hz => h z (List.mem_cons_of_mem _ hz)) t1 (by omega) (by rw [List.length_append]; show acc.length + 1 + _ ≤ _; omega)
    refine ⟨y :: ys, L2, ?_, t2.mono (by omega), f1.trans f2, fun z hz => ?_, by rw [List.length_cons, List.length_cons, l2]⟩
    · show (e [] (ρ.set i (some (.d x))) L).bind (fun w L3 => (ownR [] L3 w).bind fun y L4 => (guardR (decide (acc.length < sizeL)) L4).bind fun _ L4 => compGo (gVar i) tYes e [] ρ xs (acc ++ [y]) L4) = _
      rw [e1]
      show (guardR (decide (acc.length < sizeL)) L1).bind (fun _ L4 => compGo (gVar i) tYes e [] ρ xs (acc ++ [y]) L4) = _
      rw [decide_eq_true (show acc.length < sizeL by show _ < 16777216; omega)]
      show compGo (gVar i) tYes e [] ρ xs (acc ++ [y]) L1 = _
      rw [e2, List.append_assoc]
      rfl
    · rcases List.mem_cons.mp hz with rfl | hz
      · exact p1
      · exact p2 z hz
theorem to_strs {Q : List Nat → Prop} : ∀ ys : List D, (∀ y ∈ ys, ∃ s, y = .str s ∧ Q s) → ∃ ws : List (List Nat), ys = ws.map .str ∧ ∀ s ∈ ws, Q s
  | [], _ => ⟨[], rfl, fun s h => by cases h⟩
  | y :: ys, h => by
    obtain ⟨s, rfl, q⟩ := h y List.mem_cons_self
    obtain ⟨ws, rfl, q2⟩ := to_strs ys fun z hz => h z (List.mem_cons_of_mem _ hz)
    exact ⟨s :: ws, rfl, fun t ht => by rcases List.mem_cons.mp ht with rfl | ht; exact q; exact q2 t ht⟩
theorem allS_map (ws : List (List Nat)) : allS (ws.map D.str) = some ws := by
  induction ws with
  | nil => rfl
  | cons s ws ih =>
    show (match allS (ws.map D.str) with | some ss => some (s :: ss) | none => none) = _
    rw [ih]
theorem joinS_len1 : ∀ ws : List (List Nat), (∀ s ∈ ws, ∃ c, s = [c] ∧ c ∈ letters) → (joinS [] ws).length = ws.length ∧ (∀ c ∈ joinS [] ws, c ∈ letters) ∧ (ws.map List.length).sum = ws.length
  | [], _ => ⟨rfl, (fun c h => by cases h), rfl⟩
  | [s], h => by
    obtain ⟨c, rfl, hc⟩ := h s (by simp)
    exact ⟨rfl, fun d hd => by
      have hd : d ∈ [c] := hd
      simp only [List.mem_singleton] at hd
      rw [hd]; exact hc, rfl⟩
  | s :: t :: ws, h => by
    obtain ⟨c, rfl, hc⟩ := h s (by simp)
    obtain ⟨a1, a2, a3⟩ := joinS_len1 (t :: ws) fun z hz => h z (List.mem_cons_of_mem _ hz)
    have e : joinS [] ([c] :: t :: ws) = c :: joinS [] (t :: ws) := rfl
    rw [e]
    refine ⟨by rw [List.length_cons, a1]; rfl, fun d hd => ?_, ?_⟩
    · rcases List.mem_cons.mp hd with rfl | hd
      · exact hc
      · exact a2 d hd
    · rw [List.map_cons, List.sum_cons, a3]
      show 1 + _ = _
      rw [List.length_cons (a := [c])]
      omega
def WordOk (s : List Nat) : Prop := 1 ≤ s.length ∧ s.length ≤ 6 ∧ ∀ c ∈ s, c ∈ letters
theorem range_mem {n : Nat} {x : D} (h : x ∈ (List.range n).map fun (i : Nat) => D.int i) : ∃ k : Nat, k < n ∧ x = .int k := by
  obtain ⟨k, hk, rfl⟩ := List.mem_map.mp h
  exact ⟨k, List.mem_range.mp hk, rfl⟩
theorem sl_to {s : List Nat} {a : Int} (hs : s.length ≤ 100) (h0 : 0 ≤ a) (h1 : a ≤ s.length) : opSl (.str s) none (some a) = some (.str (s.take a.toNat)) := by
  show (if s.length ≤ sizeL then some (D.str (cut s none (some a))) else none) = _
  rw [if_pos (by show _ ≤ 16777216; omega)]
  unfold cut sIx
  dsimp only
  rw [if_neg (by omega), List.drop_zero, Nat.sub_zero, Nat.min_eq_left (by omega)]
theorem sl_from {s : List Nat} {a : Int} (hs : s.length ≤ 100) (h0 : 0 ≤ a) (h1 : a ≤ s.length) : opSl (.str s) (some a) none = some (.str (s.drop a.toNat)) := by
  show (if s.length ≤ sizeL then some (D.str (cut s (some a) none)) else none) = _
  rw [if_pos (by show _ ≤ 16777216; omega)]
  unfold cut sIx
  dsimp only
  rw [if_neg (by omega), Nat.min_eq_left (by omega), List.take_of_length_le (by rw [List.length_drop]; exact Nat.le_refl _)]
theorem add_str {s t : List Nat} (h : s.length + t.length ≤ 1000) : opAdd (.str s) (.str t) = some (.str (s ++ t)) := if_pos (show _ ≤ 16777216 by omega)
theorem words_ok {N : Int} {L : Hs} (h : Pn N L) (hN : N ≤ 1099511620000) (many : Nat) (hm : many ≤ 100) :
    ∃ (ws : List (List Nat)) (L' : Hs), F__law_words [.ref 0, .d (.int many)] [] L = .ok (.d (.lst (ws.map .str))) L' ∧ Pn (N + 20) L' ∧ Fr L L' ∧ ws.length = many ∧ ∀ s ∈ ws, WordOk s := by
  obtain ⟨q, L1, E1, t1, f1, a1, b1⟩ := draw_ok h (by omega) (m := 6) (by decide) (by decide +kernel)
  have lr : ((List.range q.toNat).map fun (i : Nat) => D.int i).length = q.toNat := by rw [List.length_map, List.length_range]
  obtain ⟨ys, L2, E2, t2, f2, p2, l2⟩ := comp_draw (i := 7) (e := eCall 2 F__law_pick (aCons (eVar 0) (aCons (eVar 2) (aNil)))) (ρ := [some (.ref 0), some (.d (.int many)), some (.d (.str letters)), none, none, none, none, none]) (P := fun y => ∃ s, y = .str s ∧ ∃ c, s = [c] ∧ c ∈ letters) (K := 1) (T := 1099511626000) (by decide)
    ((List.range q.toNat).map fun (i : Nat) => D.int i) [] (N + 1) L1 (fun x hx N L hp hN => by
      obtain ⟨c, L', e, t, f, hc⟩ := pickS_ok hp (by omega) (s := letters) (by decide) (by decide)
      exact ⟨.str [c], L', x_call (x_cons (x_var rfl) (x_cons (x_var rfl) x_nil)) rfl e, t, f, [c], rfl, c, rfl, hc⟩) t1 (by rw [lr]; omega) (by rw [lr]; show 0 + _ ≤ _; omega)
  rw [lr] at t2 l2
  obtain ⟨ss, rfl, hs⟩ := to_strs ys p2
  obtain ⟨j1, j2, j3⟩ := joinS_len1 ss hs
  rw [List.length_map] at l2
  have hj : opJoin (.str []) (.lst (ss.map .str)) = some (.str (joinS [] ss)) := by
    show (match allS (ss.map .str) with | some ss => if (ss.map List.length).sum + ss.length * ([] : List Nat).length ≤ sizeL then some (D.str (joinS [] ss)) else none | none => none) = _
    rw [allS_map]
    show (if (ss.map List.length).sum + ss.length * 0 ≤ sizeL then some (D.str (joinS [] ss)) else none) = _
    rw [if_pos (by rw [j3]; show _ ≤ 16777216; omega)]
  generalize hst : joinS [] ss = st at j1 j2 hj
  have sl : st.length ≤ 5 := by omega
  obtain ⟨p, L3, E3, t3, f3, a3, b3⟩ := draw_ok t2 (by omega) (m := ((st.length : Int) + 1)) (by omega) (log2_small (by omega) (by omega))
  obtain ⟨g, L4, E4, t4, f4, a4, b4⟩ := draw_ok t3 (by omega) (m := 26) (by decide) (by decide +kernel)
  obtain ⟨z, L5, E5, t5, f5, hz⟩ := pick_ok t4 (by omega) (xs := [.int 1, .int 3, .int 5, .int 7, .int 9, .int 11, .int 15, .int 17, .int 19, .int 21, .int 23, .int 25]) (by decide) (by decide)
  have hz' : ∃ w : Int, z = .int w ∧ 0 ≤ w ∧ w ≤ 25 := by
    simp only [List.mem_cons, List.not_mem_nil, or_false] at hz
    rcases hz with rfl | rfl | rfl | rfl | rfl | rfl | rfl | rfl | rfl | rfl | rfl | rfl <;> exact ⟨_, rfl, by decide, by decide⟩
  obtain ⟨w, rfl, w0, w1⟩ := hz'
  have lr2 : ((List.range ((many : Int)).toNat).map fun (i : Nat) => D.int i).length = many := by rw [List.length_map, List.length_range, Int.toNat_natCast]
  obtain ⟨zs, L6, E6, t6, f6, p6, l6⟩ := comp_draw (i := 7) (e := (e2 opAdd (e2 opAdd (eSl (eVar 3) (oNone) (oSome (eVar 5))) (e2 opIx (eVar 2) (e2 opMod (eB bInt (aCons (e2 opAdd (eVar 6) (e2 opMul (eVar 4) (eVar 7))) (aNil))) (eC (.int 26))))) (eSl (eVar 3) (oSome (eVar 5)) (oNone)))) (ρ := [some (.ref 0), some (.d (.int many)), some (.d (.str letters)), some (.d (.str st)), some (.d (.int w)), some (.d (.int p)), some (.d (.int g)), none]) (P := fun y => ∃ s, y = .str s ∧ WordOk s) (K := 0) (T := 1099511626000) (by decide)
    ((List.range ((many : Int)).toNat).map fun (i : Nat) => D.int i) [] (N + 1 + 1 * q.toNat + 1 + 1 + 1) L5 (fun x hx N L hp hN => by
      obtain ⟨k, hk, rfl⟩ := range_mem hx
      obtain ⟨c, hc, ec⟩ := ixS_at (s := letters) (j := (g + w * (k : Int)) % 26) (by decide) (Int.emod_nonneg _ (by decide)) (Int.emod_lt_of_pos _ (by decide))
      refine ⟨.str (st.take p.toNat ++ [c] ++ st.drop p.toNat), L, ?_, hp.mono (by omega), Fr.refl L, _, rfl, ?_, ?_, ?_⟩
      · refine x_2 (x_2 (x_sl (x_var rfl) x_oNone (x_oSome (x_var rfl) rfl rfl) rfl (sl_to (s := st) (by omega) a3 (by omega))) (x_2 (x_var rfl) (x_2 (x_B (x_cons (x_2 (x_var rfl) (x_2 (x_var rfl) (x_var rfl) rfl rfl (o_mul (m := w) (mulOk_l (by omega)))) rfl rfl rfl) x_nil) (x_vcons rfl x_vnil) rfl) x_c rfl rfl (o_mod (by decide))) rfl rfl ec) rfl rfl (add_str ?_)) (x_sl (x_var rfl) (x_oSome (x_var rfl) rfl rfl) x_oNone rfl (sl_from (s := st) (by omega) a3 (by omega))) rfl rfl (add_str ?_)
        · rw [List.length_take]; show _ + 1 ≤ _; omega
        · rw [List.length_append, List.length_take, List.length_drop]; show _ + 1 + _ ≤ _; omega
      · rw [List.length_append, List.length_append, List.length_take, List.length_drop]; show 1 ≤ _ + 1 + _; omega
      · rw [List.length_append, List.length_append, List.length_take, List.length_drop]; show _ + 1 + _ ≤ 6; omega
      · intro d hd
        rcases List.mem_append.mp hd with hd | hd
        · rcases List.mem_append.mp hd with hd | hd
          · exact j2 d (List.mem_of_mem_take hd)
          · simp only [List.mem_singleton] at hd
            rw [hd]; exact hc
        · exact j2 d (List.mem_of_mem_drop hd)) (t5.mono (by omega)) (by rw [lr2]; omega) (by rw [lr2]; show 0 + _ ≤ _; omega)
  rw [lr2] at t6 l6
  obtain ⟨ws, rfl, hws⟩ := to_strs zs p6
  rw [List.length_map] at l6
  refine ⟨ws, L6, ?_, t6.mono (by omega), ((((f1.trans f2).trans f3).trans f4).trans f5).trans f6, l6, hws⟩
  unfold F__law_words
  refine x_fn (r1 := .ret (.d (.lst (ws.map .str))) L6) rfl ?_ rfl
  refine x_seq (x_asg x_c x_gvar) (x_thenN ?_)
  refine x_seq (x_asg (w := .d (.str st)) (L1 := L2) (x_1 (p := .lst (ss.map .str)) (x_comp (x_iRange (x_call (x_cons (x_var rfl) (x_cons x_c x_nil)) rfl E1) rfl rfl (by omega)) E2) rfl hj) x_gvar) (x_thenN ?_)
  refine x_seq (x_parN (ws := [.d (.int p), .d (.int g)]) (L1 := L4) (x_cons (x_call (x_cons (x_var rfl) (x_cons (x_2 (x_B (x_cons (x_var rfl) x_nil) (x_vcons rfl x_vnil) (len_str (by omega))) x_c rfl rfl rfl) x_nil)) rfl E3) (x_cons (x_call (x_cons (x_var rfl) (x_cons x_c x_nil)) rfl E4) x_nil)) rfl (Nat.le_of_ble_eq_true rfl)) (x_thenN ?_)
  refine x_seq (x_asg (w := .d (.int w)) (L1 := L5) (x_call (x_cons (x_var rfl) (x_cons (x_lst (x_cons x_c (x_cons x_c (x_cons x_c (x_cons x_c (x_cons x_c (x_cons x_c (x_cons x_c (x_cons x_c (x_cons x_c (x_cons x_c (x_cons x_c (x_cons x_c x_nil)))))))))))) rfl (Nat.le_of_ble_eq_true rfl)) x_nil)) rfl E5) x_gvar) (x_thenN ?_)
  exact x_ret (x_comp (x_iRange (x_var rfl) rfl rfl (by omega)) E6)
end K01
end Ev

set_option linter.all false
set_option maxRecDepth 100000
set_option maxHeartbeats 1000000
namespace Ev
namespace K01
/-! deeds as they are drawn: level of ifs, how many -/
mutual
inductive Dd (ns ks kd : List (List Nat)) : Nat → Nat → D → Prop
  | set {i : Nat} {s : List Nat} {e : D} : s ∈ ns → Ex ns 4 e → Dd ns ks kd i 1 (.tup [.str sSet, .str s, e])
  | send {i : Nat} {k : List Nat} {key e : D} : k ∈ kd → (key = .non ∨ ∃ t ∈ ks, key = .str t) → Ex ns 3 e → Dd ns ks kd i 1 (.tup [.str sSend, .str k, key, e])
  | fail {i : Nat} : Dd ns ks kd i 1 (.tup [.str sFail])
  | iff {i a b : Nat} {c : D} {xs ys : List D} : Cn ns 3 c → Ds ns ks kd i a xs → Ds ns ks kd i b ys → Dd ns ks kd (i + 1) (a + b + 1) (.tup [.str sIfS, c, .tup xs, .tup ys])
inductive Ds (ns ks kd : List (List Nat)) : Nat → Nat → List D → Prop
  | nil {i : Nat} : Ds ns ks kd i 0 []
  | snoc {i a b : Nat} {xs : List D} {x : D} : Ds ns ks kd i a xs → Dd ns ks kd i b x → Ds ns ks kd i (a + b) (xs ++ [x])
end
abbrev kNames : List Nat := [110, 97, 109, 101, 115]
abbrev kKeys : List Nat := [107, 101, 121, 115]
abbrev kKinds : List Nat := [107, 105, 110, 100, 115]
abbrev kSends : List Nat := [115, 101, 110, 100, 115]
abbrev kDeeds : List Nat := [100, 101, 101, 100, 115]
section
variable (ns ks kd : List (List Nat))
def plc (s d : Int) : Ob := .dct [.str kNames, .str kKeys, .str kKinds, .str kSends, .str kDeeds] [.d (.lst (ns.map .str)), .d (.lst (ks.map .str)), .d (.lst (kd.map .str)), .d (.int s), .d (.int d)]
def dpl (s d : Int) : D := .dct [.str kNames, .str kKeys, .str kKinds, .str kSends, .str kDeeds] [.lst (ns.map .str), .lst (ks.map .str), .lst (kd.map .str), .int s, .int d]
end
variable {ns ks kd : List (List Nat)}
theorem v_pl {L : Hs} {j : Nat} {s d : Int} (h : L[j]? = some (plc ns ks kd s d)) : vw [] L (.ref j) = some (dpl ns ks kd s d) := by
  show (match L[j]? with | some (Ob.frz x) => some x | some (.lst ws) => (allD ws).map .lst | some (.dct ks ws) => (allD ws).map (.dct ks) | _ => none) = _
  rw [h]
  rfl
theorem put_deeds {L : Hs} {j : Nat} {s d z : Int} (h : L[j]? = some (plc ns ks kd s d)) : putIn [] L (.ref j) (.str [100, 101, 101, 100, 115]) (.d (.int z)) = some (L.set j (plc ns ks kd s z)) := by
  show (match L[j]? with
    | some (Ob.lst ws) => none
    | some (.dct ks' ws) => if isKey (D.str [100, 101, 101, 100, 115]) = true ∧ ks'.length < sizeL then some (L.set j (.dct (putKs (D.str [100, 101, 101, 100, 115]) ks') (putVs (D.str [100, 101, 101, 100, 115]) (W.d (.int z)) ks' ws))) else none
    | some (.dcn ks' ws) => if isNK (D.str [100, 101, 101, 100, 115]) = true ∧ ks'.length < sizeL then some (L.set j (.dcn (nkKs (D.str [100, 101, 101, 100, 115]) ks') (nkVs (D.str [100, 101, 101, 100, 115]) (W.d (.int z)) ks' ws))) else none
    | _ => none) = _
  rw [h]
  rfl
theorem put_sends {L : Hs} {j : Nat} {s d z : Int} (h : L[j]? = some (plc ns ks kd s d)) : putIn [] L (.ref j) (.str [115, 101, 110, 100, 115]) (.d (.int z)) = some (L.set j (plc ns ks kd z d)) := by
  show (match L[j]? with
    | some (Ob.lst ws) => none
    | some (.dct ks' ws) => if isKey (D.str [115, 101, 110, 100, 115]) = true ∧ ks'.length < sizeL then some (L.set j (.dct (putKs (D.str [115, 101, 110, 100, 115]) ks') (putVs (D.str [115, 101, 110, 100, 115]) (W.d (.int z)) ks' ws))) else none
    | some (.dcn ks' ws) => if isNK (D.str [115, 101, 110, 100, 115]) = true ∧ ks'.length < sizeL then some (L.set j (.dcn (nkKs (D.str [115, 101, 110, 100, 115]) ks') (nkVs (D.str [115, 101, 110, 100, 115]) (W.d (.int z)) ks' ws))) else none
    | _ => none) = _
  rw [h]
  rfl
/-- all but the pen and the place at j stay -/
def Fj (j : Nat) (L L' : Hs) : Prop := L.length ≤ L'.length ∧ ∀ k, 0 < k → k ≠ j → k < L.length → L'[k]? = L[k]?
theorem Fj.refl (j : Nat) (L : Hs) : Fj j L L := ⟨Nat.le_refl _, fun _ _ _ _ => rfl⟩
theorem Fj.trans {j : Nat} {L L1 L2 : Hs} (a : Fj j L L1) (b : Fj j L1 L2) : Fj j L L2 := ⟨Nat.le_trans a.1 b.1, fun k h0 h1 h2 => (b.2 k h0 h1 (Nat.lt_of_lt_of_le h2 a.1)).trans (a.2 k h0 h1 h2)⟩
theorem Fr.fj {j : Nat} {L L' : Hs} (a : Fr L L') : Fj j L L' := ⟨a.1, fun k h0 _ h2 => a.2 k h0 h2⟩
theorem Fj.set {j : Nat} {L : Hs} {o : Ob} : Fj j L (L.set j o) := ⟨by rw [List.length_set]; exact Nat.le_refl _, fun k _ h1 _ => List.getElem?_set_ne (fun z => h1 z.symm)⟩
theorem Pn.set {N : Int} {L : Hs} {j : Nat} {o : Ob} (h : Pn N L) (hj : 0 < j) : Pn N (L.set j o) := by
  obtain ⟨cs, b, r, R, rfl, hc, h0, h1⟩ := h
  obtain ⟨k, rfl⟩ : ∃ k, j = k + 1 := ⟨j - 1, by omega⟩
  exact ⟨cs, b, r, R.set k o, rfl, hc, h0, h1⟩
theorem at_lt {L : Hs} {j : Nat} {o : Ob} (h : L[j]? = some o) : j < L.length := (List.getElem?_eq_some_iff.mp h).1
theorem at_set {L : Hs} {j : Nat} {o o' : Ob} (h : L[j]? = some o) : (L.set j o')[j]? = some o' := List.getElem?_set_self (at_lt h)
theorem Fr.at {L L' : Hs} {j : Nat} {o : Ob} (f : Fr L L') (hj : 0 < j) (h : L[j]? = some o) : L'[j]? = some o := (f.2 j hj (at_lt h)).trans h
def cD : Nat → Int
  | 0 => 300
  | i + 1 => 1800 + 2 * (2 + 3 * cD i)
theorem cD_pos : ∀ i, 300 ≤ cD i
  | 0 => by decide
  | i + 1 => by have := cD_pos i; show 300 ≤ 1800 + 2 * (2 + 3 * cD i); omega
def cS (i : Nat) : Int := 2 + 3 * cD i
/-- what _law_deeds is to do -/
def DsOk (ns ks kd : List (List Nat)) (i n : Nat) : Prop := ∀ (j : Nat) (N : Int) (L : Hs) (s d : Int), 0 < j → Pn N L → L[j]? = some (plc ns ks kd s d) → 0 ≤ d → N + cS i ≤ 1099511623000 →
  ∃ (xs : List D) (L' : Hs) (s' d' : Int) (c : Nat), R__law_deeds n [.ref 0, .ref j, .d (.int i)] [] L = .ok (.d (.tup xs)) L' ∧ Pn (N + cS i) L' ∧ Fj j L L' ∧ L'[j]? = some (plc ns ks kd s' d') ∧ 0 ≤ d' ∧ Ds ns ks kd i c xs ∧ (c : Int) = d - d' ∧ xs.length ≤ 3
def DdOk (ns ks kd : List (List Nat)) (i n : Nat) : Prop := ∀ (j : Nat) (N : Int) (L : Hs) (s d : Int), 0 < j → Pn N L → L[j]? = some (plc ns ks kd s d) → 0 ≤ d → N + cD i ≤ 1099511623000 →
  ∃ (x : D) (L' : Hs) (s' d' : Int) (c : Nat), R__law_deed n [.ref 0, .ref j, .d (.int i)] [] L = .ok (.d x) L' ∧ Pn (N + cD i) L' ∧ Fj j L L' ∧ L'[j]? = some (plc ns ks kd s' d') ∧ 0 ≤ d' ∧ Dd ns ks kd i c x ∧ (c : Int) = d - d' + 1
theorem lt3 {q : Int} : opLt (.int q) (.int 3) = some (.bl (decide (q < 3))) := rfl
theorem add_keys : opAdd (.lst [.non, .non]) (.lst (ks.map .str)) = if 2 + ks.length ≤ sizeL then some (.lst ([.non, .non] ++ ks.map .str)) else none := by
  show (if [D.non, .non].length + (ks.map D.str).length ≤ sizeL then some (D.lst ([.non, .non] ++ ks.map .str)) else none) = _
  rw [List.length_map]
  rfl
theorem deed_step {i n : Nat} (hns : 0 < ns.length) (hns2 : ns.length < 1000) (hks : ks.length < 900) (hkd : kd.length < 1000) (hr : ∀ m, i = m + 1 → DsOk ns ks kd m n) : DdOk ns ks kd i (n + 1) := by
  intro j N L s d hj hp hL hd hN
  have pos := cD_pos i
  have c4 : cE 4 = 216 := rfl
  have c3 : cE 3 = 104 := rfl
  rw [R__law_deed]
  obtain ⟨q, L1, E1, t1, f1, a1, b1⟩ := draw_ok hp (by omega) (m := 9) (by decide) (by decide +kernel)
  have hL1 := f1.at hj hL
  have go : ∀ {S : SS} {x : D} {L' : Hs}, S [] [some (.ref 0), some (.ref j), some (.d (.int i)), some (.d (.int q)), none, none] L1 = .ret (.d x) L' → fnBody 3 6 (sSeq (sAsg (eCall 2 F__law_draw (aCons (eVar 0) (aCons (eC (.int 9)) (aNil)))) (gVar 3)) S) [.ref 0, .ref j, .d (.int i)] [] L = .ok (.d x) L' := fun {S x L'} h => x_fn (r1 := .ret (.d x) L') rfl (x_seq (x_asg (x_call (x_cons (x_var rfl) (x_cons x_c x_nil)) rfl E1) x_gvar) (x_thenN h)) rfl
  -- the first test
  have T1 : ∃ k : Bool, (tAnd (tE (e2 opLt (eVar 3) (eC (.int 3)))) (tAnd (tE (e2 opNe (e2 opIx (eVar 1) (eC (.str [107, 105, 110, 100, 115]))) (eLst (aNil)))) (tE (e2 opGt (e2 opIx (eVar 1) (eC (.str [115, 101, 110, 100, 115]))) (eC (.int 0)))))) [] [some (.ref 0), some (.ref j), some (.d (.int i)), some (.d (.int q)), none, none] L1 = .ok k L1 ∧ (k = true → kd ≠ []) := by
    refine ⟨_, z_tAnd (x_tE (x_2 (x_var rfl) x_c rfl rfl lt3) rfl rfl) fun _ => z_tAnd (x_tE (x_2 (x_2 (x_var rfl) x_c (v_pl hL1) rfl rfl) (x_lst x_nil rfl (by decide)) rfl rfl ne_cs) rfl rfl) fun _ => x_tE (x_2 (x_2 (x_var rfl) x_c (v_pl hL1) rfl rfl) x_c rfl rfl rfl) rfl rfl, fun h z => ?_⟩
    subst z
    rw [Bool.and_eq_true, Bool.and_eq_true] at h
    cases h.2.1
  obtain ⟨k1, T1, hk1⟩ := T1
  cases k1 with
  | true =>
    have hkd0 := hk1 rfl
    have hL2 := at_set (o' := plc ns ks kd (s - 1) d) hL1
    have t2 := t1.set (o := plc ns ks kd (s - 1) d) hj
    obtain ⟨y, L3, E3, t3, f3, hy⟩ := pick_ok t2 (by omega) (xs := [.non, .non] ++ ks.map .str) (by simp) (by rw [List.length_append, List.length_map]; show 2 + _ < _; omega)
    have hL3 := f3.at hj hL2
    obtain ⟨z, L4, E4, t4, f4, hz⟩ := pick_ok t3 (by omega) (xs := kd.map .str) (by rw [List.length_map]; exact List.length_pos_iff.mpr hkd0) (by rw [List.length_map]; exact hkd)
    obtain ⟨kk, hkk, rfl⟩ := mem_strs hz
    have hL4 := f4.at hj hL3
    obtain ⟨v, L5, E5, t5, f5, x5⟩ := E_ok hns hns2 3 (N + 1 + 1 + 1) L4 (by decide) (by decide) t4 (by omega)
    have hL5 := f5.at hj hL4
    have hkey : y = .non ∨ ∃ t ∈ ks, y = .str t := by
      rcases List.mem_append.mp hy with h | h
      · simp only [List.mem_cons, List.not_mem_nil, or_false, or_self] at h
        exact .inl h
      · obtain ⟨t, ht, rfl⟩ := mem_strs h
        exact .inr ⟨t, ht, rfl⟩
    refine ⟨.tup [.str sSend, .str kk, y, v], L5, s - 1, d, 1, go ?_, t5.mono (by omega), (f1.fj.trans Fj.set).trans ((f3.trans (f4.trans f5)).fj), hL5, hd, .send hkk hkey x5, by omega⟩
    refine x_seq (r1 := .ret (.d (.tup [.str sSend, .str kk, y, v])) L5) (x_sif T1 (br1 rfl ?_)) x_thenR
    refine x_seq (x_asg (x_2 (x_2 (x_var rfl) x_c (v_pl hL1) rfl rfl) x_c rfl rfl rfl) (x_gitem (x_var rfl) x_c rfl (put_sends hL1))) (x_thenN ?_)
    refine x_seq (x_asg (w := .d y) (L1 := L3) (x_call (x_cons (x_var rfl) (x_cons (x_2 (x_lst (x_cons x_c (x_cons x_c x_nil)) rfl (by decide)) (x_2 (x_var rfl) x_c (v_pl hL2) rfl rfl) rfl rfl (add_keys.trans (if_pos (show 2 + ks.length ≤ 16777216 by omega)))) x_nil)) rfl E3) x_gvar) (x_thenN ?_)
    exact x_ret (x_tup (x_cons x_c (x_cons (x_call (x_cons (x_var rfl) (x_cons (x_2 (x_var rfl) x_c (v_pl hL3) rfl rfl) x_nil)) rfl E4) (x_cons (x_var rfl) (x_cons (x_call (x_cons (x_var rfl) (x_cons (x_2 (x_var rfl) x_c (v_pl hL4) rfl rfl) (x_cons x_c x_nil))) rfl E5) x_nil)))) rfl (Nat.le_of_ble_eq_true rfl))
  | false =>
    have go2 : ∀ {S T : SS} {x : D} {L' : Hs}, T [] [some (.ref 0), some (.ref j), some (.d (.int i)), some (.d (.int q)), none, none] L1 = .ret (.d x) L' → sSeq (sIf (tAnd (tE (e2 opLt (eVar 3) (eC (.int 3)))) (tAnd (tE (e2 opNe (e2 opIx (eVar 1) (eC (.str [107, 105, 110, 100, 115]))) (eLst (aNil)))) (tE (e2 opGt (e2 opIx (eVar 1) (eC (.str [115, 101, 110, 100, 115]))) (eC (.int 0)))))) S sNil) T [] [some (.ref 0), some (.ref j), some (.d (.int i)), some (.d (.int q)), none, none] L1 = .ret (.d x) L' := fun h => x_seq (x_sif T1 (br0 rfl rfl)) (x_thenN h)
    by_cases h3 : q = 3 ∧ 0 < i
    · obtain ⟨m, rfl⟩ : ∃ m, i = m + 1 := ⟨i - 1, by omega⟩
      have ecD : cD (m + 1) = 1800 + 2 * cS m := rfl
      have posS : 902 ≤ cS m := by have := cD_pos m; show 902 ≤ 2 + 3 * cD m; omega
      have cc3 : cC 3 = 1656 := rfl
      rw [ecD] at hN ⊢
      obtain ⟨c, L2, E2, t2, f2, x2⟩ := c_ok hns hns2 3 12 (N + 1) L1 (by decide) (by decide) t1 (by omega)
      have E2 : F__law_c [.ref 0, .d (.lst (ns.map .str)), .d (.int 3)] [] L1 = .ok (.d c) L2 := E2
      have hL2 := f2.at hj hL1
      obtain ⟨xs, L3, s3, d3, c3', E3, t3, f3, hL3, hd3, x3, q3, _⟩ := hr m rfl j (N + 1 + cC 3) L2 s d hj t2 hL2 hd (by omega)
      obtain ⟨ys, L4, s4, d4, c4', E4, t4, f4, hL4, hd4, x4, q4, _⟩ := hr m rfl j (N + 1 + cC 3 + cS m) L3 s3 d3 hj t3 hL3 hd3 (by omega)
      refine ⟨.tup [.str sIfS, c, .tup xs, .tup ys], L4, s4, d4, c3' + c4' + 1, go (go2 ?_), t4.mono (by omega), ((f1.trans f2).fj.trans f3).trans f4, hL4, hd4, .iff x2 x3 x4, by omega⟩
      refine x_seq (r1 := .ret (.d (.tup [.str sIfS, c, .tup xs, .tup ys])) L4) (x_sif (z_tAnd (x_tE (x_2 (x_var rfl) x_c rfl rfl rfl) rfl rfl) fun _ => x_tE (x_2 (x_var rfl) x_c rfl rfl (gt0 (m + 1))) rfl rfl) (br1 (by rw [decide_eq_true h3.1, decide_eq_true h3.2]; rfl) ?_)) x_thenR
      refine x_seq (x_asg (w := .d c) (L1 := L2) (x_call (x_cons (x_var rfl) (x_cons (x_2 (x_var rfl) x_c (v_pl hL1) rfl rfl) (x_cons x_c x_nil))) rfl E2) x_gvar) (x_thenN ?_)
      exact x_ret (x_tup (x_cons x_c (x_cons (x_var rfl) (x_cons (x_call (x_cons (x_var rfl) (x_cons (x_var rfl) (x_cons (x_2 (x_var rfl) x_c rfl rfl (sub1 m)) x_nil))) rfl E3) (x_cons (x_call (x_cons (x_var rfl) (x_cons (x_var rfl) (x_cons (x_2 (x_var rfl) x_c rfl rfl (sub1 m)) x_nil))) rfl E4) x_nil)))) rfl (Nat.le_of_ble_eq_true rfl))
    · have T2 : (tAnd (tE (e2 opEq (eVar 3) (eC (.int 3)))) (tE (e2 opGt (eVar 2) (eC (.int 0))))) [] [some (.ref 0), some (.ref j), some (.d (.int i)), some (.d (.int q)), none, none] L1 = .ok false L1 := by
        have e : (decide (q = 3) && decide (0 < i)) = false := by
          cases h : (decide (q = 3) && decide (0 < i)) with
          | false => rfl
          | true =>
            rw [Bool.and_eq_true, decide_eq_true_eq, decide_eq_true_eq] at h
            exact absurd h h3
        rw [← e]
        exact z_tAnd (x_tE (x_2 (x_var rfl) x_c rfl rfl rfl) rfl rfl) fun _ => x_tE (x_2 (x_var rfl) x_c rfl rfl (gt0 i)) rfl rfl
      -- a set
      have fin : ∀ {N' : Int} {L2 : Hs}, Pn N' L2 → N' ≤ N + 2 → Fr L L2 → L2[j]? = some (plc ns ks kd s d) → (∀ x L', (sRet (eTup (aCons (eC (.str [115, 101, 116])) (aCons (eCall 2 F__law_pick (aCons (eVar 0) (aCons (e2 opIx (eVar 1) (eC (.str [110, 97, 109, 101, 115]))) (aNil)))) (aCons (eCall 3 F__law_e (aCons (eVar 0) (aCons (e2 opIx (eVar 1) (eC (.str [110, 97, 109, 101, 115]))) (aCons (eC (.int 4)) (aNil))))) (aNil)))))) [] [some (.ref 0), some (.ref j), some (.d (.int i)), some (.d (.int q)), none, none] L2 = .ret (.d x) L' → R__law_deed (n + 1) [.ref 0, .ref j, .d (.int i)] [] L = .ok (.d x) L') →
          ∃ (x : D) (L' : Hs) (s' d' : Int) (c : Nat), R__law_deed (n + 1) [.ref 0, .ref j, .d (.int i)] [] L = .ok (.d x) L' ∧ Pn (N + cD i) L' ∧ Fj j L L' ∧ L'[j]? = some (plc ns ks kd s' d') ∧ 0 ≤ d' ∧ Dd ns ks kd i c x ∧ (c : Int) = d - d' + 1 := by
        intro N' L2 t2 hN' f2 hL2 hgo
        obtain ⟨y, L3, E3, t3, f3, hy⟩ := pick_ok t2 (by omega) (xs := ns.map .str) (by rw [List.length_map]; exact hns) (by rw [List.length_map]; exact hns2)
        obtain ⟨nm, hnm, rfl⟩ := mem_strs hy
        have hL3 := f3.at hj hL2
        obtain ⟨v, L4, E4, t4, f4, x4⟩ := E_ok hns hns2 4 (N' + 1) L3 (by decide) (by decide) t3 (by omega)
        refine ⟨.tup [.str sSet, .str nm, v], L4, s, d, 1, hgo _ _ ?_, t4.mono (by omega), ((f2.trans f3).trans f4).fj, f4.at hj hL3, hd, .set hnm x4, by omega⟩
        exact x_ret (x_tup (x_cons x_c (x_cons (x_call (x_cons (x_var rfl) (x_cons (x_2 (x_var rfl) x_c (v_pl hL2) rfl rfl) x_nil)) rfl E3) (x_cons (x_call (x_cons (x_var rfl) (x_cons (x_2 (x_var rfl) x_c (v_pl hL3) rfl rfl) (x_cons x_c x_nil))) rfl E4) x_nil))) rfl (Nat.le_of_ble_eq_true rfl))
      rw [R__law_deed] at fin
      by_cases h4 : q = 4
      · obtain ⟨p, L2, E2, t2, f2, a2, b2⟩ := draw_ok t1 (by omega) (m := 3) (by decide) (by decide +kernel)
        by_cases hp0 : p = 0
        · refine ⟨.tup [.str sFail], L2, s, d, 1, go (go2 ?_), t2.mono (by omega), (f1.trans f2).fj, f2.at hj hL1, hd, .fail, by omega⟩
          refine x_seq (x_sif T2 (br0 rfl rfl)) (x_thenN (x_seq (r1 := .ret (.d (.tup [.str sFail])) L2) (x_sif (x_tAnd (x_tE (x_2 (x_var rfl) x_c rfl rfl rfl) rfl rfl) (br1 (decide_eq_true h4) (x_tE (x_2 (x_call (x_cons (x_var rfl) (x_cons x_c x_nil)) rfl E2) x_c rfl rfl rfl) rfl rfl))) (br1 (decide_eq_true hp0) (x_ret (x_tup (x_cons x_c x_nil) rfl (by decide))))) x_thenR))
        · refine fin t2 (by omega) (f1.trans f2) (f2.at hj hL1) fun x L' h => go (go2 ?_)
          exact x_seq (x_sif T2 (br0 rfl rfl)) (x_thenN (x_seq (x_sif (x_tAnd (x_tE (x_2 (x_var rfl) x_c rfl rfl rfl) rfl rfl) (br1 (decide_eq_true h4) (x_tE (x_2 (x_call (x_cons (x_var rfl) (x_cons x_c x_nil)) rfl E2) x_c rfl rfl rfl) rfl rfl))) (br0 (decide_eq_false hp0) rfl)) (x_thenN h)))
      · refine fin t1 (by omega) f1 hL1 fun x L' h => go (go2 ?_)
        exact x_seq (x_sif T2 (br0 rfl rfl)) (x_thenN (x_seq (x_sif (x_tAnd (x_tE (x_2 (x_var rfl) x_c rfl rfl rfl) rfl rfl) (br0 (decide_eq_false h4) rfl)) (br0 rfl rfl)) (x_thenN h)))
end K01
end Ev

set_option linter.all false
set_option maxRecDepth 100000
set_option maxHeartbeats 1000000
namespace Ev
namespace K01
variable {ns ks kd : List (List Nat)}
theorem lst_of {L : Hs} {f : Nat} {ws : List W} (h : L[f]? = some (.lst ws)) : lstAt [] L (.ref f) = some (f, ws) := by
  show (match L[f]? with | some (Ob.lst ws) => some (f, ws) | _ => none) = _
  rw [h]
theorem v_lst {L : Hs} {f : Nat} {xs : List D} (h : L[f]? = some (.lst (xs.map .d))) : vw [] L (.ref f) = some (.lst xs) := by
  show (match L[f]? with | some (Ob.frz x) => some x | some (.lst ws) => (allD ws).map .lst | some (.dct ks ws) => (allD ws).map (.dct ks) | _ => none) = _
  rw [h]
  show (allD (xs.map .d)).map D.lst = _
  have : ∀ xs : List D, allD (xs.map .d) = some xs := fun xs => by
    induction xs with
    | nil => rfl
    | cons x xs ih =>
      show (match allD (xs.map .d) with | some ys => some (x :: ys) | none => none) = _
      rw [ih]
  rw [this]
  rfl
def dBody (F : Fn) : SS := (sIf (tE (e2 opGt (e2 opIx (eVar 1) (eC (.str [100, 101, 101, 100, 115]))) (eC (.int 0)))) (sSeq (sAsg (e2 opSub (e2 opIx (eVar 1) (eC (.str [100, 101, 101, 100, 115]))) (eC (.int 1))) (gItem (eVar 1) (eC (.str [100, 101, 101, 100, 115]))))
  (sExpr (eApp (eVar 3) (eCall 3 F (aCons (eVar 0) (aCons (eVar 1) (aCons (eVar 2) (aNil)))))))) (sNil))
theorem deeds_loop {i n j f : Nat} {L0 : Hs} (hd : DdOk ns ks kd i n) (hj : 0 < j) (hf : j < f) (hf0 : f = L0.length) : ∀ (xs acc : List D) (N : Int) (L : Hs) (s d : Int) (c : Nat) (o4 : Option W), Pn N L → L[j]? = some (plc ns ks kd s d) → 0 ≤ d → L[f]? = some (.lst (acc.map .d)) → acc.length + xs.length ≤ 3 → Ds ns ks kd i c acc → N + cD i * xs.length ≤ 1099511623000 →
    (∀ k, 0 < k → k ≠ j → k < L0.length → L[k]? = L0[k]?) →
    ∃ (acc' : List D) (L' : Hs) (s' d' : Int) (c' : Nat) (o4' : Option W), forGo (gVar 4) (dBody (R__law_deed n)) [] xs [some (.ref 0), some (.ref j), some (.d (.int i)), some (.ref f), o4] L = .next [some (.ref 0), some (.ref j), some (.d (.int i)), some (.ref f), o4'] L' ∧ Pn (N + cD i * xs.length) L' ∧ L'[j]? = some (plc ns ks kd s' d') ∧ 0 ≤ d' ∧ L'[f]? = some (.lst (acc'.map .d)) ∧ acc'.length ≤ 3 ∧ Ds ns ks kd i c' acc' ∧ (c' : Int) = c + (d - d') ∧
      (∀ k, 0 < k → k ≠ j → k < L0.length → L'[k]? = L0[k]?)
  | [], acc, N, L, s, d, c, o4, hp, hL, h0, hF, hl, hD, hN, hfr => ⟨acc, L, s, d, c, o4, rfl, hp.mono (by simp), hL, h0, hF, hl, hD, by omega, hfr⟩
  | x :: xs, acc, N, L, s, d, c, o4, hp, hL, h0, hF, hl, hD, hN, hfr => by
    have pos := cD_pos i
    have hm : cD i * ((x :: xs).length : Int) = cD i * xs.length + cD i := by rw [List.length_cons, Int.natCast_succ, Int.mul_add, Int.mul_one]
    rw [hm] at hN ⊢
    rw [List.length_cons] at hl
    have hKx : 0 ≤ cD i * (xs.length : Int) := Int.mul_nonneg (by omega) (by omega)
    have T : ∀ o, (tE (e2 opGt (e2 opIx (eVar 1) (eC (.str [100, 101, 101, 100, 115]))) (eC (.int 0)))) [] [some (.ref 0), some (.ref j), some (.d (.int i)), some (.ref f), o] L = .ok (decide (0 < d)) L := fun o => x_tE (x_2 (x_2 (x_var rfl) x_c (v_pl hL) rfl rfl) x_c rfl rfl rfl) rfl rfl
    by_cases hd0 : 0 < d
    · have hL1 := at_set (o' := plc ns ks kd s (d - 1)) hL
      have t1 := hp.set (o := plc ns ks kd s (d - 1)) hj
      have hF1 : (L.set j (plc ns ks kd s (d - 1)))[f]? = some (.lst (acc.map .d)) := (List.getElem?_set_ne (by omega)).trans hF
      obtain ⟨y, L2, s2, d2, cx, E2, t2, f2, hL2, hd2, x2, q2⟩ := hd j N _ s (d - 1) hj t1 hL1 (by omega) (by omega)
      have hF2 : L2[f]? = some (.lst (acc.map .d)) := (f2.2 f (by omega) (by omega) (at_lt hF1)).trans hF1
      have hF3 := at_set (o' := .lst ((acc ++ [y]).map .d)) hF2
      have hL3 : (L2.set f (.lst ((acc ++ [y]).map .d)))[j]? = some (plc ns ks kd s2 d2) := (List.getElem?_set_ne (by omega)).trans hL2
      obtain ⟨acc', L', s', d', c', o4', E, tt, hLL, hdd, hFF, hll, hDD, hcc, hfrr⟩ := deeds_loop hd hj hf hf0 xs (acc ++ [y]) (N + cD i) (L2.set f (.lst ((acc ++ [y]).map .d))) s2 d2 (c + cx) (some (.d x)) (t2.set (by omega)) hL3 hd2 hF3 (by rw [List.length_append]; show acc.length + 1 + _ ≤ _; omega) (.snoc hD x2) (by omega) (fun k k0 kj kl => by
        rw [List.getElem?_set_ne (by omega), f2.2 k k0 kj (by
          rw [List.length_set]
          have := at_lt hF
          omega), List.getElem?_set_ne (fun z => kj z.symm)]
        exact hfr k k0 kj kl)
      refine ⟨acc', L', s', d', c', o4', x_forcons x_gvar (sr1 := .next [some (.ref 0), some (.ref j), some (.d (.int i)), some (.ref f), some (.d x)] (L2.set f (.lst ((acc ++ [y]).map .d)))) ?_ (x_turnN E), tt.mono (by omega), hLL, hdd, hFF, hll, hDD, by omega, hfrr⟩
      refine x_sif (T _) (br1 (decide_eq_true hd0) ?_)
      refine x_seq (x_asg (x_2 (x_2 (x_var rfl) x_c (v_pl hL) rfl rfl) x_c rfl rfl rfl) (x_gitem (x_var rfl) x_c rfl (put_deeds hL))) (x_thenN ?_)
      refine x_expr (x_app (x_var rfl) (by rw [lst_of hF1]; rfl) (x_call (x_cons (x_var rfl) (x_cons (x_var rfl) (x_cons (x_var rfl) x_nil))) rfl E2) (lst_of hF2) (by rw [List.length_map]; show _ < 16777216; omega) ?_)
      rw [List.map_append]
      rfl
    · obtain ⟨acc', L', s', d', c', o4', E, tt, hLL, hdd, hFF, hll, hDD, hcc, hfrr⟩ := deeds_loop hd hj hf hf0 xs acc N L s d c (some (.d x)) hp hL h0 hF (by omega) hD (by omega) hfr
      exact ⟨acc', L', s', d', c', o4', x_forcons x_gvar (sr1 := .next [some (.ref 0), some (.ref j), some (.d (.int i)), some (.ref f), some (.d x)] L) (x_sif (T _) (br0 (decide_eq_false hd0) rfl)) (x_turnN E), tt.mono (by omega), hLL, hdd, hFF, hll, hDD, by omega, hfrr⟩
theorem deeds_step {i n : Nat} (hd : DdOk ns ks kd i n) : DsOk ns ks kd i (n + 1) := by
  intro j N L s d hj hp hL h0 hN
  have pos := cD_pos i
  have ecs : cS i = 2 + 3 * cD i := rfl
  rw [ecs] at hN ⊢
  rw [R__law_deeds]
  have hF1 : (L ++ [Ob.lst (([] : List D).map .d)])[0 + L.length]? = some (.lst (([] : List D).map .d)) := by
    rw [Nat.zero_add]
    exact List.getElem?_concat_length
  have f0 : Fr L (L ++ [Ob.lst (([] : List D).map .d)]) := Fr.add _
  have t0 := hp.add (Ob.lst (([] : List D).map .d))
  obtain ⟨q, L1, E1, t1, f1, a1, b1⟩ := draw_ok t0 (by omega) (m := 4) (by decide) (by decide +kernel)
  have jl := at_lt hL
  have hL1 := f1.at hj (f0.at hj hL)
  have lr : ((List.range q.toNat).map fun (k : Nat) => D.int k).length = q.toNat := by rw [List.length_map, List.length_range]
  have hk3 : cD i * (q.toNat : Int) ≤ 3 * cD i := by
    rw [Int.mul_comm]
    exact Int.mul_le_mul_of_nonneg_right (by omega) (by omega)
  obtain ⟨acc', L', s', d', c', o4', E, tt, hLL, hdd, hFF, hll, hDD, hcc, hfrr⟩ := deeds_loop (f := 0 + L.length) (L0 := L) hd hj (by omega) (by omega) ((List.range q.toNat).map fun (k : Nat) => D.int k) [] (N + 1) L1 s d 0 none t1 hL1 h0 (f1.at (by omega) hF1) (by rw [lr]; show 0 + _ ≤ _; omega) .nil (by rw [lr]; omega) (fun k k0 kj kl => by
    rw [f1.2 k k0 (by rw [List.length_append]; omega)]
    exact f0.2 k k0 kl)
  rw [lr] at tt
  refine ⟨acc', L', s', d', c', ?_, tt.mono (by omega), ⟨?_, hfrr⟩, hLL, hdd, hDD, by omega, hll⟩
  · refine x_fn (r1 := .ret (.d (.tup acc')) L') rfl ?_ rfl
    refine x_seq (x_asg (x_lstM x_nil (by decide)) x_gvar) (x_thenN ?_)
    refine x_seq (x_for (x_iRange (x_call (x_cons (x_var rfl) (x_cons x_c x_nil)) rfl E1) rfl rfl (by omega)) E) (x_thenN ?_)
    exact x_ret (x_B (x_cons (x_var rfl) x_nil) (x_vcons (v_lst hFF) x_vnil) rfl)
  · have := at_lt hFF
    omega
theorem deeds_ok (hns : 0 < ns.length) (hns2 : ns.length < 1000) (hks : ks.length < 900) (hkd : kd.length < 1000) : ∀ (i n : Nat), 2 * i + 2 ≤ n → DsOk ns ks kd i n
  | 0, n, h => by
    obtain ⟨n, rfl⟩ : ∃ m, n = m + 1 + 1 := ⟨n - 2, by omega⟩
    exact deeds_step (deed_step hns hns2 hks hkd fun m z => by omega)
  | i + 1, n, h => by
    obtain ⟨n, rfl⟩ : ∃ m, n = m + 1 + 1 := ⟨n - 2, by omega⟩
    refine deeds_step (deed_step hns hns2 hks hkd fun m z => ?_)
    have : m = i := by omega
    subst this
    exact deeds_ok hns hns2 hks hkd m n (by omega)
theorem rowy_app {ys : List D} (h : rowy ys = false) : ∀ xs : List D, rowy (xs ++ ys) = false
  | [] => h
  | x :: xs => by
    have ih := rowy_app h xs
    show rowy (x :: (xs ++ ys)) = false
    unfold rowy
    split
    · rename_i e
      cases e
    · rename_i e
      cases e
      exact ih
    · rfl
/-- a handler as it is drawn -/
theorem handler_draw (hns : 0 < ns.length) (hns2 : ns.length < 1000) (hks : ks.length < 900) (hkd : kd.length < 1000) {N : Int} {L : Hs} (hp : Pn N L) (hN : N ≤ 1099511000000) (sends : Int) :
    ∃ (xs : List D) (L' : Hs) (c : Nat), F__law_handler [.ref 0, .d (.lst (ns.map .str)), .d (.lst (ks.map .str)), .d (.lst (kd.map .str)), .d (.int sends)] [] L = .ok (.d (.tup xs)) L' ∧ Pn (N + 500000) L' ∧ Fr L L' ∧ Ds ns ks kd 3 c xs ∧ c ≤ 12 ∧ xs.length ≤ 4 := by
  have hP : (L ++ [plc ns ks kd sends 11])[0 + L.length]? = some (plc ns ks kd sends 11) := by
    rw [Nat.zero_add]
    exact List.getElem?_concat_length
  have lp := hp.len
  have f0 : Fr L (L ++ [plc ns ks kd sends 11]) := Fr.add _
  have t0 := hp.add (plc ns ks kd sends 11)
  have c3 : cS 3 = 427118 := rfl
  obtain ⟨xs, L1, s1, d1, c, E1, t1, f1, hL1, hd1, x1, q1, l1⟩ := deeds_ok hns hns2 hks hkd 3 12 (by decide) (0 + L.length) N _ sends 11 (by omega) t0 hP (by decide) (by omega)
  have E1 : F__law_deeds [.ref 0, .ref (0 + L.length), .d (.int 3)] [] (L ++ [plc ns ks kd sends 11]) = .ok (.d (.tup xs)) L1 := E1
  have fr1 : Fr L L1 := ⟨Nat.le_trans f0.1 f1.1, fun k k0 kl => by rw [f1.2 k k0 (by omega) (by rw [List.length_append]; omega)]; exact f0.2 k k0 kl⟩
  have c2 : cE 2 = 48 := rfl
  have go : ∀ {xs' : List D} {L' : Hs}, (sIf (tAnd (tE (e2 opNe (eVar 3) (eLst (aNil)))) (tAnd (tE (e2 opGt (e2 opIx (eVar 5) (eC (.str [115, 101, 110, 100, 115]))) (eC (.int 0)))) (tE (e2 opGt (eCall 2 F__law_draw (aCons (eVar 0) (aCons (eC (.int 3)) (aNil)))) (eC (.int 0)))))) (sAsg (e2 opAdd (eVar 6) (eTup (aCons (eTup (aCons (eC (.str [115, 101, 110, 100])) (aCons (eCall 2 F__law_pick (aCons (eVar 0) (aCons (eVar 3) (aNil)))) (aCons (eC .non) (aCons (eCall 3 F__law_e (aCons (eVar 0) (aCons (eVar 1) (aCons (eC (.int 2)) (aNil))))) (aNil)))))) (aNil)))) (gVar 6)) (sNil)) [] [some (.ref 0), some (.d (.lst (ns.map .str))), some (.d (.lst (ks.map .str))), some (.d (.lst (kd.map .str))), some (.d (.int sends)), some (.ref (0 + L.length)), some (.d (.tup xs))] L1 = .next [some (.ref 0), some (.d (.lst (ns.map .str))), some (.d (.lst (ks.map .str))), some (.d (.lst (kd.map .str))), some (.d (.int sends)), some (.ref (0 + L.length)), some (.d (.tup xs'))] L' →
      F__law_handler [.ref 0, .d (.lst (ns.map .str)), .d (.lst (ks.map .str)), .d (.lst (kd.map .str)), .d (.int sends)] [] L = .ok (.d (.tup xs')) L' := fun {xs' L'} h => by
    unfold F__law_handler
    exact x_fn (r1 := .ret (.d (.tup xs')) L') rfl (x_seq (x_asg (w := .ref (0 + L.length)) (L1 := L ++ [plc ns ks kd sends 11]) (x_dctM (x_pcons x_c (x_var rfl) (x_pcons x_c (x_var rfl) (x_pcons x_c (x_var rfl) (x_pcons x_c (x_var rfl) (x_pcons x_c x_c x_pnil))))) (x_vcons rfl (x_vcons rfl (x_vcons rfl (x_vcons rfl (x_vcons rfl x_vnil))))) rfl) x_gvar) (x_thenN (x_seq (x_asg (x_call (x_cons (x_var rfl) (x_cons (x_var rfl) (x_cons x_c x_nil))) rfl E1) x_gvar) (x_thenN (x_seq h (x_thenN (x_ret (x_var rfl)))))))) rfl
  by_cases h1 : (!(kd.map D.str).isEmpty) = true ∧ 0 < s1
  · obtain ⟨q, L2, E2, t2, f2, a2, b2⟩ := draw_ok t1 (by omega) (m := 3) (by decide) (by decide +kernel)
    have T : (tAnd (tE (e2 opNe (eVar 3) (eLst (aNil)))) (tAnd (tE (e2 opGt (e2 opIx (eVar 5) (eC (.str [115, 101, 110, 100, 115]))) (eC (.int 0)))) (tE (e2 opGt (eCall 2 F__law_draw (aCons (eVar 0) (aCons (eC (.int 3)) (aNil)))) (eC (.int 0)))))) [] [some (.ref 0), some (.d (.lst (ns.map .str))), some (.d (.lst (ks.map .str))), some (.d (.lst (kd.map .str))), some (.d (.int sends)), some (.ref (0 + L.length)), some (.d (.tup xs))] L1 = .ok (decide (0 < q)) L2 :=
      x_tAnd (x_tE (x_2 (x_var rfl) (x_lst x_nil rfl (by decide)) rfl rfl ne_cs) rfl rfl) (br1 h1.1 (x_tAnd (x_tE (x_2 (x_2 (x_var rfl) x_c (v_pl hL1) rfl rfl) x_c rfl rfl rfl) rfl rfl) (br1 (decide_eq_true h1.2) (x_tE (x_2 (x_call (x_cons (x_var rfl) (x_cons x_c x_nil)) rfl E2) x_c rfl rfl rfl) rfl rfl))))
    by_cases hq : 0 < q
    · have hk0 : 0 < kd.length := by
        have h := h1.1
        cases kd with
        | nil => cases h
        | cons _ _ => exact Nat.succ_pos _
      obtain ⟨y, L3, E3, t3, f3, hy⟩ := pick_ok t2 (by omega) (xs := kd.map .str) (by rw [List.length_map]; exact hk0) (by rw [List.length_map]; exact hkd)
      obtain ⟨kk, hkk, rfl⟩ := mem_strs hy
      obtain ⟨v, L4, E4, t4, f4, x4⟩ := E_ok hns hns2 2 (N + cS 3 + 1 + 1) L3 (by decide) (by decide) t3 (by omega)
      have x4' : Ex ns 3 v := by
        have up : ∀ {d e}, Ex ns d e → Ex ns (d + 1) e := fun {d e} h => by
          induction h with
          | val a b => exact .val a b
          | body => exact .body
          | row a => exact .row a
          | op a _ _ ih1 ih2 => exact .op a ih1 ih2
        exact up x4
      refine ⟨xs ++ [.tup [.str sSend, .str kk, .non, v]], L4, c + 1, go ?_, t4.mono (by omega), ((fr1.trans f2).trans f3).trans f4, .snoc x1 (.send hkk (.inl rfl) x4'), by omega, by rw [List.length_append]; show _ + 1 ≤ _; omega⟩
      refine x_sif T (br1 (decide_eq_true hq) (x_asg (w := .d (.tup (xs ++ [.tup [.str sSend, .str kk, .non, v]]))) (L1 := L4) (x_2 (x_var rfl) (x_tup (x_cons (x_tup (x_cons x_c (x_cons (x_call (x_cons (x_var rfl) (x_cons (x_var rfl) x_nil)) rfl E3) (x_cons x_c (x_cons (x_call (x_cons (x_var rfl) (x_cons (x_var rfl) (x_cons x_c x_nil))) rfl E4) x_nil)))) rfl (Nat.le_of_ble_eq_true rfl)) x_nil) rfl (Nat.le_of_ble_eq_true rfl)) rfl rfl (a_tup ?_ ?_)) x_gvar))
      · show xs.length + 1 ≤ 16777216
        omega
      · rw [rowy_app rfl]
        cases xs.isEmpty <;> rfl
    · exact ⟨xs, L2, c, go (x_sif T (br0 (decide_eq_false hq) rfl)), t2.mono (by omega), fr1.trans f2, x1, by omega, by omega⟩
  · refine ⟨xs, L1, c, go (x_sif (k := false) ?_ (br0 rfl rfl)), t1.mono (by omega), fr1, x1, by omega, by omega⟩
    refine x_tAnd (x_tE (x_2 (x_var rfl) (x_lst x_nil rfl (by decide)) rfl rfl ne_cs) rfl rfl) ?_
    cases h : (!(kd.map D.str).isEmpty) with
    | false => exact br0 rfl rfl
    | true => exact br1 rfl (x_tAnd (x_tE (x_2 (x_2 (x_var rfl) x_c (v_pl hL1) rfl rfl) x_c rfl rfl rfl) rfl rfl) (br0 (decide_eq_false fun z => h1 ⟨h, z⟩) rfl))
end K01
end Ev

set_option linter.all false
set_option maxRecDepth 100000
set_option maxHeartbeats 1000000
namespace Ev
namespace K01
/-! data with tuples of at most l items, at most d deep -/
def okS (s : List Nat) : Bool := s.all (· < 0x110000) && decide (s.length ≤ 1000)
def gd (l : Nat) : Nat → D → Bool
  | 0, .tup _ => false
  | d + 1, .tup xs => decide (xs.length ≤ l) && xs.all (gd l d)
  | _, .str s => okS s
  | _, .non => true
  | _, .bl _ => true
  | _, .int _ => true
  | _, .lst _ => true
  | _, .dct _ _ => true
  | _, _ => false
theorem gd_tup {l d : Nat} {xs : List D} : gd l (d + 1) (.tup xs) = true ↔ xs.length ≤ l ∧ ∀ x ∈ xs, gd l d x = true := by
  show (decide (xs.length ≤ l) && xs.all (gd l d)) = true ↔ _
  rw [Bool.and_eq_true, decide_eq_true_eq, List.all_eq_true]
theorem gd_mono {l l' : Nat} (hl : l ≤ l') : ∀ (d d' : Nat) (v : D), d ≤ d' → gd l d v = true → gd l' d' v = true
  | 0, d', v, hd, h => by
    cases v with
    | tup xs => cases h
    | _ => cases d' <;> exact h
  | d + 1, d', v, hd, h => by
    obtain ⟨d', rfl⟩ : ∃ m, d' = m + 1 := ⟨d' - 1, by omega⟩
    cases v with
    | tup xs =>
      have h := gd_tup.mp h
      exact gd_tup.mpr ⟨Nat.le_trans h.1 hl, fun x hx => gd_mono hl d d' x (by omega) (h.2 x hx)⟩
    | _ => exact h
theorem fines_of : ∀ xs : List D, (∀ x ∈ xs, fine x = true) → fines xs = true
  | [], _ => rfl
  | x :: xs, h => by
    show (fine x && fines xs) = true
    rw [h x (List.mem_cons_self ..), fines_of xs fun y hy => h y (List.mem_cons_of_mem _ hy)]
    rfl
theorem gd_fine {l : Nat} (hl : l ≤ 1000) : ∀ (d : Nat) (v : D), gd l d v = true → fine v = true
  | 0, v, h => by
    cases v with
    | tup xs => cases h
    | _ => exact h
  | d + 1, v, h => by
    cases v with
    | tup xs =>
      have h := gd_tup.mp h
      show (decide (xs.length ≤ 1000) && fines xs) = true
      rw [decide_eq_true (Nat.le_trans h.1 hl), fines_of xs fun x hx => gd_fine hl d x (h.2 x hx)]
      rfl
    | _ => exact h
/-! what is drawn -/
theorem okS_word {s : List Nat} (h : WordOk s) : okS s = true := by
  show (s.all (· < 0x110000) && decide (s.length ≤ 1000)) = true
  rw [Bool.and_eq_true, decide_eq_true_eq, List.all_eq_true]
  refine ⟨fun c hc => ?_, by have := h.2.1; omega⟩
  have : ∀ c ∈ letters, decide (c < 0x110000) = true := by decide
  exact this c (h.2.2 c hc)
theorem gd_str {l d : Nat} {s : List Nat} (h : okS s = true) : gd l d (.str s) = true := by cases d <;> exact h
theorem gd_int {l d : Nat} {n : Int} : gd l d (.int n) = true := by cases d <;> rfl
theorem gd_non {l d : Nat} : gd l d .non = true := by cases d <;> rfl
theorem gd1 {l d : Nat} {a : D} (hl : 4 ≤ l) (h : gd l d a = true) : gd l (d + 1) (.tup [a]) = true := gd_tup.mpr ⟨by show 1 ≤ l; omega, fun x hx => by
  rcases List.mem_cons.mp hx with rfl | hx
  · exact h
  · cases hx⟩
theorem gd2 {l d : Nat} {a b : D} (hl : 4 ≤ l) (h : gd l d a = true) (h2 : gd l d b = true) : gd l (d + 1) (.tup [a, b]) = true := gd_tup.mpr ⟨by show 2 ≤ l; omega, fun x hx => by
  rcases List.mem_cons.mp hx with rfl | hx
  · exact h
  rcases List.mem_cons.mp hx with rfl | hx
  · exact h2
  · cases hx⟩
theorem gd3 {l d : Nat} {a b c : D} (hl : 4 ≤ l) (h : gd l d a = true) (h2 : gd l d b = true) (h3 : gd l d c = true) : gd l (d + 1) (.tup [a, b, c]) = true := gd_tup.mpr ⟨by show 3 ≤ l; omega, fun x hx => by
  rcases List.mem_cons.mp hx with rfl | hx
  · exact h
  rcases List.mem_cons.mp hx with rfl | hx
  · exact h2
  rcases List.mem_cons.mp hx with rfl | hx
  · exact h3
  · cases hx⟩
theorem gd4 {l d : Nat} {a b c e : D} (hl : 4 ≤ l) (h : gd l d a = true) (h2 : gd l d b = true) (h3 : gd l d c = true) (h4 : gd l d e = true) : gd l (d + 1) (.tup [a, b, c, e]) = true := gd_tup.mpr ⟨by show 4 ≤ l; omega, fun x hx => by
  rcases List.mem_cons.mp hx with rfl | hx
  · exact h
  rcases List.mem_cons.mp hx with rfl | hx
  · exact h2
  rcases List.mem_cons.mp hx with rfl | hx
  · exact h3
  rcases List.mem_cons.mp hx with rfl | hx
  · exact h4
  · cases hx⟩
section
variable {ns ks kd : List (List Nat)}
theorem Ex_gd (hn : ∀ s ∈ ns, WordOk s) {l : Nat} (hl : 4 ≤ l) {d : Nat} {v : D} (h : Ex ns d v) : gd l d v = true := by
  induction h with
  | val a b => exact gd2 hl (gd_str rfl) gd_int
  | body => exact gd1 hl (gd_str rfl)
  | row a => exact gd2 hl (gd_str rfl) (gd_str (okS_word (hn _ a)))
  | op a _ _ ih1 ih2 =>
    refine gd3 hl (gd_str ?_) ih1 ih2
    have : ∀ o ∈ [[43], [45], [42]], okS o = true := by decide
    exact this _ a
theorem Cn_gd (hn : ∀ s ∈ ns, WordOk s) {l : Nat} (hl : 4 ≤ l) {d : Nat} {v : D} (h : Cn ns d v) : gd l (d + 3) v = true := by
  induction h with
  | @cmp d o a b h1 h2 h3 =>
    refine gd_mono (Nat.le_refl _) 4 _ _ (by omega) (gd3 hl (gd_str ?_) (Ex_gd hn hl h2) (gd_mono (Nat.le_refl _) 2 3 _ (by decide) (Ex_gd hn hl h3)))
    have : ∀ o ∈ [[60], [61]], okS o = true := by decide
    exact this _ h1
  | no _ ih => exact gd2 hl (gd_str rfl) ih
  | jn a _ _ ih1 ih2 =>
    refine gd3 hl (gd_str ?_) ih1 ih2
    have : ∀ o ∈ [sAnd, sOr], okS o = true := by decide
    exact this _ a
theorem Dd_gd (hn : ∀ s ∈ ns, WordOk s) (hk : ∀ s ∈ ks, WordOk s) (hd : ∀ s ∈ kd, WordOk s) {l : Nat} (hl : 12 ≤ l) : ∀ (i c : Nat) (v : D), c ≤ 12 → Dd ns ks kd i c v → gd l (7 + 2 * i) v = true := by
  intro i
  induction i with
  | zero =>
    intro c v hc h
    cases h with
    | set a b => exact gd3 (by omega) (gd_str rfl) (gd_str (okS_word (hn _ a))) (gd_mono (Nat.le_refl _) 4 6 _ (by decide) (Ex_gd hn (by omega) b))
    | send a b e =>
      refine gd4 (by omega) (gd_str rfl) (gd_str (okS_word (hd _ a))) ?_ (gd_mono (Nat.le_refl _) 3 6 _ (by decide) (Ex_gd hn (by omega) e))
      rcases b with rfl | ⟨t, ht, rfl⟩
      · exact gd_non
      · exact gd_str (okS_word (hk _ ht))
    | fail => exact gd1 (by omega) (gd_str rfl)
  | succ i ih =>
    intro c v hc h
    show gd l ((7 + 2 * i + 1) + 1) v = true
    have ds : ∀ (b : Nat) (xs : List D), b ≤ 12 → Ds ns ks kd i b xs → xs.length ≤ b ∧ ∀ x ∈ xs, gd l (7 + 2 * i) x = true := by
      intro b xs hb hx
      generalize hL : xs.length = n
      induction n generalizing b xs with
      | zero =>
        cases hx with
        | nil => exact ⟨Nat.zero_le _, fun x hx => by cases hx⟩
        | snoc h1 h2 => rw [List.length_append] at hL; cases hL
      | succ n ihn =>
        cases hx with
        | nil => cases hL
        | @snoc _ a b xs x h1 h2 =>
          have hb1 : 1 ≤ b := by cases h2 <;> omega
          have := ihn a xs (by omega) h1 (by rw [List.length_append] at hL; exact Nat.succ.inj hL)
          refine ⟨by omega, fun y hy => ?_⟩
          rcases List.mem_append.mp hy with hy | hy
          · exact this.2 y hy
          · rcases List.mem_cons.mp hy with rfl | hy
            · exact ih b _ (by omega) h2
            · cases hy
    cases h with
    | set a b => exact gd3 (by omega) (gd_str rfl) (gd_str (okS_word (hn _ a))) (gd_mono (Nat.le_refl _) 4 _ _ (by omega) (Ex_gd hn (by omega) b))
    | send a b e =>
      refine gd4 (by omega) (gd_str rfl) (gd_str (okS_word (hd _ a))) ?_ (gd_mono (Nat.le_refl _) 3 _ _ (by omega) (Ex_gd hn (by omega) e))
      rcases b with rfl | ⟨t, ht, rfl⟩
      · exact gd_non
      · exact gd_str (okS_word (hk _ ht))
    | fail => exact gd1 (by omega) (gd_str rfl)
    | @iff _ a b c xs ys h1 h2 h3 =>
      have d1 := ds a xs (by omega) h2
      have d2 := ds b ys (by omega) h3
      exact gd4 (by omega) (gd_str rfl) (gd_mono (Nat.le_refl _) 6 _ _ (by omega) (Cn_gd hn (by omega) h1)) (gd_tup.mpr ⟨by omega, d1.2⟩) (gd_tup.mpr ⟨by omega, d2.2⟩)
theorem Ds_gd (hn : ∀ s ∈ ns, WordOk s) (hk : ∀ s ∈ ks, WordOk s) (hd : ∀ s ∈ kd, WordOk s) {l : Nat} (hl : 12 ≤ l) {i b : Nat} {xs : List D} (hb : b ≤ 12) (hx : Ds ns ks kd i b xs) : xs.length ≤ b ∧ ∀ x ∈ xs, gd l (7 + 2 * i) x = true := by
  generalize hL : xs.length = n
  induction n generalizing b xs with
  | zero =>
    cases hx with
    | nil => exact ⟨Nat.zero_le _, fun x hx => by cases hx⟩
    | snoc h1 h2 => rw [List.length_append] at hL; cases hL
  | succ n ihn =>
    cases hx with
    | nil => cases hL
    | @snoc _ a b xs x h1 h2 =>
      have hb1 : 1 ≤ b := by cases h2 <;> omega
      have := ihn (b := a) (by omega) h1 (by rw [List.length_append] at hL; exact Nat.succ.inj hL)
      refine ⟨by omega, fun y hy => ?_⟩
      rcases List.mem_append.mp hy with hy | hy
      · exact this.2 y hy
      · rcases List.mem_cons.mp hy with rfl | hy
        · exact Dd_gd hn hk hd hl i b _ (by omega) h2
        · cases hy
end
theorem handler_gd {N : Int} {L : Hs} (hp : Pn N L) (hN : N ≤ 1099511000000) {ns ks kd : List (List Nat)} (h1 : ns.length = 2) (h2 : ks.length = 2) (h3 : kd.length = 3) (hn : ∀ s ∈ ns, WordOk s) (hk : ∀ s ∈ ks, WordOk s) (hd : ∀ s ∈ kd, WordOk s) (sends : Int) :
    ∃ (xs : List D) (L' : Hs), F__law_handler [.ref 0, .d (.lst (ns.map .str)), .d (.lst (ks.map .str)), .d (.lst (kd.map .str)), .d (.int sends)] [] L = .ok (.d (.tup xs)) L' ∧ Pn (N + 500000) L' ∧ Fr L L' ∧ gd 20 20 (.tup xs) = true := by
  obtain ⟨xs, L', c, E, t, f, ds, hc, hl⟩ := handler_draw (ns := ns) (ks := ks) (kd := kd) (by omega) (by omega) (by omega) (by omega) hp hN sends
  have d := Ds_gd hn hk hd (l := 20) (by decide) hc ds
  exact ⟨xs, L', E, t, f, gd_tup.mpr ⟨by omega, fun x hx => gd_mono (Nat.le_refl _) 13 19 x (by decide) (d.2 x hx)⟩⟩
end K01
end Ev

set_option linter.all false
set_option maxRecDepth 100000
set_option maxHeartbeats 1000000
namespace Ev
namespace K01
/-! deeds from the front -/
inductive DsC (P : Nat → D → Prop) : Nat → List D → Prop
  | nil : DsC P 0 []
  | cons {a b : Nat} {x : D} {xs : List D} : P b x → DsC P a xs → DsC P (b + a) (x :: xs)
theorem DsC.snoc {P : Nat → D → Prop} {a b : Nat} {xs : List D} {x : D} (h : DsC P a xs) (hx : P b x) : DsC P (a + b) (xs ++ [x]) := by
  induction h with
  | nil =>
    have := DsC.cons hx DsC.nil
    rw [Nat.add_zero] at this
    rw [Nat.zero_add]
    exact this
  | cons h1 _ ih =>
    rw [Nat.add_assoc]
    exact .cons h1 ih
section
variable {ns ks kd : List (List Nat)}
theorem Ds.toC {i c : Nat} {xs : List D} (h : Ds ns ks kd i c xs) : DsC (Dd ns ks kd i) c xs := by
  generalize hL : xs.length = n
  induction n generalizing c xs with
  | zero =>
    cases h with
    | nil => exact .nil
    | snoc h1 h2 => rw [List.length_append] at hL; cases hL
  | succ n ih =>
    cases h with
    | nil => cases hL
    | snoc h1 h2 => exact (ih h1 (by rw [List.length_append] at hL; exact Nat.succ.inj hL)).snoc h2
/-! what is drawn is a handler -/
theorem W_of {s : List Nat} (h : WordOk s) : isW (.str s) = true := by
  show ((decide (1 ≤ s.length) && decide (s.length ≤ 6)) && s.all fun c => decide (c ∈ letters)) = true
  rw [decide_eq_true h.1, decide_eq_true h.2.1, List.all_eq_true.mpr fun c hc => decide_eq_true (h.2.2 c hc)]
  rfl
theorem V_of {n : Int} (h1 : -99 ≤ n) (h2 : n ≤ 99) : isV (.int n) = true := by
  show (true && (decide (-99 ≤ n) && decide (n ≤ 99))) = true
  rw [decide_eq_true h1, decide_eq_true h2]
  rfl
theorem E_of (hn : ∀ s ∈ ns, WordOk s) {d : Nat} {e : D} (h : Ex ns d e) : ∀ n, d ≤ n → isE n e = true := by
  induction h with
  | @val d k a b =>
    intro n hd
    obtain ⟨m, rfl⟩ : ∃ m, n = m + 1 := ⟨n - 1, by omega⟩
    exact V_of a b
  | body =>
    intro n hd
    obtain ⟨m, rfl⟩ : ∃ m, n = m + 1 := ⟨n - 1, by omega⟩
    rfl
  | row a =>
    intro n hd
    obtain ⟨m, rfl⟩ : ∃ m, n = m + 1 := ⟨n - 1, by omega⟩
    exact W_of (hn _ a)
  | @op d o a b ho _ _ ih1 ih2 =>
    intro n hd
    obtain ⟨m, rfl⟩ : ∃ m, n = m + 1 := ⟨n - 1, by omega⟩
    have e : (isE m a && isE m b) = true := by rw [ih1 m (by omega), ih2 m (by omega)]; rfl
    simp only [List.mem_cons, List.not_mem_nil, or_false] at ho
    rcases ho with rfl | rfl | rfl <;> exact e
theorem C_of (hn : ∀ s ∈ ns, WordOk s) {d : Nat} {e : D} (h : Cn ns d e) : ∀ n, d ≤ n → isC n e = true := by
  induction h with
  | @cmp d o a b ho h1 h2 =>
    intro n hd
    obtain ⟨m, rfl⟩ : ∃ m, n = m + 1 := ⟨n - 1, by omega⟩
    have e : (isE 6 a && isE 6 b) = true := by rw [E_of hn h1 6 (by decide), E_of hn h2 6 (by decide)]; rfl
    simp only [List.mem_cons, List.not_mem_nil, or_false] at ho
    rcases ho with rfl | rfl <;> exact e
  | no _ ih =>
    intro n hd
    obtain ⟨m, rfl⟩ : ∃ m, n = m + 1 := ⟨n - 1, by omega⟩
    exact ih m (by omega)
  | @jn d o a b ho _ _ ih1 ih2 =>
    intro n hd
    obtain ⟨m, rfl⟩ : ∃ m, n = m + 1 := ⟨n - 1, by omega⟩
    have e : (isC m a && isC m b) = true := by rw [ih1 m (by omega), ih2 m (by omega)]; rfl
    simp only [List.mem_cons, List.not_mem_nil, or_false] at ho
    rcases ho with rfl | rfl <;> exact e
def cx (i : Nat) (x : D) : Int := if (!isIf x) = true then 1 else 1 + inner i x
theorem areD_cnt {i : Nat} {P : Nat → D → Prop} (hP : ∀ c x, P c x → isD i x = true ∧ cx i x = c) {c : Nat} {xs : List D} (h : DsC P c xs) : areD i (.tup xs) = true ∧ cnt i (.tup xs) = c := by
  have h1 : xs.all (isD i) = true ∧ (xs.map (cx i)).sum = c := by
    induction h with
    | nil => exact ⟨rfl, rfl⟩
    | @cons a b x xs hx _ ih =>
      obtain ⟨p, q⟩ := hP _ _ hx
      refine ⟨?_, ?_⟩
      · show (isD i x && xs.all (isD i)) = true
        rw [p, ih.1]; rfl
      · rw [List.map_cons, List.sum_cons, q, ih.2]
        omega
  have h2 : areD i (.tup xs) = true := by
    rw [areD_eq]
    exact h1.1
  refine ⟨h2, ?_⟩
  rw [cnt_eq h2, ← h1.2]
  exact (sum_if isIf (inner i) xs).symm
theorem Dd_is (hn : ∀ s ∈ ns, WordOk s) (hk : ∀ s ∈ ks, WordOk s) (hd : ∀ s ∈ kd, WordOk s) : ∀ (i c : Nat) (x : D), Dd ns ks kd i c x → isD i x = true ∧ cx i x = c := by
  have hset : ∀ {i : Nat} {s : List Nat} {e : D}, s ∈ ns → Ex ns 4 e → isD i (.tup [.str sSet, .str s, e]) = true ∧ cx i (.tup [.str sSet, .str s, e]) = 1 := fun {i s e} h1 h2 => by
    refine ⟨?_, rfl⟩
    have e : (isW (.str s) && isE 6 e) = true := by rw [W_of (hn _ h1), E_of hn h2 6 (by decide)]; rfl
    cases i <;> exact e
  have hsend : ∀ {i : Nat} {k : List Nat} {key e : D}, k ∈ kd → (key = .non ∨ ∃ t ∈ ks, key = .str t) → Ex ns 3 e → isD i (.tup [.str sSend, .str k, key, e]) = true ∧ cx i (.tup [.str sSend, .str k, key, e]) = 1 := fun {i k key e} h1 h2 h3 => by
    refine ⟨?_, rfl⟩
    have e1 : (isNo key || isW key) = true := by
      rcases h2 with rfl | ⟨t, ht, rfl⟩
      · rfl
      · exact W_of (hk _ ht)
    have e : (isW (.str k) && ((isNo key || isW key) && isE 6 e)) = true := by rw [W_of (hd _ h1), e1, E_of hn h3 6 (by decide)]; rfl
    cases i <;> exact e
  have hfail : ∀ {i : Nat}, isD i (.tup [.str sFail]) = true ∧ cx i (.tup [.str sFail]) = 1 := fun {i} => by
    refine ⟨?_, rfl⟩
    cases i <;> rfl
  intro i
  induction i with
  | zero =>
    intro c x h
    cases h with
    | set h1 h2 => exact hset h1 h2
    | send h1 h2 h3 => exact hsend h1 h2 h3
    | fail => exact hfail
  | succ i ih =>
    intro c x h
    cases h with
    | set h1 h2 => exact hset h1 h2
    | send h1 h2 h3 => exact hsend h1 h2 h3
    | fail => exact hfail
    | @iff _ a b q xs ys h1 h2 h3 =>
      obtain ⟨p1, q1⟩ := areD_cnt ih h2.toC
      obtain ⟨p2, q2⟩ := areD_cnt ih h3.toC
      refine ⟨?_, ?_⟩
      · have e : ((decide (0 < i + 1) && isC 6 q) && (areD i (.tup xs) && areD i (.tup ys))) = true := by rw [p1, p2, C_of hn h1 6 (by decide), decide_eq_true (Nat.succ_pos i)]; rfl
        exact e
      · show 1 + (cnt i (.tup xs) + cnt i (.tup ys)) = ((a + b + 1 : Nat) : Int)
        rw [q1, q2]
        omega
theorem isH_of (hn : ∀ s ∈ ns, WordOk s) (hk : ∀ s ∈ ks, WordOk s) (hd : ∀ s ∈ kd, WordOk s) {c : Nat} {xs : List D} (h : Ds ns ks kd 3 c xs) (hc : c ≤ 12) : isH (.tup xs) = true := by
  obtain ⟨p, q⟩ := areD_cnt (Dd_is hn hk hd 3) h.toC
  show (areD 3 (.tup xs) && decide (cnt 3 (.tup xs) ≤ 12)) = true
  rw [p, q, decide_eq_true (by omega)]
  rfl
end
/-! rows and messages -/
def RowOk (p : SS2 × Int) : Prop := WordOk p.1.1 ∧ WordOk p.1.2 ∧ -99 ≤ p.2 ∧ p.2 ≤ 99 ∧ p.2 ≠ 0
structure RowsOk (rs : Env) : Prop where
  row : ∀ p ∈ rs, RowOk p
  asc : rs.Pairwise fun p q => lexP p.1 q.1 = true
  len : rs.length ≤ 900
theorem fine_word {s : List Nat} (h : WordOk s) : fine (.str s) = true := okS_word h
theorem fine_pair {p : SS2} (h1 : WordOk p.1) (h2 : WordOk p.2) : fine (pairD p) = true := by
  show (decide (2 ≤ 1000) && (fine (.str p.1) && (fine (.str p.2) && true))) = true
  rw [fine_word h1, fine_word h2]
  rfl
theorem cell_ok {p : SS2} (h1 : WordOk p.1) (h2 : WordOk p.2) (B L : Hs) : F_is_cell [.d (pairD p)] B L = .ok (.d (.bl true)) L := by
  unfold F_is_cell
  refine x_pfn rfl fun B' => x_ret (x_and (x_1 (x_var rfl) rfl rfl) rfl rfl (br1 rfl (x_and (x_2 (x_B (x_cons (x_var rfl) x_nil) (x_vcons rfl x_vnil) rfl) x_c rfl rfl rfl) rfl rfl (br1 rfl ?_))))
  refine x_and (x_call (x_cons (x_2 (x_var rfl) x_c rfl rfl rfl) x_nil) rfl ((word_ok (.str p.1) (fine_word h1) _ _).trans (by rw [W_of h1]))) rfl rfl (br1 rfl ?_)
  exact x_call (x_cons (x_2 (x_var rfl) x_c rfl rfl rfl) x_nil) rfl ((word_ok (.str p.2) (fine_word h2) _ _).trans (by rw [W_of h2]))
theorem row_ok {p : SS2 × Int} (h : RowOk p) (B L : Hs) : F_is_row [.d (rowD p)] B L = .ok (.d (.bl true)) L := by
  obtain ⟨h1, h2, h3, h4, h5⟩ := h
  unfold F_is_row
  refine x_pfn rfl fun B' => ?_
  refine x_seq (x_sif (k := false) (x_tOr (x_tNot (x_tE (x_1 (x_var rfl) rfl rfl) rfl rfl)) (br0 rfl (x_tE (x_2 (x_B (x_cons (x_var rfl) x_nil) (x_vcons rfl x_vnil) rfl) x_c rfl rfl rfl) rfl rfl))) (br0 rfl x_snil)) (x_thenN ?_)
  refine x_ret (x_and (x_call (x_cons (x_2 (x_var rfl) x_c rfl rfl rfl) x_nil) rfl (cell_ok h1 h2 _ _)) rfl rfl (br1 rfl ?_))
  refine x_and (x_call (x_cons (x_2 (x_var rfl) x_c rfl rfl rfl) x_nil) rfl ((value_ok (.int p.2) rfl _ _).trans (by rw [V_of h3 h4]))) rfl rfl (br1 rfl ?_)
  exact x_2 (x_2 (x_var rfl) x_c rfl rfl rfl) x_c rfl rfl (by show some (D.bl (!decide (p.2 = 0))) = _; rw [decide_eq_false h5]; rfl)
theorem message_ok {k m : List Nat} {n : Int} (h1 : WordOk k) (h2 : WordOk m) (h3 : -99 ≤ n) (h4 : n ≤ 99) (B L : Hs) : F_is_message [.d (.tup [.str k, .str m, .int n])] B L = .ok (.d (.bl true)) L := by
  unfold F_is_message
  refine x_pfn rfl fun B' => ?_
  refine x_seq (x_sif (k := false) (x_tOr (x_tNot (x_tE (x_1 (x_var rfl) rfl rfl) rfl rfl)) (br0 rfl (x_tE (x_2 (x_B (x_cons (x_var rfl) x_nil) (x_vcons rfl x_vnil) rfl) x_c rfl rfl rfl) rfl rfl))) (br0 rfl x_snil)) (x_thenN ?_)
  refine x_ret (x_and (x_call (x_cons (x_2 (x_var rfl) x_c rfl rfl rfl) x_nil) rfl ((word_ok (.str k) (fine_word h1) _ _).trans (by rw [W_of h1]))) rfl rfl (br1 rfl ?_))
  refine x_and (x_call (x_cons (x_2 (x_var rfl) x_c rfl rfl rfl) x_nil) rfl ((word_ok (.str m) (fine_word h2) _ _).trans (by rw [W_of h2]))) rfl rfl (br1 rfl ?_)
  exact x_call (x_cons (x_2 (x_var rfl) x_c rfl rfl rfl) x_nil) rfl ((value_ok (.int n) rfl _ _).trans (by rw [V_of h3 h4]))
end K01
end Ev

set_option linter.all false
set_option maxRecDepth 100000
set_option maxHeartbeats 1000000
namespace Ev
namespace K01
open SrtO
section
variable {B L : Hs} {ρ : Sl}
theorem comp_map2 {i j : Nat} {e : SE} {f : D → D → D} : ∀ (xs : List (D × D)) (acc : List D), (∀ p ∈ xs, e B ((ρ.set i (some (.d p.1))).set j (some (.d p.2))) L = .ok (.d (f p.1 p.2)) L) → acc.length + xs.length ≤ 16777216 →
    compGo (gTup (gVar i :: gVar j :: [])) tYes e B ρ (xs.map fun p => .tup [p.1, p.2]) acc L = .ok (acc ++ xs.map fun p => f p.1 p.2) L
  | [], acc, _, _ => by rw [List.map_nil, List.map_nil, List.append_nil]; rfl
  | p :: xs, acc, h, hl => by
    rw [List.length_cons] at hl
    show (e B ((ρ.set i (some (.d p.1))).set j (some (.d p.2))) L).bind (fun w L3 => (ownR B L3 w).bind fun y L4 => (guardR (decide (acc.length < sizeL)) L4).bind fun _ L4 => compGo (gTup (gVar i :: gVar j :: [])) tYes e B ρ (xs.map fun p => .tup [p.1, p.2]) (acc ++ [y]) L4) = _
    rw [h p List.mem_cons_self]
    show (guardR (decide (acc.length < sizeL)) L).bind (fun _ L4 => compGo (gTup (gVar i :: gVar j :: [])) tYes e B ρ (xs.map fun p => .tup [p.1, p.2]) (acc ++ [f p.1 p.2]) L4) = _
    rw [decide_eq_true (show acc.length < sizeL by show _ < 16777216; omega)]
    show compGo (gTup (gVar i :: gVar j :: [])) tYes e B ρ (xs.map fun p => .tup [p.1, p.2]) (acc ++ [f p.1 p.2]) L = _
    rw [comp_map2 xs (acc ++ [f p.1 p.2]) (fun y hy => h y (List.mem_cons_of_mem _ hy)) (by rw [List.length_append]; show acc.length + 1 + _ ≤ _; omega), List.append_assoc]
    rfl
end
theorem cut1 {α : Type} (xs : List α) : cut xs (some 1) none = xs.tail := by
  cases xs with
  | nil => rfl
  | cons x xs =>
    show ((x :: xs).drop (min 1 (xs.length + 1))).take (xs.length + 1 - min 1 (xs.length + 1)) = xs
    rw [Nat.min_eq_left (by omega)]
    show xs.take (xs.length + 1 - 1) = xs
    rw [Nat.add_sub_cancel, List.take_length]
theorem lex_lexP (p q : SS2) : opLt (pairD p) (pairD q) = some (.bl (lexP p q)) := by
  obtain ⟨a, b⟩ := p
  obtain ⟨c, d⟩ := q
  show some (D.bl (if a = c then (if b = d then false else decide (b < d)) else decide (a < c))) = some (D.bl (if a = c then decide (b < d) else decide (a < c)))
  by_cases h : a = c
  · rw [if_pos h, if_pos h]
    by_cases h2 : b = d
    · rw [if_pos h2, decide_eq_false (by rw [h2]; exact List.lt_irrefl d)]
    · rw [if_neg h2]
  · rw [if_neg h, if_neg h]
theorem adj {α : Type} {R : α → α → Prop} : ∀ {l : List α}, l.Pairwise R → ∀ p ∈ l.zip l.tail, R p.1 p.2
  | [], _, p, hp => by cases hp
  | [x], _, p, hp => by cases hp
  | x :: y :: l, h, p, hp => by
    have h' := List.pairwise_cons.mp h
    have hp : p ∈ (x, y) :: (y :: l).zip (y :: l).tail := hp
    rcases List.mem_cons.mp hp with rfl | hp
    · exact h'.1 y List.mem_cons_self
    · exact adj h'.2 p hp
theorem zip_map2 {α : Type} (f : α → D) (l m : List α) : (l.map f).zip (m.map f) = (l.zip m).map fun p => (f p.1, f p.2) := by
  rw [List.zip_map]
  rfl
theorem rows_ok {rs : Env} (h : RowsOk rs) (B L : Hs) : F_are_rows [.d (.tup (rs.map rowD))] B L = .ok (.d (.bl true)) L := by
  unfold F_are_rows
  refine x_pfn rfl fun B' => ?_
  have len : (rs.map rowD).length = rs.length := List.length_map ..
  have hl := h.len
  have A : eComp (iE (eVar 0)) (gVar 6) (tYes) (eCall 1 F_is_row (aCons (eVar 6) (aNil))) [6] B' [some (.d (.tup (rs.map rowD))), none, none, none, none, none, none] [] = .ok (.d (.lst ((rs.map rowD).map fun _ => D.bl true))) [] := by
    refine x_comp (x_iE (x_var rfl) rfl rfl) ((comp_map (f := fun _ => .bl true) _ [] (fun x hx => ?_) (by show 0 + _ ≤ _; omega)).trans rfl)
    obtain ⟨p, hp, rfl⟩ := List.mem_map.mp hx
    exact x_call (x_cons (x_var rfl) x_nil) rfl (row_ok (h.row p hp) _ _)
  have A1 : bAll [.lst ((rs.map rowD).map fun _ => D.bl true)] = some (.bl true) := by
    show (match allB ((rs.map rowD).map fun _ => D.bl true) with | some bs => some (D.bl (bs.all id)) | none => none) = _
    rw [allB_map (f := fun _ => true)]
    show some (D.bl (((rs.map rowD).map fun _ => true).all id)) = _
    rw [List.all_map]
    have : ∀ l : List D, l.all (id ∘ fun _ => true) = true := fun l => List.all_eq_true.mpr fun _ _ => rfl
    rw [this]
  refine x_seq (x_sif (k := false) (x_tOr (x_tNot (x_tE (x_1 (x_var rfl) rfl rfl) rfl rfl)) (br0 rfl (x_tNot (x_tE (x_B (x_cons A x_nil) (x_vcons rfl x_vnil) A1) rfl rfl)))) (br0 rfl x_snil)) (x_thenN ?_)
  have C : eComp (iE (eVar 0)) (gTup (gVar 2 :: gVar 3 :: [])) (tYes) (eVar 2) [2, 3] B' [some (.d (.tup (rs.map rowD))), none, none, none, none, none, none] [] = .ok (.d (.lst (rs.map fun p => pairD p.1))) [] := by
    have e : rs.map rowD = (rs.map fun p => (pairD p.1, D.int p.2)).map fun p => .tup [p.1, p.2] := by rw [List.map_map]; rfl
    refine x_comp (x_iE (x_var rfl) rfl (show items (.tup (rs.map rowD)) = some ((rs.map fun p => (pairD p.1, D.int p.2)).map fun p => .tup [p.1, p.2]) from congrArg some e)) ((comp_map2 (f := fun a _ => a) _ [] (fun p hp => x_var rfl) (by rw [List.length_map]; show 0 + _ ≤ _; omega)).trans ?_)
    rw [List.map_map]
    rfl
  refine x_seq (x_asg C x_gvar) (x_thenN ?_)
  have zz : zipW [.d (.lst (rs.map fun p => pairD p.1)), .d (.lst (cut (rs.map fun p => pairD p.1) (some 1) none))] = some (((rs.zip rs.tail).map fun p => (pairD p.1.1, pairD p.2.1)).map fun p => .tup [p.1, p.2]) := by
    rw [cut1, ← List.map_tail]
    show (if ((rs.map fun p => pairD p.1).zip (rs.tail.map fun p => pairD p.1)).all (fun p => !rowy [p.1, p.2]) = true then some (((rs.map fun p => pairD p.1).zip (rs.tail.map fun p => pairD p.1)).map fun p => D.tup [p.1, p.2]) else none) = _
    rw [zip_map2, if_pos]
    rw [List.all_map]
    exact List.all_eq_true.mpr fun p _ => rfl
  have Z : eComp (iZip (aCons (eVar 1) (aCons (eSl (eVar 1) (oSome (eC (.int 1))) (oNone)) (aNil)))) (gTup (gVar 4 :: gVar 5 :: [])) (tYes) (e2 opLt (eVar 4) (eVar 5)) [4, 5] B' [some (.d (.tup (rs.map rowD))), some (.d (.lst (rs.map fun p => pairD p.1))), none, none, none, none, none] [] = .ok (.d (.lst (((rs.zip rs.tail).map fun p => (pairD p.1.1, pairD p.2.1)).map fun _ => D.bl true))) [] := by
    refine x_comp (x_zip (x_cons (x_var rfl) (x_cons (x_sl (x_var rfl) (x_oSome x_c rfl rfl) x_oNone rfl rfl) x_nil)) zz) ((comp_map2 (f := fun _ _ => .bl true) _ [] (fun p hp => ?_) ?_).trans rfl)
    · obtain ⟨q, hq, rfl⟩ := List.mem_map.mp hp
      have a := adj h.asc q hq
      exact x_2 (x_var rfl) (x_var rfl) rfl rfl ((lex_lexP _ _).trans (by rw [a]))
    · rw [List.length_map, List.length_zip]
      show 0 + _ ≤ _
      have := Nat.min_le_left rs.length rs.tail.length
      omega
  refine x_ret (x_B (x_cons Z x_nil) (x_vcons rfl x_vnil) ?_)
  show (match allB (((rs.zip rs.tail).map fun p => (pairD p.1.1, pairD p.2.1)).map fun _ => D.bl true) with | some bs => some (D.bl (bs.all id)) | none => none) = _
  have al : ∀ l : List (D × D), allB (l.map fun _ => D.bl true) = some (l.map fun _ => true) := fun l => by
    induction l with
    | nil => rfl
    | cons x l ih =>
      show (match allB (l.map fun _ => D.bl true) with | some bs => some (true :: bs) | none => none) = _
      rw [ih]
      rfl
  rw [al]
  show some (D.bl (((_ : List (D × D)).map fun _ => true).all id)) = _
  rw [List.all_map]
  have : ∀ l : List (D × D), l.all (id ∘ fun _ => true) = true := fun l => List.all_eq_true.mpr fun _ _ => rfl
  rw [this]
/-! rows of a dict -/
def un (x : D) : SS2 := (unD x).getD ([], [])
theorem rows_comp {a b : Nat} {B L : Hs} {ρ : Sl} {w : W} {es : Env} (h0 : ρ[a]? = some (some w)) (hw : ∀ x, ((wipe ρ [b]).set b (some (.d x)))[a]? = some (some w)) (hb : ∀ x, ((wipe ρ [b]).set b (some (.d x)))[b]? = some (some (.d x))) (hd : dcnAt B L w = some (kD2 es, vD2 es)) (hl : es.length ≤ 1000) :
    eComp (iE (eSortN (eVar a))) (gVar b) (tE (e2 opNe (eIxN (eVar a) (eVar b)) (eC (.int 0)))) (eTup (aCons (eVar b) (aCons (eIxN (eVar a) (eVar b)) (aNil)))) [b] B ρ L = .ok (.d (.lst ((rowsOf es).map rowD))) L := by
  have pm := sortP_perm (es.map (·.1))
  have hx : ∀ x ∈ (sortP (es.map (·.1))).map pairD, ∃ k, x = pairD k ∧ has k es = true := fun x hx => by
    obtain ⟨k, hk, rfl⟩ := List.mem_map.mp hx
    exact ⟨k, rfl, has_mem.mpr (pm.mem_iff.mp hk)⟩
  have ix : ∀ (ρ' : Sl) (k : SS2), ρ'[a]? = some (some w) → ρ'[b]? = some (some (.d (pairD k))) → has k es = true → eIxN (eVar a) (eVar b) B ρ' L = .ok (.d (.int (val k es))) L := fun ρ' k h1 h2 h3 =>
    x_ixN (x_var h1) (x_var h2) rfl hd (isNK_pair k) (ix_env k es h3)
  refine x_comp (x_iE (x_sortN (x_var h0) hd (unDs_env es) rfl) rfl rfl) ((comp_fil (f := fun x => .tup [x, .int (val (un x) es)]) (p := fun x => !decide (val (un x) es = 0)) _ [] (fun x h => ?_) (fun x h _ => ?_) ?_).trans ?_)
  · obtain ⟨k, rfl, hk⟩ := hx x h
    exact x_tE (x_2 (ix _ k (hw _) (hb _) hk) x_c rfl rfl rfl) rfl rfl
  · obtain ⟨k, rfl, hk⟩ := hx x h
    exact x_tup (x_cons (x_var (hb _)) (x_cons (ix _ k (hw _) (hb _) hk) x_nil)) rfl (Nat.le_of_ble_eq_true rfl)
  · rw [List.length_map, pm.length_eq, List.length_map]
    show 0 + _ ≤ _
    omega
  · rw [List.nil_append, List.filter_map, List.map_map]
    unfold rowsOf
    rw [List.map_map]
    rfl
theorem row_tuple_ok {B L : Hs} {p : Nat} {es : Env} (hp : look B L p = some (obN es)) (hl : es.length ≤ 1000) : F__law_row_tuple [.ref p] B L = .ok (.d (.tup ((rowsOf es).map rowD))) L := by
  unfold F__law_row_tuple
  have hd : dcnAt (B ++ L) [] (.ref p) = some (kD2 es, vD2 es) := by
    show (match ((B ++ L) ++ [])[p]? with | some (Ob.dcn ks ws) => some (ks, ws) | _ => none) = _
    rw [List.append_nil]
    have hp : (B ++ L)[p]? = some (obN es) := hp
    rw [hp]
    rfl
  exact x_pure (x_fn rfl (x_ret (x_B (x_cons (rows_comp (a := 0) (b := 1) rfl (fun _ => rfl) (fun _ => rfl) hd hl) x_nil) (x_vcons rfl x_vnil) rfl)) rfl) rfl
/-! what a dict holds -/
structure EnvOk (es : Env) : Prop where
  mem : ∀ p ∈ es, WordOk p.1.1 ∧ WordOk p.1.2 ∧ -99 ≤ p.2 ∧ p.2 ≤ 99
  nd : (es.map (·.1)).Nodup
theorem EnvOk.nil : EnvOk [] := ⟨fun p hp => by (cases hp), List.nodup_nil⟩
theorem EnvOk.put {es : Env} (h : EnvOk es) {k : SS2} {v : Int} (h1 : WordOk k.1) (h2 : WordOk k.2) (h3 : -99 ≤ v) (h4 : v ≤ 99) : EnvOk (putE k v es) :=
  ⟨fun p hp => (put_mem hp).elim (fun e => by subst e; exact ⟨h1, h2, h3, h4⟩) (h.mem p), put_nodup h.nd⟩
theorem EnvOk.val {es : Env} (h : EnvOk es) (k : SS2) : -99 ≤ Ev.val k es ∧ Ev.val k es ≤ 99 := val_le fun p hp => (h.mem p hp).2.2
theorem EnvOk.rows {es : Env} (h : EnvOk es) (hl : es.length ≤ 900) : RowsOk (rowsOf es) ∧ (rowsOf es).length ≤ es.length := by
  have pm := sortP_perm (es.map (·.1))
  have ln : (rowsOf es).length ≤ es.length := by
    unfold rowsOf
    rw [List.length_map]
    refine Nat.le_trans (List.length_filter_le _ _) ?_
    rw [pm.length_eq, List.length_map]
    exact Nat.le_refl _
  refine ⟨⟨fun p hp => ?_, ?_, by omega⟩, ln⟩
  · unfold rowsOf at hp
    obtain ⟨k, hk, rfl⟩ := List.mem_map.mp hp
    obtain ⟨hk, h0⟩ := List.mem_filter.mp hk
    obtain ⟨a, b, c, d⟩ := h.mem _ (val_mem (has_mem.mpr (pm.mem_iff.mp hk)))
    refine ⟨a, b, c, d, fun z => ?_⟩
    rw [decide_eq_true z] at h0
    cases h0
  · unfold rowsOf
    rw [List.pairwise_map]
    refine List.Pairwise.filter _ ?_
    have s := sortP_srtd (es.map (·.1))
    have n : (sortP (es.map (·.1))).Nodup := pm.nodup_iff.mpr h.nd
    refine (List.Pairwise.and s n).imp fun {a b} hab => ?_
    show lexP a b = true
    cases e : lexP a b with
    | true => rfl
    | false => exact absurd (lexP_anti e hab.1) hab.2
theorem dict_ok {rs : Env} (h : RowsOk rs) : EnvOk (dictOf rs) ∧ (dictOf rs).length ≤ rs.length := by
  have go : ∀ (rs es : Env), (∀ p ∈ rs, RowOk p) → EnvOk es → EnvOk (rs.foldl (fun acc p => putE p.1 p.2 acc) es) ∧ (rs.foldl (fun acc p => putE p.1 p.2 acc) es).length ≤ es.length + rs.length := by
    intro rs
    induction rs with
    | nil => intro es _ he; exact ⟨he, Nat.le_refl _⟩
    | cons p rs ih =>
      intro es hr he
      obtain ⟨a, b, c, d, _⟩ := hr p List.mem_cons_self
      obtain ⟨i1, i2⟩ := ih (putE p.1 p.2 es) (fun q hq => hr q (List.mem_cons_of_mem _ hq)) (he.put a b c d)
      have := put_len p.1 p.2 es
      exact ⟨i1, by rw [List.length_cons]; show (rs.foldl _ (putE p.1 p.2 es)).length ≤ _; omega⟩
  obtain ⟨a, b⟩ := go rs [] h.row .nil
  exact ⟨a, by rw [List.length_nil] at b; show (rs.foldl _ []).length ≤ _; omega⟩
end K01
end Ev

set_option linter.all false
set_option maxRecDepth 100000
set_option maxHeartbeats 1000000
namespace Ev
namespace K01
abbrev fVal : List Nat := [111, 119, 110, 95, 118, 97, 108, 117, 101, 115]
abbrev fKey : List Nat := [111, 119, 110, 95, 107, 101, 121]
abbrev fBody : List Nat := [111, 119, 110, 95, 98, 111, 100, 121]
abbrev fReads : List Nat := [111, 119, 110, 95, 114, 101, 97, 100, 115]
abbrev fSets : List Nat := [111, 119, 110, 95, 115, 101, 116, 115]
abbrev fSends : List Nat := [111, 119, 110, 95, 115, 101, 110, 100, 115]
def obB (rd : List (List Nat)) : Ob := .dct (rd.map .str) (rd.map fun _ => .d (.bl true))
def fldsR (n : Nat) (key : List Nat) (body : Int) : List (List Nat × W) := [(fVal, .ref (n + 1)), (fKey, .d (.str key)), (fBody, .d (.int body)), (fReads, .ref (n + 2)), (fSets, .ref (n + 3)), (fSends, .ref (n + 4))]
def runL (n : Nat) (es : Env) (key : List Nat) (body : Int) (rd st : List (List Nat)) (sd : List D) : Hs := [.ins 0 (fldsR n key body), obN es, obB rd, obB st, .lst (sd.map .d)]
section
variable {B : Hs} {es : Env} {key : List Nat} {body : Int} {rd st : List (List Nat)} {sd : List D} {n : Nat}
theorem ins_run : insAt B (runL B.length es key body rd st sd) (.ref B.length) = some (B.length, 0, fldsR B.length key body) := by
  show (match look B (runL B.length es key body rd st sd) (B.length + 0) with | some (.ins c fs) => some (B.length, c, fs) | _ => none) = _
  rw [look_own]
  rfl
theorem g_val : getF [111, 119, 110, 95, 118, 97, 108, 117, 101, 115] (fldsR n key body) = some (.ref (n + 1)) := rfl
theorem g_key : getF [111, 119, 110, 95, 107, 101, 121] (fldsR n key body) = some (.d (.str key)) := rfl
theorem g_body : getF [111, 119, 110, 95, 98, 111, 100, 121] (fldsR n key body) = some (.d (.int body)) := rfl
theorem g_reads : getF [111, 119, 110, 95, 114, 101, 97, 100, 115] (fldsR n key body) = some (.ref (n + 2)) := rfl
theorem g_sets : getF [111, 119, 110, 95, 115, 101, 116, 115] (fldsR n key body) = some (.ref (n + 3)) := rfl
theorem g_sends : getF [111, 119, 110, 95, 115, 101, 110, 100, 115] (fldsR n key body) = some (.ref (n + 4)) := rfl
theorem m_value : getF [118, 97, 108, 117, 101, 95, 111, 102] (fldsR n key body) = none := rfl
theorem m_row : getF [114, 111, 119, 95, 118, 97, 108, 117, 101] (fldsR n key body) = none := rfl
theorem m_truth : getF [116, 114, 117, 116, 104, 95, 111, 102] (fldsR n key body) = none := rfl
theorem m_deed : getF [105, 115, 95, 100, 101, 101, 100, 95, 100, 111, 110, 101] (fldsR n key body) = none := rfl
theorem m_done : getF [105, 115, 95, 100, 111, 110, 101] (fldsR n key body) = none := rfl
theorem m_left : getF [114, 111, 119, 115, 95, 108, 101, 102, 116] (fldsR n key body) = none := rfl
theorem allD_true : ∀ rd : List (List Nat), allD (rd.map fun _ => W.d (.bl true)) = some (rd.map fun _ => D.bl true)
  | [] => rfl
  | x :: rd => by
    show (match allD (rd.map fun _ => W.d (.bl true)) with | some xs => some (D.bl true :: xs) | none => none) = _
    rw [allD_true rd]
    rfl
theorem vw_obB {L : Hs} {i : Nat} (h : L[i]? = some (obB rd)) : vw B L (.ref (B.length + i)) = some (.dct (rd.map .str) (rd.map fun _ => .bl true)) := by
  show (match look B L (B.length + i) with | some (.frz x) => some x | some (.lst ws) => (allD ws).map .lst | some (.dct ks ws) => (allD ws).map (.dct ks) | _ => none) = _
  rw [look_own, h]
  show (allD (rd.map fun _ => W.d (.bl true))).map (D.dct (rd.map .str)) = _
  rw [allD_true]
  rfl
theorem findD_obB (s : List Nat) : ∀ rd : List (List Nat), (findD (.str s) (rd.map .str) (rd.map fun _ => .bl true)).isSome = decide (s ∈ rd)
  | [] => rfl
  | x :: rd => by
    show (if keyEq (.str x) (.str s) = true then some (D.bl true) else findD (.str s) (rd.map .str) (rd.map fun _ => .bl true)).isSome = _
    show (if decide (x = s) = true then some (D.bl true) else findD (.str s) (rd.map .str) (rd.map fun _ => .bl true)).isSome = _
    by_cases h : x = s
    · rw [if_pos (decide_eq_true h), h, decide_eq_true List.mem_cons_self]; rfl
    · rw [decide_eq_false h, if_neg Bool.false_ne_true, findD_obB s rd]
      apply decide_eq_decide.mpr
      rw [List.mem_cons]
      exact ⟨.inr, fun z => z.elim (fun e => absurd e.symm h) id⟩
theorem notIn_obB (s : List Nat) (rd : List (List Nat)) : opNotIn (.str s) (.dct (rd.map .str) (rd.map fun _ => .bl true)) = some (.bl (!decide (s ∈ rd))) := by
  have e : opIn (.str s) (.dct (rd.map .str) (rd.map fun _ => .bl true)) = some (.bl (findD (.str s) (rd.map .str) (rd.map fun _ => .bl true)).isSome) := by
    match s with
    | [] => rfl
    | [c] => rfl
    | c :: d :: s => rfl
  unfold opNotIn
  rw [e, findD_obB]
def addN (s : List Nat) (rd : List (List Nat)) : List (List Nat) := if s ∈ rd then rd else rd ++ [s]
theorem any_str (s : List Nat) : ∀ rd : List (List Nat), (rd.map D.str).any (fun a => keyEq a (.str s)) = decide (s ∈ rd)
  | [] => rfl
  | x :: rd => by
    show (decide (x = s) || (rd.map D.str).any fun a => keyEq a (.str s)) = _
    rw [any_str s rd]
    by_cases h : x = s
    · rw [decide_eq_true h, h, decide_eq_true List.mem_cons_self]; rfl
    · rw [decide_eq_false h, Bool.false_or]
      apply decide_eq_decide.mpr
      rw [List.mem_cons]
      exact ⟨.inr, fun z => z.elim (fun e => absurd e.symm h) id⟩
theorem putKs_str (s : List Nat) (rd : List (List Nat)) : putKs (.str s) (rd.map .str) = (addN s rd).map .str := by
  unfold putKs addN
  rw [any_str]
  by_cases hs : s ∈ rd
  · rw [if_pos (decide_eq_true hs), if_pos hs]
  · rw [decide_eq_false hs, if_neg Bool.false_ne_true, if_neg hs, List.map_append]; rfl
theorem putVs_str (s : List Nat) (rd : List (List Nat)) : putVs (.str s) (W.d (.bl true)) (rd.map .str) (rd.map fun _ => W.d (.bl true)) = (addN s rd).map fun _ => W.d (.bl true) := by
  unfold putVs addN
  rw [any_str]
  by_cases hs : s ∈ rd
  · rw [if_pos (decide_eq_true hs), if_pos hs, List.zipWith_map, zip_same]
    congr 1
    funext x
    show (if _ then _ else _) = _
    split <;> rfl
  · rw [decide_eq_false hs, if_neg Bool.false_ne_true, if_neg hs, List.map_append]; rfl
theorem put_obB {L : Hs} {i : Nat} (s : List Nat) (h : L[i]? = some (obB rd)) (hl : rd.length < 1000) : putIn B L (.ref (B.length + i)) (.str s) (.d (.bl true)) = some (L.set i (obB (addN s rd))) := by
  unfold putIn
  dsimp only
  rw [if_neg (by omega), own_ix, h]
  show (if isKey (D.str s) = true ∧ (rd.map D.str).length < sizeL then some (L.set i (.dct (putKs (.str s) (rd.map .str)) (putVs (.str s) (W.d (.bl true)) (rd.map .str) (rd.map fun _ => W.d (.bl true))))) else none) = _
  rw [if_pos ⟨rfl, by rw [List.length_map]; show _ < 16777216; omega⟩, putKs_str, putVs_str]
  rfl
theorem put_obN {L : Hs} {i : Nat} (k : SS2) (v : Int) (h : L[i]? = some (obN es)) (hl : es.length < 1000) : putIn B L (.ref (B.length + i)) (pairD k) (.d (.int v)) = some (L.set i (obN (putE k v es))) := by
  unfold putIn
  dsimp only
  rw [if_neg (by omega), own_ix, h]
  show (if isNK (pairD k) = true ∧ (kD2 es).length < sizeL then some (L.set i (.dcn (nkKs (pairD k) (kD2 es)) (nkVs (pairD k) (W.d (.int v)) (kD2 es) (vD2 es)))) else none) = _
  rw [if_pos ⟨isNK_pair k, by unfold kD2; rw [List.length_map]; show _ < 16777216; omega⟩, put_env]
theorem dcn_obN {L : Hs} {p : Nat} (h : look B L p = some (obN es)) : dcnAt B L (.ref p) = some (kD2 es, vD2 es) := by
  show (match look B L p with | some (.dcn ks ws) => some (ks, ws) | _ => none) = _
  rw [h]
  rfl
theorem lst_own {L : Hs} {i : Nat} {ws : List W} (h : L[i]? = some (.lst ws)) : lstAt B L (.ref (B.length + i)) = some (i, ws) := by
  unfold lstAt
  dsimp only
  rw [if_neg (by omega), own_ix, h]
end
/-! names that are read, set -/
def RdOk (ns rd : List (List Nat)) : Prop := rd.Nodup ∧ ∀ s ∈ rd, s ∈ ns
theorem nd_len {α : Type} [DecidableEq α] : ∀ (l m : List α), l.Nodup → (∀ x ∈ l, x ∈ m) → l.length ≤ m.length
  | [], m, _, _ => Nat.zero_le _
  | x :: l, m, hn, hs => by
    have hn := List.nodup_cons.mp hn
    have hx := hs x List.mem_cons_self
    have := nd_len l (m.erase x) hn.2 fun y hy => (List.mem_erase_of_ne (fun e => hn.1 (by rw [← e]; exact hy))).mpr (hs y (List.mem_cons_of_mem _ hy))
    rw [List.length_erase_of_mem hx] at this
    have := List.length_pos_of_mem hx
    rw [List.length_cons]
    omega
theorem RdOk.len {ns rd : List (List Nat)} (h : RdOk ns rd) : rd.length ≤ ns.length := nd_len _ _ h.1 h.2
theorem RdOk.nil {ns : List (List Nat)} : RdOk ns [] := ⟨List.nodup_nil, fun s h => by cases h⟩
theorem RdOk.add {ns rd : List (List Nat)} (h : RdOk ns rd) {s : List Nat} (hs : s ∈ ns) : RdOk ns (addN s rd) := by
  unfold addN
  split
  · exact h
  · rename_i hn
    refine ⟨?_, fun t ht => ?_⟩
    · rw [List.nodup_append]
      refine ⟨h.1, by simp, fun a ha b hb => ?_⟩
      rw [List.mem_singleton] at hb
      subst hb
      intro e
      subst e
      exact hn ha
    · rcases List.mem_append.mp ht with ht | ht
      · exact h.2 t ht
      · rw [List.mem_singleton] at ht; subst ht; exact hs
/-! numbers held within bounds -/
def cl (x : Int) : Int := if 99 < x then 99 else if x < -99 then -99 else x
theorem cl_le (x : Int) : -99 ≤ cl x ∧ cl x ≤ 99 := by
  unfold cl
  split
  · omega
  · split <;> omega
theorem held_ok (x : Int) (B L : Hs) : F_held_within [.d (.int x)] B L = .ok (.d (.int (cl x))) L := by
  unfold F_held_within
  refine x_pfn rfl fun B' => x_ret (x_B (x_cons (x_1 x_c rfl rfl) (x_cons (x_B (x_cons x_c (x_cons (x_var rfl) x_nil)) (x_vcons rfl (x_vcons rfl x_vnil)) rfl) x_nil)) (x_vcons rfl (x_vcons rfl x_vnil)) ?_)
  show some (D.int (if (if x < 99 then x else 99) > -99 then (if x < 99 then x else 99) else -99)) = some (.int (cl x))
  congr 2
  unfold cl
  by_cases h1 : x < 99
  · rw [if_pos h1, if_neg (show ¬ 99 < x by omega)]
    by_cases h2 : x > -99
    · rw [if_pos h2, if_neg (by omega)]
    · rw [if_neg h2]
      by_cases h3 : x < -99
      · rw [if_pos h3]
      · rw [if_neg h3]; omega
  · rw [if_neg h1, if_pos (by decide)]
    by_cases h2 : 99 < x
    · rw [if_pos h2]
    · rw [if_neg h2, if_neg (by omega)]; omega
theorem lcl_ok {B L : Hs} {ρ : Sl} {i : Nat} {x : Int} (h : ρ[i]? = some (some (.d (.int x)))) : eIf (tE (e2 opGt (eVar i) (eC (.int 99)))) (eC (.int 99)) (eIf (tE (e2 opLt (eVar i) (e1 opNeg (eC (.int 99))))) (e1 opNeg (eC (.int 99))) (eVar i)) B ρ L = .ok (.d (.int (cl x))) L := by
  unfold cl
  refine x_if (x_tE (x_2 (x_var h) x_c rfl rfl rfl) rfl rfl) ?_
  by_cases h1 : 99 < x
  · rw [if_pos h1]
    exact br1 (decide_eq_true h1) x_c
  · rw [if_neg h1]
    refine br0 (decide_eq_false h1) (x_if (x_tE (x_2 (x_var h) (x_1 x_c rfl rfl) rfl rfl rfl) rfl rfl) ?_)
    by_cases h2 : x < -99
    · rw [if_pos h2]
      exact br1 (decide_eq_true h2) (x_1 x_c rfl rfl)
    · rw [if_neg h2]
      exact br0 (decide_eq_false h2) (x_var h)
end K01
end Ev

set_option linter.all false
set_option maxRecDepth 100000
set_option maxHeartbeats 1000000
namespace Ev
namespace K01
section
variable {ns : List (List Nat)} {B : Hs} {es : Env} {key : List Nat} {body : Int} {rd st : List (List Nat)} {sd : List D}
theorem row_value_ok (hns : ns.length < 1000) {s : List Nat} (hs : s ∈ ns) (hr : RdOk ns rd) : ∃ rd', RdOk ns rd' ∧ F_Run_row_value [.ref B.length, .d (.str s)] B (runL B.length es key body rd st sd) = .ok (.d (.int (val (s, key) es))) (runL B.length es key body rd' st sd) := by
  have fin : ∀ rd', sRet (eGetN (eFld 0 [111, 119, 110, 95, 118, 97, 108, 117, 101, 115] (eVar 0)) (eTup (aCons (eVar 1) (aCons (eFld 0 [111, 119, 110, 95, 107, 101, 121] (eVar 0)) (aNil)))) (eC (.int 0))) B [some (.ref B.length), some (.d (.str s))] (runL B.length es key body rd' st sd) = .ret (.d (.int (val (s, key) es))) (runL B.length es key body rd' st sd) := fun rd' => by
    have hd : dcnAt B (runL B.length es key body rd' st sd) (.ref (B.length + 1)) = some (kD2 es, vD2 es) := dcn_obN (look_own 1)
    exact x_ret (x_getN (x_fld (x_var rfl) ins_run g_val) (by rw [hd]; rfl) (x_tup (x_cons (x_var rfl) (x_cons (x_fld (x_var rfl) ins_run g_key) x_nil)) rfl (Nat.le_of_ble_eq_true rfl)) x_c rfl hd (isNK_pair (s, key)) (get_env (s, key) es))
  have T : (tE (e2 opNotIn (eVar 1) (eFld 0 [111, 119, 110, 95, 115, 101, 116, 115] (eVar 0)))) B [some (.ref B.length), some (.d (.str s))] (runL B.length es key body rd st sd) = .ok (!decide (s ∈ st)) (runL B.length es key body rd st sd) :=
    x_tE (x_2 (x_var rfl) (x_fld (x_var rfl) ins_run g_sets) rfl (vw_obB (i := 3) rfl) (notIn_obB s st)) rfl rfl
  unfold F_Run_row_value
  by_cases h : s ∈ st
  · exact ⟨rd, hr, x_fn rfl (x_seq (x_sif T (br0 (by rw [decide_eq_true h]; rfl) x_snil)) (x_thenN (fin rd))) rfl⟩
  · have hl := hr.len
    exact ⟨addN s rd, hr.add hs, x_fn rfl (x_seq (x_sif T (br1 (by rw [decide_eq_false h]; rfl) (x_asg x_c (x_gitem (x_fld (x_var rfl) ins_run g_reads) (x_var rfl) rfl (put_obB (i := 2) s rfl (by omega)))))) (x_thenN (fin (addN s rd)))) rfl⟩
/-- the value of an expression, by both -/
theorem value_both (hns : ns.length < 1000) {d : Nat} {e : D} (h : Ex ns d e) : ∀ (n : Nat), d ≤ n → ∀ {es : Env} {key : List Nat} {body : Int}, EnvOk es → -99 ≤ body → body ≤ 99 → ∃ v : Int, -99 ≤ v ∧ v ≤ 99 ∧
    (∀ (B L : Hs) (p : Nat), look B L p = some (obN es) → R__law_worth n [.d e, .ref p, .d (.str key), .d (.int body)] B L = .ok (.d (.int v)) L) ∧
    (∀ (B : Hs) (rd st : List (List Nat)) (sd : List D), RdOk ns rd → ∃ rd', RdOk ns rd' ∧ R_Run_value_of n [.ref B.length, .d e] B (runL B.length es key body rd st sd) = .ok (.d (.int v)) (runL B.length es key body rd' st sd)) := by
  induction h with
  | @val d k a b =>
    intro n hn es key body he h1 h2
    obtain ⟨m, rfl⟩ : ∃ m, n = m + 1 := ⟨n - 1, by omega⟩
    refine ⟨k, a, b, fun B L p hp => ?_, fun B rd st sd hr => ⟨rd, hr, ?_⟩⟩
    · rw [R__law_worth]
      exact x_pure (x_fn rfl (x_seq (r1 := .ret (.d (.int k)) []) (x_sif (x_tE (x_2 (x_2 (x_var rfl) x_c rfl rfl rfl) x_c rfl rfl rfl) rfl rfl) (br1 rfl (x_ret (x_2 (x_var rfl) x_c rfl rfl rfl)))) x_thenR) rfl) rfl
    · rw [R_Run_value_of]
      exact x_fn rfl (x_seq (r1 := .ret (.d (.int k)) (runL B.length es key body rd st sd)) (x_sif (x_tE (x_2 (x_2 (x_var rfl) x_c rfl rfl rfl) x_c rfl rfl rfl) rfl rfl) (br1 rfl (x_ret (x_2 (x_var rfl) x_c rfl rfl rfl)))) x_thenR) rfl
  | @body d =>
    intro n hn es key body he h1 h2
    obtain ⟨m, rfl⟩ : ∃ m, n = m + 1 := ⟨n - 1, by omega⟩
    refine ⟨body, h1, h2, fun B L p hp => ?_, fun B rd st sd hr => ⟨rd, hr, ?_⟩⟩
    · rw [R__law_worth]
      exact x_pure (x_fn rfl (x_seq (x_sif (x_tE (x_2 (x_2 (x_var rfl) x_c rfl rfl rfl) x_c rfl rfl rfl) rfl rfl) (br0 rfl x_snil)) (x_thenN (x_seq (r1 := .ret (.d (.int body)) []) (x_sif (x_tE (x_2 (x_2 (x_var rfl) x_c rfl rfl rfl) x_c rfl rfl rfl) rfl rfl) (br1 rfl (x_ret (x_var rfl)))) x_thenR))) rfl) rfl
    · rw [R_Run_value_of]
      exact x_fn rfl (x_seq (x_sif (x_tE (x_2 (x_2 (x_var rfl) x_c rfl rfl rfl) x_c rfl rfl rfl) rfl rfl) (br0 rfl x_snil)) (x_thenN (x_seq (r1 := .ret (.d (.int body)) (runL B.length es key body rd st sd)) (x_sif (x_tE (x_2 (x_2 (x_var rfl) x_c rfl rfl rfl) x_c rfl rfl rfl) rfl rfl) (br1 rfl (x_ret (x_fld (x_var rfl) ins_run g_body)))) x_thenR))) rfl
  | @row d s hs =>
    intro n hn es key body he h1 h2
    obtain ⟨m, rfl⟩ : ∃ m, n = m + 1 := ⟨n - 1, by omega⟩
    obtain ⟨v1, v2⟩ := he.val (s, key)
    refine ⟨val (s, key) es, v1, v2, fun B L p hp => ?_, fun B rd st sd hr => ?_⟩
    · rw [R__law_worth]
      have hd : dcnAt (B ++ L) [] (.ref p) = some (kD2 es, vD2 es) := dcn_obN (by
        show ((B ++ L) ++ [])[p]? = _
        rw [List.append_nil]
        exact hp)
      exact x_pure (x_fn rfl (x_seq (x_sif (x_tE (x_2 (x_2 (x_var rfl) x_c rfl rfl rfl) x_c rfl rfl rfl) rfl rfl) (br0 rfl x_snil)) (x_thenN (x_seq (x_sif (x_tE (x_2 (x_2 (x_var rfl) x_c rfl rfl rfl) x_c rfl rfl rfl) rfl rfl) (br0 rfl x_snil)) (x_thenN (x_seq (r1 := .ret (.d (.int (val (s, key) es))) []) (x_sif (x_tE (x_2 (x_2 (x_var rfl) x_c rfl rfl rfl) x_c rfl rfl rfl) rfl rfl) (br1 rfl (x_ret
        (x_getN (x_var rfl) (by rw [hd]; rfl) (x_tup (x_cons (x_2 (x_var rfl) x_c rfl rfl rfl) (x_cons (x_var rfl) x_nil)) rfl (Nat.le_of_ble_eq_true rfl)) x_c rfl hd (isNK_pair (s, key)) (get_env (s, key) es))))) x_thenR))))) rfl) rfl
    · rw [R_Run_value_of]
      obtain ⟨rd', r1, E⟩ := row_value_ok (B := B) (es := es) (key := key) (body := body) (st := st) (sd := sd) hns hs hr
      exact ⟨rd', r1, x_fn rfl (x_seq (x_sif (x_tE (x_2 (x_2 (x_var rfl) x_c rfl rfl rfl) x_c rfl rfl rfl) rfl rfl) (br0 rfl x_snil)) (x_thenN (x_seq (x_sif (x_tE (x_2 (x_2 (x_var rfl) x_c rfl rfl rfl) x_c rfl rfl rfl) rfl rfl) (br0 rfl x_snil)) (x_thenN (x_seq (r1 := .ret (.d (.int (val (s, key) es))) (runL B.length es key body rd' st sd)) (x_sif (x_tE (x_2 (x_2 (x_var rfl) x_c rfl rfl rfl) x_c rfl rfl rfl) rfl rfl) (br1 rfl (x_ret
        (x_meth (x_var rfl) ins_run m_row (x_cons (x_2 (x_var rfl) x_c rfl rfl rfl) x_nil) rfl E)))) x_thenR))))) rfl⟩
  | @op d o a b ho _ _ ih1 ih2 =>
    intro n hn es key body he h1 h2
    obtain ⟨m, rfl⟩ : ∃ m, n = m + 1 := ⟨n - 1, by omega⟩
    obtain ⟨va, a1, a2, la, ra⟩ := ih1 m (by omega) (key := key) he h1 h2
    obtain ⟨vb, b1, b2, lb, rb⟩ := ih2 m (by omega) (key := key) he h1 h2
    have M : opMul (.int va) (.int vb) = some (.int (va * vb)) := o_mul (mulOk_l (by omega))
    have go : ∀ (x : Int), (∀ (B : Hs) (ρ : Sl) (L : Hs), ρ[0]? = some (some (.d (.tup [.str o, a, b]))) → ρ[5]? = some (some (.d (.int va))) → ρ[6]? = some (some (.d (.int vb))) → (eIf (tE (e2 opEq (e2 opIx (eVar 0) (eC (.int 0))) (eC (.str [43])))) (e2 opAdd (eVar 5) (eVar 6)) (eIf (tE (e2 opEq (e2 opIx (eVar 0) (eC (.int 0))) (eC (.str [45])))) (e2 opSub (eVar 5) (eVar 6)) (e2 opMul (eVar 5) (eVar 6)))) B ρ L = .ok (.d (.int x)) L) →
        (opIx (.dct [.str [43], .str [45], .str [42]] [.int (va + vb), .int (va - vb), .int (va * vb)]) (.str o) = some (.int x)) →
        decide (o = [118, 97, 108, 117, 101]) = false → decide (o = [98, 111, 100, 121]) = false → decide (o = [114, 111, 119]) = false →
        ∃ v : Int, -99 ≤ v ∧ v ≤ 99 ∧
          (∀ (B L : Hs) (p : Nat), look B L p = some (obN es) → R__law_worth (m + 1) [.d (.tup [.str o, a, b]), .ref p, .d (.str key), .d (.int body)] B L = .ok (.d (.int v)) L) ∧
          (∀ (B : Hs) (rd st : List (List Nat)) (sd : List D), RdOk ns rd → ∃ rd', RdOk ns rd' ∧ R_Run_value_of (m + 1) [.ref B.length, .d (.tup [.str o, a, b])] B (runL B.length es key body rd st sd) = .ok (.d (.int v)) (runL B.length es key body rd' st sd)) := by
      intro x hx hd n1 n2 n3
      obtain ⟨c1, c2⟩ := cl_le x
      refine ⟨cl x, c1, c2, fun B L p hp => ?_, fun B rd st sd hr => ?_⟩
      · rw [R__law_worth]
        have hp' : look (B ++ L) [] p = some (obN es) := by
          show ((B ++ L) ++ [])[p]? = _
          rw [List.append_nil]
          exact hp
        refine x_pure (x_fn rfl (x_seq (x_sif (x_tE (x_2 (x_2 (x_var rfl) x_c rfl rfl rfl) x_c rfl rfl rfl) rfl rfl) (br0 n1 x_snil)) (x_thenN (x_seq (x_sif (x_tE (x_2 (x_2 (x_var rfl) x_c rfl rfl rfl) x_c rfl rfl rfl) rfl rfl) (br0 n2 x_snil)) (x_thenN (x_seq (x_sif (x_tE (x_2 (x_2 (x_var rfl) x_c rfl rfl rfl) x_c rfl rfl rfl) rfl rfl) (br0 n3 x_snil)) (x_thenN
          (x_seq (x_par (x_cons (x_call (x_cons (x_2 (x_var rfl) x_c rfl rfl rfl) (x_cons (x_var rfl) (x_cons (x_var rfl) (x_cons (x_var rfl) x_nil)))) rfl (la _ _ p hp')) (x_cons (x_call (x_cons (x_2 (x_var rfl) x_c rfl rfl rfl) (x_cons (x_var rfl) (x_cons (x_var rfl) (x_cons (x_var rfl) x_nil)))) rfl (lb _ _ p hp')) x_nil))) (x_thenN
            (x_seq (x_asg (hx _ _ _ rfl rfl rfl) x_gvar) (x_thenN (x_ret (lcl_ok rfl))))))))))))  rfl) rfl
      · rw [R_Run_value_of]
        obtain ⟨rd1, r1, E1⟩ := ra B rd st sd hr
        obtain ⟨rd2, r2, E2⟩ := rb B rd1 st sd r1
        refine ⟨rd2, r2, x_fn rfl (x_seq (x_sif (x_tE (x_2 (x_2 (x_var rfl) x_c rfl rfl rfl) x_c rfl rfl rfl) rfl rfl) (br0 n1 x_snil)) (x_thenN (x_seq (x_sif (x_tE (x_2 (x_2 (x_var rfl) x_c rfl rfl rfl) x_c rfl rfl rfl) rfl rfl) (br0 n2 x_snil)) (x_thenN (x_seq (x_sif (x_tE (x_2 (x_2 (x_var rfl) x_c rfl rfl rfl) x_c rfl rfl rfl) rfl rfl) (br0 n3 x_snil)) (x_thenN
          (x_seq (x_par (x_cons (x_meth (x_var rfl) ins_run m_value (x_cons (x_2 (x_var rfl) x_c rfl rfl rfl) x_nil) rfl E1) (x_cons (x_meth (x_var rfl) ins_run m_value (x_cons (x_2 (x_var rfl) x_c rfl rfl rfl) x_nil) rfl E2) x_nil))) (x_thenN
            (x_ret (x_call (x_cons (x_2 (x_dct (x_pcons x_c (x_2 (x_var rfl) (x_var rfl) rfl rfl rfl) (x_pcons x_c (x_2 (x_var rfl) (x_var rfl) rfl rfl rfl) (x_pcons x_c (x_2 (x_var rfl) (x_var rfl) rfl rfl M) x_pnil))) rfl (x_vcons rfl (x_vcons rfl (x_vcons rfl x_vnil))) rfl) (x_2 (x_var rfl) x_c rfl rfl rfl) rfl rfl hd) x_nil) rfl (held_ok x _ _)))))))))))  rfl⟩
    simp only [List.mem_cons, List.not_mem_nil, or_false] at ho
    rcases ho with rfl | rfl | rfl
    · exact go (va + vb) (fun B ρ L h0 h5 h6 => x_if (x_tE (x_2 (x_2 (x_var h0) x_c rfl rfl rfl) x_c rfl rfl rfl) rfl rfl) (br1 rfl (x_2 (x_var h5) (x_var h6) rfl rfl rfl))) rfl rfl rfl rfl
    · exact go (va - vb) (fun B ρ L h0 h5 h6 => x_if (x_tE (x_2 (x_2 (x_var h0) x_c rfl rfl rfl) x_c rfl rfl rfl) rfl rfl) (br0 rfl (x_if (x_tE (x_2 (x_2 (x_var h0) x_c rfl rfl rfl) x_c rfl rfl rfl) rfl rfl) (br1 rfl (x_2 (x_var h5) (x_var h6) rfl rfl rfl))))) rfl rfl rfl rfl
    · exact go (va * vb) (fun B ρ L h0 h5 h6 => x_if (x_tE (x_2 (x_2 (x_var h0) x_c rfl rfl rfl) x_c rfl rfl rfl) rfl rfl) (br0 rfl (x_if (x_tE (x_2 (x_2 (x_var h0) x_c rfl rfl rfl) x_c rfl rfl rfl) rfl rfl) (br0 rfl (x_2 (x_var h5) (x_var h6) rfl rfl M))))) rfl rfl rfl rfl
end
end K01
end Ev

set_option linter.all false
set_option maxRecDepth 100000
set_option maxHeartbeats 1000000
namespace Ev
namespace K01
section
variable {ns : List (List Nat)}
/-- the truth of a condition, by both -/
theorem truth_both (hns : ns.length < 1000) {d : Nat} {c : D} (h : Cn ns d c) : ∀ (n : Nat), d ≤ n → ∀ {es : Env} {key : List Nat} {body : Int}, EnvOk es → -99 ≤ body → body ≤ 99 → ∃ k : Bool,
    (∀ (B L : Hs) (p : Nat), look B L p = some (obN es) → R__law_holds n [.d c, .ref p, .d (.str key), .d (.int body)] B L = .ok (.d (.bl k)) L) ∧
    (∀ (B : Hs) (rd st : List (List Nat)) (sd : List D), RdOk ns rd → ∃ rd', RdOk ns rd' ∧ R_Run_truth_of n [.ref B.length, .d c] B (runL B.length es key body rd st sd) = .ok (.d (.bl k)) (runL B.length es key body rd' st sd)) := by
  induction h with
  | @cmp d o a b ho ha hb =>
    intro n hn es key body he h1 h2
    obtain ⟨m, rfl⟩ : ∃ m, n = m + 1 := ⟨n - 1, by omega⟩
    obtain ⟨va, a1, a2, la, ra⟩ := value_both hns ha 12 (by decide) (key := key) he h1 h2
    obtain ⟨vb, b1, b2, lb, rb⟩ := value_both hns hb 12 (by decide) (key := key) he h1 h2
    have go : ∀ (k : Bool), (∀ (B : Hs) (ρ : Sl) (L : Hs) (i j l : Nat), ρ[l]? = some (some (.d (.tup [.str o, a, b]))) → ρ[i]? = some (some (.d (.int va))) → ρ[j]? = some (some (.d (.int vb))) → (eIf (tE (e2 opEq (e2 opIx (eVar l) (eC (.int 0))) (eC (.str [60])))) (e2 opLt (eVar i) (eVar j)) (e2 opEq (eVar i) (eVar j))) B ρ L = .ok (.d (.bl k)) L) →
        decide (o = [110, 111, 116]) = false → decide (o = [97, 110, 100]) = false → decide (o = [111, 114]) = false → opIn (.str o) (.tup [(.str [97, 110, 100]), (.str [111, 114])]) = some (.bl false) →
        ∃ k : Bool, (∀ (B L : Hs) (p : Nat), look B L p = some (obN es) → R__law_holds (m + 1) [.d (.tup [.str o, a, b]), .ref p, .d (.str key), .d (.int body)] B L = .ok (.d (.bl k)) L) ∧
          (∀ (B : Hs) (rd st : List (List Nat)) (sd : List D), RdOk ns rd → ∃ rd', RdOk ns rd' ∧ R_Run_truth_of (m + 1) [.ref B.length, .d (.tup [.str o, a, b])] B (runL B.length es key body rd st sd) = .ok (.d (.bl k)) (runL B.length es key body rd' st sd)) := by
      intro k hx n1 n2 n3 n4
      refine ⟨k, fun B L p hp => ?_, fun B rd st sd hr => ?_⟩
      · rw [R__law_holds]
        have hp' : look (B ++ L) [] p = some (obN es) := by
          show ((B ++ L) ++ [])[p]? = _
          rw [List.append_nil]
          exact hp
        refine x_pure (x_fn (r1 := .ret (.d (.bl k)) []) rfl ?_ rfl) rfl
        refine x_seq (x_sif (x_tE (x_2 (x_2 (x_var rfl) x_c rfl rfl rfl) x_c rfl rfl rfl) rfl rfl) (br0 n1 x_snil)) (x_thenN ?_)
        refine x_seq (x_sif (x_tE (x_2 (x_2 (x_var rfl) x_c rfl rfl rfl) x_c rfl rfl rfl) rfl rfl) (br0 n2 x_snil)) (x_thenN ?_)
        refine x_seq (x_sif (x_tE (x_2 (x_2 (x_var rfl) x_c rfl rfl rfl) x_c rfl rfl rfl) rfl rfl) (br0 n3 x_snil)) (x_thenN ?_)
        refine x_seq (x_par (x_cons (x_call (x_cons (x_2 (x_var rfl) x_c rfl rfl rfl) (x_cons (x_var rfl) (x_cons (x_var rfl) (x_cons (x_var rfl) x_nil)))) rfl (la _ _ p hp')) (x_cons (x_call (x_cons (x_2 (x_var rfl) x_c rfl rfl rfl) (x_cons (x_var rfl) (x_cons (x_var rfl) (x_cons (x_var rfl) x_nil)))) rfl (lb _ _ p hp')) x_nil))) (x_thenN ?_)
        exact x_ret (hx _ _ _ 4 5 0 rfl rfl rfl)
      · rw [R_Run_truth_of]
        obtain ⟨rd1, r1, E1⟩ := ra B rd st sd hr
        obtain ⟨rd2, r2, E2⟩ := rb B rd1 st sd r1
        refine ⟨rd2, r2, x_fn (r1 := .ret (.d (.bl k)) (runL B.length es key body rd2 st sd)) rfl ?_ rfl⟩
        refine x_seq (x_sif (x_tE (x_2 (x_2 (x_var rfl) x_c rfl rfl rfl) x_c rfl rfl rfl) rfl rfl) (br0 n1 x_snil)) (x_thenN ?_)
        refine x_seq (x_sif (x_tE (x_2 (x_2 (x_var rfl) x_c rfl rfl rfl) x_c rfl rfl n4) rfl rfl) (br0 rfl x_snil)) (x_thenN ?_)
        refine x_seq (x_par (x_cons (x_meth (x_var rfl) ins_run m_value (x_cons (x_2 (x_var rfl) x_c rfl rfl rfl) x_nil) rfl E1) (x_cons (x_meth (x_var rfl) ins_run m_value (x_cons (x_2 (x_var rfl) x_c rfl rfl rfl) x_nil) rfl E2) x_nil))) (x_thenN ?_)
        exact x_ret (hx _ _ _ 3 4 1 rfl rfl rfl)
    simp only [List.mem_cons, List.not_mem_nil, or_false] at ho
    rcases ho with rfl | rfl
    · exact go (decide (va < vb)) (fun B ρ L i j l h0 h5 h6 => x_if (x_tE (x_2 (x_2 (x_var h0) x_c rfl rfl rfl) x_c rfl rfl rfl) rfl rfl) (br1 rfl (x_2 (x_var h5) (x_var h6) rfl rfl rfl))) rfl rfl rfl rfl
    · exact go (decide (va = vb)) (fun B ρ L i j l h0 h5 h6 => x_if (x_tE (x_2 (x_2 (x_var h0) x_c rfl rfl rfl) x_c rfl rfl rfl) rfl rfl) (br0 rfl (x_2 (x_var h5) (x_var h6) rfl rfl rfl))) rfl rfl rfl rfl
  | @no d a _ ih =>
    intro n hn es key body he h1 h2
    obtain ⟨m, rfl⟩ : ∃ m, n = m + 1 := ⟨n - 1, by omega⟩
    obtain ⟨k, l, r⟩ := ih m (by omega) (key := key) he h1 h2
    refine ⟨!k, fun B L p hp => ?_, fun B rd st sd hr => ?_⟩
    · rw [R__law_holds]
      have hp' : look (B ++ L) [] p = some (obN es) := by
        show ((B ++ L) ++ [])[p]? = _
        rw [List.append_nil]
        exact hp
      exact x_pure (x_fn rfl (x_seq (r1 := .ret (.d (.bl (!k))) []) (x_sif (x_tE (x_2 (x_2 (x_var rfl) x_c rfl rfl rfl) x_c rfl rfl rfl) rfl rfl) (br1 rfl (x_ret (x_not (x_call (x_cons (x_2 (x_var rfl) x_c rfl rfl rfl) (x_cons (x_var rfl) (x_cons (x_var rfl) (x_cons (x_var rfl) x_nil)))) rfl (l _ _ p hp')) rfl rfl)))) x_thenR) rfl) rfl
    · rw [R_Run_truth_of]
      obtain ⟨rd1, r1, E1⟩ := r B rd st sd hr
      exact ⟨rd1, r1, x_fn rfl (x_seq (r1 := .ret (.d (.bl (!k))) (runL B.length es key body rd1 st sd)) (x_sif (x_tE (x_2 (x_2 (x_var rfl) x_c rfl rfl rfl) x_c rfl rfl rfl) rfl rfl) (br1 rfl (x_ret (x_not (x_meth (x_var rfl) ins_run m_truth (x_cons (x_2 (x_var rfl) x_c rfl rfl rfl) x_nil) rfl E1) rfl rfl)))) x_thenR) rfl⟩
  | @jn d o a b ho _ _ ih1 ih2 =>
    intro n hn es key body he h1 h2
    obtain ⟨m, rfl⟩ : ∃ m, n = m + 1 := ⟨n - 1, by omega⟩
    obtain ⟨ka, la, ra⟩ := ih1 m (by omega) (key := key) he h1 h2
    obtain ⟨kb, lb, rb⟩ := ih2 m (by omega) (key := key) he h1 h2
    have lp : ∀ {B L : Hs} {p : Nat}, look B L p = some (obN es) → look (B ++ L) [] p = some (obN es) := fun {B L p} hp => by
      show ((B ++ L) ++ [])[p]? = _
      rw [List.append_nil]
      exact hp
    simp only [List.mem_cons, List.not_mem_nil, or_false] at ho
    rcases ho with rfl | rfl
    · refine ⟨ka && kb, fun B L p hp => ?_, fun B rd st sd hr => ?_⟩
      · rw [R__law_holds]
        exact x_pure (x_fn rfl (x_seq (x_sif (x_tE (x_2 (x_2 (x_var rfl) x_c rfl rfl rfl) x_c rfl rfl rfl) rfl rfl) (br0 rfl x_snil)) (x_thenN (x_seq (r1 := .ret (.d (.bl (ka && kb))) []) (x_sif (x_tE (x_2 (x_2 (x_var rfl) x_c rfl rfl rfl) x_c rfl rfl rfl) rfl rfl) (br1 rfl (x_ret (z_and
          (x_call (x_cons (x_2 (x_var rfl) x_c rfl rfl rfl) (x_cons (x_var rfl) (x_cons (x_var rfl) (x_cons (x_var rfl) x_nil)))) rfl (la _ _ p (lp hp))) fun _ => x_call (x_cons (x_2 (x_var rfl) x_c rfl rfl rfl) (x_cons (x_var rfl) (x_cons (x_var rfl) (x_cons (x_var rfl) x_nil)))) rfl (lb _ _ p (lp hp)))))) x_thenR))) rfl) rfl
      · rw [R_Run_truth_of]
        obtain ⟨rd1, r1, E1⟩ := ra B rd st sd hr
        obtain ⟨rd2, r2, E2⟩ := rb B rd1 st sd r1
        refine ⟨rd2, r2, x_fn rfl (x_seq (x_sif (x_tE (x_2 (x_2 (x_var rfl) x_c rfl rfl rfl) x_c rfl rfl rfl) rfl rfl) (br0 rfl x_snil)) (x_thenN (x_seq (r1 := .ret (.d (.bl (ka && kb))) (runL B.length es key body rd2 st sd)) (x_sif (x_tE (x_2 (x_2 (x_var rfl) x_c rfl rfl rfl) x_c rfl rfl rfl) rfl rfl) (br1 rfl
          (x_seq (x_asg (x_lst (x_cons (x_meth (x_var rfl) ins_run m_truth (x_cons (x_2 (x_var rfl) x_c rfl rfl rfl) x_nil) rfl E1) (x_cons (x_meth (x_var rfl) ins_run m_truth (x_cons (x_2 (x_var rfl) x_c rfl rfl rfl) x_nil) rfl E2) x_nil)) rfl (Nat.le_of_ble_eq_true rfl)) x_gvar) (x_thenN (x_ret (x_if (x_tE (x_2 (x_2 (x_var rfl) x_c rfl rfl rfl) x_c rfl rfl rfl) rfl rfl) (br1 rfl (x_B (x_cons (x_var rfl) x_nil) (x_vcons rfl x_vnil) ?_)))))))) x_thenR))) rfl⟩
        show some (D.bl (ka && (kb && true))) = _
        rw [Bool.and_true]
    · refine ⟨ka || kb, fun B L p hp => ?_, fun B rd st sd hr => ?_⟩
      · rw [R__law_holds]
        exact x_pure (x_fn rfl (x_seq (x_sif (x_tE (x_2 (x_2 (x_var rfl) x_c rfl rfl rfl) x_c rfl rfl rfl) rfl rfl) (br0 rfl x_snil)) (x_thenN (x_seq (x_sif (x_tE (x_2 (x_2 (x_var rfl) x_c rfl rfl rfl) x_c rfl rfl rfl) rfl rfl) (br0 rfl x_snil)) (x_thenN (x_seq (r1 := .ret (.d (.bl (ka || kb))) []) (x_sif (x_tE (x_2 (x_2 (x_var rfl) x_c rfl rfl rfl) x_c rfl rfl rfl) rfl rfl) (br1 rfl (x_ret (z_or
          (x_call (x_cons (x_2 (x_var rfl) x_c rfl rfl rfl) (x_cons (x_var rfl) (x_cons (x_var rfl) (x_cons (x_var rfl) x_nil)))) rfl (la _ _ p (lp hp))) fun _ => x_call (x_cons (x_2 (x_var rfl) x_c rfl rfl rfl) (x_cons (x_var rfl) (x_cons (x_var rfl) (x_cons (x_var rfl) x_nil)))) rfl (lb _ _ p (lp hp)))))) x_thenR))))) rfl) rfl
      · rw [R_Run_truth_of]
        obtain ⟨rd1, r1, E1⟩ := ra B rd st sd hr
        obtain ⟨rd2, r2, E2⟩ := rb B rd1 st sd r1
        refine ⟨rd2, r2, x_fn rfl (x_seq (x_sif (x_tE (x_2 (x_2 (x_var rfl) x_c rfl rfl rfl) x_c rfl rfl rfl) rfl rfl) (br0 rfl x_snil)) (x_thenN (x_seq (r1 := .ret (.d (.bl (ka || kb))) (runL B.length es key body rd2 st sd)) (x_sif (x_tE (x_2 (x_2 (x_var rfl) x_c rfl rfl rfl) x_c rfl rfl rfl) rfl rfl) (br1 rfl
          (x_seq (x_asg (x_lst (x_cons (x_meth (x_var rfl) ins_run m_truth (x_cons (x_2 (x_var rfl) x_c rfl rfl rfl) x_nil) rfl E1) (x_cons (x_meth (x_var rfl) ins_run m_truth (x_cons (x_2 (x_var rfl) x_c rfl rfl rfl) x_nil) rfl E2) x_nil)) rfl (Nat.le_of_ble_eq_true rfl)) x_gvar) (x_thenN (x_ret (x_if (x_tE (x_2 (x_2 (x_var rfl) x_c rfl rfl rfl) x_c rfl rfl rfl) rfl rfl) (br0 rfl (x_B (x_cons (x_var rfl) x_nil) (x_vcons rfl x_vnil) ?_)))))))) x_thenR))) rfl⟩
        show some (D.bl (ka || (kb || false))) = _
        rw [Bool.or_false]
end
end K01
end Ev

set_option linter.all false
set_option maxRecDepth 100000
set_option maxHeartbeats 1000000
namespace Ev
namespace K01
def lBody (F : Fn) : SS := (sSeq (sIf (tE (e2 opEq (e2 opIx (eVar 5) (eC (.int 0))) (eC (.str [102, 97, 105, 108])))) (sRet (eC (.bl false))) (sNil))
  (sIf (tE (e2 opEq (e2 opIx (eVar 5) (eC (.int 0))) (eC (.str [115, 101, 116])))) (sAsg (eCall 4 F__law_worth (aCons (e2 opIx (eVar 5) (eC (.int 2))) (aCons (eVar 1) (aCons (eVar 3) (aCons (eVar 4) (aNil)))))) (gItem (eVar 1) (eTup (aCons (e2 opIx (eVar 5) (eC (.int 1))) (aCons (eVar 3) (aNil)))))) (sIf (tE (e2 opEq (e2 opIx (eVar 5) (eC (.int 0))) (eC (.str [115, 101, 110, 100])))) (sExpr (eApp (eVar 2) (eTup (aCons (e2 opIx (eVar 5) (eC (.int 1))) (aCons (eIf (tE (eIsN (e2 opIx (eVar 5) (eC (.int 2))))) (eVar 3) (e2 opIx (eVar 5) (eC (.int 2)))) (aCons (eCall 4 F__law_worth (aCons (e2 opIx (eVar 5) (eC (.int 3))) (aCons (eVar 1) (aCons (eVar 3) (aCons (eVar 4) (aNil)))))) (aNil))))))) (sIf (tNot (tE (eCall 5 F (aCons (eIf (tE (eCall 4 F__law_holds (aCons (e2 opIx (eVar 5) (eC (.int 1))) (aCons (eVar 1) (aCons (eVar 3) (aCons (eVar 4) (aNil))))))) (e2 opIx (eVar 5) (eC (.int 2))) (e2 opIx (eVar 5) (eC (.int 3)))) (aCons (eVar 1) (aCons (eVar 2) (aCons (eVar 3) (aCons (eVar 4) (aNil))))))))) (sRet (eC (.bl false))) (sNil)))))
def rBody (F : Fn) : SS := (sIf (tNot (tE (eMeth 0 [105, 115, 95, 100, 101, 101, 100, 95, 100, 111, 110, 101] 2 F (eVar 0) (aCons (eVar 2) (aNil))))) (sRet (eC (.bl false))) (sNil))

def lawL (es : Env) (sd : List D) : Hs := [obN es, .lst (sd.map .d)]
def SdOk (sd : List D) : Prop := ∀ y ∈ sd, ∃ a b v, y = .tup [.str a, .str b, .int v] ∧ WordOk a ∧ WordOk b ∧ -99 ≤ v ∧ v ≤ 99
def lSl (dd : Option W) (n : Nat) (key : List Nat) (body : Int) (o : Option W) : Sl := [dd, some (.ref n), some (.ref (n + 1)), some (.d (.str key)), some (.d (.int body)), o]
def fin (k : Bool) (ρ : Sl) (L : Hs) : SR := if k = true then .next ρ L else .ret (.d (.bl false)) L
/-- what a run is: how it ends, what it leaves -/
structure Left (es : Env) (sd : List D) (c : Nat) (es' : Env) (sd' : List D) : Prop where
  env : EnvOk es'
  le : es'.length ≤ es.length + c
  ls : sd'.length ≤ sd.length + c
  sd : SdOk sd'
/-- one deed, by both -/
def DeedB (ns ks : List (List Nat)) (x : D) (c n m : Nat) : Prop := ∀ (es : Env) (key : List Nat) (body : Int) (sd : List D), EnvOk es → WordOk key → -99 ≤ body → body ≤ 99 → SdOk sd → es.length + c ≤ 800 → sd.length + c ≤ 800 → ∃ (k : Bool) (es' : Env) (sd' : List D), Left es sd c es' sd' ∧
  (∀ (B : Hs) (dd : Option W), lBody (R__law_did n) B (lSl dd B.length key body (some (.d x))) (lawL es sd) = fin k (lSl dd B.length key body (some (.d x))) (lawL es' sd')) ∧
  (∀ (B : Hs) (rd st : List (List Nat)), RdOk ns rd → RdOk ns st → ∃ rd' st', RdOk ns rd' ∧ RdOk ns st' ∧ R_Run_is_deed_done m [.ref B.length, .d x] B (runL B.length es key body rd st sd) = .ok (.d (.bl k)) (runL B.length es' key body rd' st' sd'))
def DeedsB (ns ks : List (List Nat)) (xs : List D) (c n m : Nat) : Prop := ∀ (es : Env) (key : List Nat) (body : Int) (sd : List D), EnvOk es → WordOk key → -99 ≤ body → body ≤ 99 → SdOk sd → es.length + c ≤ 800 → sd.length + c ≤ 800 → ∃ (k : Bool) (es' : Env) (sd' : List D), Left es sd c es' sd' ∧
  (∀ (B : Hs), R__law_did n [.d (.tup xs), .ref B.length, .ref (B.length + 1), .d (.str key), .d (.int body)] B (lawL es sd) = .ok (.d (.bl k)) (lawL es' sd')) ∧
  (∀ (B : Hs) (rd st : List (List Nat)), RdOk ns rd → RdOk ns st → ∃ rd' st', RdOk ns rd' ∧ RdOk ns st' ∧ R_Run_is_done m [.ref B.length, .d (.tup xs)] B (runL B.length es key body rd st sd) = .ok (.d (.bl k)) (runL B.length es' key body rd' st' sd'))
section
variable {ns ks kd : List (List Nat)}
theorem loops {P : Nat → D → Prop} {n m : Nat} (hP : ∀ c x, P c x → DeedB ns ks x c n m) {c : Nat} {xs : List D} (h : DsC P c xs) : ∀ (es : Env) (key : List Nat) (body : Int) (sd : List D), EnvOk es → WordOk key → -99 ≤ body → body ≤ 99 → SdOk sd → es.length + c ≤ 800 → sd.length + c ≤ 800 → ∃ (k : Bool) (es' : Env) (sd' : List D), Left es sd c es' sd' ∧
    (∀ (B : Hs) (dd o : Option W), ∃ o', forGo (gVar 5) (lBody (R__law_did n)) B xs (lSl dd B.length key body o) (lawL es sd) = fin k (lSl dd B.length key body o') (lawL es' sd')) ∧
    (∀ (B : Hs) (rd st : List (List Nat)) (dd o : Option W), RdOk ns rd → RdOk ns st → ∃ rd' st' o', RdOk ns rd' ∧ RdOk ns st' ∧ forGo (gVar 2) (rBody (R_Run_is_deed_done m)) B xs [some (.ref B.length), dd, o] (runL B.length es key body rd st sd) = fin k [some (.ref B.length), dd, o'] (runL B.length es' key body rd' st' sd')) := by
  induction h with
  | nil =>
    intro es key body sd he hk b1 b2 hs l1 l2
    exact ⟨true, es, sd, ⟨he, Nat.le_refl _, Nat.le_refl _, hs⟩, fun B dd o => ⟨o, rfl⟩, fun B rd st dd o r1 r2 => ⟨rd, st, o, r1, r2, rfl⟩⟩
  | @cons a b x xs hx _ ih =>
    intro es key body sd he hk b1 b2 hs l1 l2
    obtain ⟨k, es1, sd1, lf, lw, rw'⟩ := hP b x hx es key body sd he hk b1 b2 hs (by omega) (by omega)
    have h1 := lf.le
    have h2 := lf.ls
    cases k with
    | false =>
      refine ⟨false, es1, sd1, ⟨lf.env, by omega, by omega, lf.sd⟩, fun B dd o => ⟨some (.d x), x_forcons x_gvar (lw B dd) x_turnR⟩, fun B rd st dd o r1 r2 => ?_⟩
      obtain ⟨rd', st', q1, q2, E⟩ := rw' B rd st r1 r2
      exact ⟨rd', st', some (.d x), q1, q2, x_forcons (sr1 := .ret (.d (.bl false)) (runL B.length es1 key body rd' st' sd1)) x_gvar (x_sif (x_tNot (x_tE (x_meth (x_var rfl) ins_run m_deed (x_cons (x_var rfl) x_nil) rfl E) rfl rfl)) (br1 rfl (x_ret x_c))) x_turnR⟩
    | true =>
      obtain ⟨k, es2, sd2, lf2, lw2, rw2⟩ := ih es1 key body sd1 lf.env hk b1 b2 lf.sd (by omega) (by omega)
      have h3 := lf2.le
      have h4 := lf2.ls
      refine ⟨k, es2, sd2, ⟨lf2.env, by omega, by omega, lf2.sd⟩, fun B dd o => ?_, fun B rd st dd o r1 r2 => ?_⟩
      · obtain ⟨o', E⟩ := lw2 B dd (some (.d x))
        exact ⟨o', x_forcons x_gvar (lw B dd) (x_turnN E)⟩
      · obtain ⟨rd', st', q1, q2, E⟩ := rw' B rd st r1 r2
        obtain ⟨rd2, st2, o', p1, p2, E2⟩ := rw2 B rd' st' dd (some (.d x)) q1 q2
        exact ⟨rd2, st2, o', p1, p2, x_forcons (sr1 := .next [some (.ref B.length), dd, some (.d x)] (runL B.length es1 key body rd' st' sd1)) x_gvar (x_sif (x_tNot (x_tE (x_meth (x_var rfl) ins_run m_deed (x_cons (x_var rfl) x_nil) rfl E) rfl rfl)) (br0 rfl x_snil)) (x_turnN E2)⟩
theorem deeds_of {P : Nat → D → Prop} {n m : Nat} (hP : ∀ c x, P c x → DeedB ns ks x c n m) {c : Nat} {xs : List D} (h : DsC P c xs) : DeedsB ns ks xs c (n + 1) (m + 1) := by
  intro es key body sd he hk b1 b2 hs l1 l2
  obtain ⟨k, es', sd', lf, lw, rw'⟩ := loops hP h es key body sd he hk b1 b2 hs l1 l2
  refine ⟨k, es', sd', lf, fun B => ?_, fun B rd st r1 r2 => ?_⟩
  · rw [R__law_did]
    obtain ⟨o', E⟩ := lw B (some (.d (.tup xs))) none
    cases k with
    | true => exact x_fn (r1 := .ret (.d (.bl true)) (lawL es' sd')) rfl (x_seq (x_for (x_iE (x_var rfl) rfl rfl) E) (x_thenN (x_ret x_c))) rfl
    | false => exact x_fn (r1 := .ret (.d (.bl false)) (lawL es' sd')) rfl (x_seq (x_for (x_iE (x_var rfl) rfl rfl) E) x_thenR) rfl
  · rw [R_Run_is_done]
    obtain ⟨rd', st', o', q1, q2, E⟩ := rw' B rd st (some (.d (.tup xs))) none r1 r2
    refine ⟨rd', st', q1, q2, ?_⟩
    cases k with
    | true => exact x_fn (r1 := .ret (.d (.bl true)) (runL B.length es' key body rd' st' sd')) rfl (x_seq (x_for (x_iE (x_var rfl) rfl rfl) E) (x_thenN (x_ret x_c))) rfl
    | false => exact x_fn (r1 := .ret (.d (.bl false)) (runL B.length es' key body rd' st' sd')) rfl (x_seq (x_for (x_iE (x_var rfl) rfl rfl) E) x_thenR) rfl
/-- 'fail' -/
theorem fail_both {n m c : Nat} : DeedB ns ks (.tup [.str sFail]) c n (m + 1) := by
  intro es key body sd he hk b1 b2 hs l1 l2
  refine ⟨false, es, sd, ⟨he, by omega, by omega, hs⟩, fun B dd => ?_, fun B rd st r1 r2 => ⟨rd, st, r1, r2, ?_⟩⟩
  · unfold lBody
    exact x_seq (r1 := .ret (.d (.bl false)) (lawL es sd)) (x_sif (x_tE (x_2 (x_2 (x_var rfl) x_c rfl rfl rfl) x_c rfl rfl rfl) rfl rfl) (br1 rfl (x_ret x_c))) x_thenR
  · rw [R_Run_is_deed_done]
    refine x_fn (r1 := .ret (.d (.bl false)) (runL B.length es key body rd st sd)) rfl ?_ rfl
    refine x_seq (x_sif (x_tE (x_2 (x_2 (x_var rfl) x_c rfl rfl rfl) x_c rfl rfl rfl) rfl rfl) (br0 rfl x_snil)) (x_thenN ?_)
    refine x_seq (x_sif (x_tE (x_2 (x_2 (x_var rfl) x_c rfl rfl rfl) x_c rfl rfl rfl) rfl rfl) (br0 rfl x_snil)) (x_thenN ?_)
    refine x_seq (x_sif (x_tE (x_2 (x_2 (x_var rfl) x_c rfl rfl rfl) x_c rfl rfl rfl) rfl rfl) (br0 rfl x_snil)) (x_thenN ?_)
    exact x_ret (x_2 (x_2 (x_var rfl) x_c rfl rfl rfl) x_c rfl rfl rfl)
theorem lk0 {B : Hs} {es : Env} {sd : List D} : look B (lawL es sd) B.length = some (obN es) := look_own 0
/-- 'set' -/
theorem set_both (hns : ns.length < 1000) (hn : ∀ s ∈ ns, WordOk s) {n m : Nat} {s : List Nat} {e : D} (hs : s ∈ ns) (hx : Ex ns 4 e) : DeedB ns ks (.tup [.str sSet, .str s, e]) 1 n (m + 1) := by
  intro es key body sd he hk b1 b2 hsd l1 l2
  obtain ⟨v, v1, v2, lw, rw'⟩ := value_both hns hx 12 (by decide) (key := key) he b1 b2
  have pl := put_len (s, key) v es
  refine ⟨true, putE (s, key) v es, sd, ⟨he.put (hn s hs) hk v1 v2, by omega, by omega, hsd⟩, fun B dd => ?_, fun B rd st r1 r2 => ?_⟩
  · unfold lBody
    refine x_seq (x_sif (x_tE (x_2 (x_2 (x_var rfl) x_c rfl rfl rfl) x_c rfl rfl rfl) rfl rfl) (br0 rfl x_snil)) (x_thenN ?_)
    refine x_sif (x_tE (x_2 (x_2 (x_var rfl) x_c rfl rfl rfl) x_c rfl rfl rfl) rfl rfl) (br1 rfl ?_)
    exact x_asg (x_call (x_cons (x_2 (x_var rfl) x_c rfl rfl rfl) (x_cons (x_var rfl) (x_cons (x_var rfl) (x_cons (x_var rfl) x_nil)))) rfl (lw _ _ _ lk0)) (x_gitem (x_var rfl) (x_tup (x_cons (x_2 (x_var rfl) x_c rfl rfl rfl) (x_cons (x_var rfl) x_nil)) rfl (Nat.le_of_ble_eq_true rfl)) rfl (put_obN (B := B) (i := 0) (s, key) v rfl (by omega)))
  · rw [R_Run_is_deed_done]
    obtain ⟨rd', q1, E⟩ := rw' B rd st sd r1
    have hst := r2.len
    refine ⟨rd', addN s st, q1, r2.add hs, ?_⟩
    refine x_fn (r1 := .ret (.d (.bl true)) (runL B.length (putE (s, key) v es) key body rd' (addN s st) sd)) rfl ?_ rfl
    refine x_seq (r1 := .next [some (.ref B.length), some (.d (.tup [.str sSet, .str s, e])), none] (runL B.length (putE (s, key) v es) key body rd' (addN s st) sd)) (x_sif (x_tE (x_2 (x_2 (x_var rfl) x_c rfl rfl rfl) x_c rfl rfl rfl) rfl rfl) (br1 rfl ?_)) (x_thenN ?_)
    · refine x_seq (r1 := .next [some (.ref B.length), some (.d (.tup [.str sSet, .str s, e])), none] (runL B.length (putE (s, key) v es) key body rd' st sd)) (x_asg (x_meth (x_var rfl) ins_run m_value (x_cons (x_2 (x_var rfl) x_c rfl rfl rfl) x_nil) rfl E) (x_gitem (x_fld (x_var rfl) ins_run g_val) (x_tup (x_cons (x_2 (x_var rfl) x_c rfl rfl rfl) (x_cons (x_fld (x_var rfl) ins_run g_key) x_nil)) rfl (Nat.le_of_ble_eq_true rfl)) rfl (put_obN (B := B) (i := 1) (s, key) v rfl (by omega)))) (x_thenN ?_)
      exact x_asg x_c (x_gitem (x_fld (x_var rfl) ins_run g_sets) (x_2 (x_var rfl) x_c rfl rfl rfl) rfl (put_obB (i := 3) s rfl (by omega)))
    · refine x_seq (x_sif (x_tE (x_2 (x_2 (x_var rfl) x_c rfl rfl rfl) x_c rfl rfl rfl) rfl rfl) (br0 rfl x_snil)) (x_thenN ?_)
      refine x_seq (x_sif (x_tE (x_2 (x_2 (x_var rfl) x_c rfl rfl rfl) x_c rfl rfl rfl) rfl rfl) (br0 rfl x_snil)) (x_thenN ?_)
      exact x_ret (x_2 (x_2 (x_var rfl) x_c rfl rfl rfl) x_c rfl rfl rfl)
/-- 'send' -/
theorem send_both (hns : ns.length < 1000) (hn : ∀ s ∈ ns, WordOk s) (hks : ∀ s ∈ ks, WordOk s) {n m : Nat} {q : List Nat} {ky e : D} (hq : WordOk q) (hky : ky = .non ∨ ∃ t ∈ ks, ky = .str t) (hx : Ex ns 3 e) : DeedB ns ks (.tup [.str sSend, .str q, ky, e]) 1 n (m + 1) := by
  intro es key body sd he hk b1 b2 hsd l1 l2
  obtain ⟨v, v1, v2, lw, rw'⟩ := value_both hns hx 12 (by decide) (key := key) he b1 b2
  obtain ⟨kk, hkk, hkw⟩ : ∃ kk, (∀ (B : Hs) (ρ : Sl) (L : Hs) (i : Nat) (f : SE), ρ[i]? = some (some (.d (.tup [.str sSend, .str q, ky, e]))) → f B ρ L = .ok (.d (.str key)) L → eIf (tE (eIsN (e2 opIx (eVar i) (eC (.int 2))))) f (e2 opIx (eVar i) (eC (.int 2))) B ρ L = .ok (.d (.str kk)) L) ∧ WordOk kk := by
    rcases hky with rfl | ⟨t, ht, rfl⟩
    · exact ⟨key, fun B ρ L i f h0 hf => x_if (x_tE (x_isN (x_2 (x_var h0) x_c rfl rfl rfl)) rfl rfl) (br1 rfl hf), hk⟩
    · exact ⟨t, fun B ρ L i f h0 hf => x_if (x_tE (x_isN (x_2 (x_var h0) x_c rfl rfl rfl)) rfl rfl) (br0 rfl (x_2 (x_var h0) x_c rfl rfl rfl)), hks t ht⟩
  refine ⟨true, es, sd ++ [.tup [.str q, .str kk, .int v]], ⟨he, by omega, by rw [List.length_append]; exact Nat.le_refl _, fun y hy => ?_⟩, fun B dd => ?_, fun B rd st r1 r2 => ?_⟩
  · rcases List.mem_append.mp hy with hy | hy
    · exact hsd y hy
    · rw [List.mem_singleton] at hy
      exact ⟨q, kk, v, hy, hq, hkw, v1, v2⟩
  · unfold lBody
    refine x_seq (x_sif (x_tE (x_2 (x_2 (x_var rfl) x_c rfl rfl rfl) x_c rfl rfl rfl) rfl rfl) (br0 rfl x_snil)) (x_thenN ?_)
    refine x_sif (x_tE (x_2 (x_2 (x_var rfl) x_c rfl rfl rfl) x_c rfl rfl rfl) rfl rfl) (br0 rfl ?_)
    refine x_sif (x_tE (x_2 (x_2 (x_var rfl) x_c rfl rfl rfl) x_c rfl rfl rfl) rfl rfl) (br1 rfl ?_)
    refine x_expr (x_app (n := 1) (ws := sd.map .d) (L2 := lawL es sd) (y := .d (.tup [.str q, .str kk, .int v])) (x_var rfl) (by rw [lst_own (i := 1) (ws := sd.map .d) rfl]; rfl) (x_tup (x_cons (x_2 (x_var rfl) x_c rfl rfl rfl) (x_cons (hkk _ _ _ 5 _ rfl (x_var rfl)) (x_cons (x_call (x_cons (x_2 (x_var rfl) x_c rfl rfl rfl) (x_cons (x_var rfl) (x_cons (x_var rfl) (x_cons (x_var rfl) x_nil)))) rfl (lw _ _ _ lk0)) x_nil))) rfl (Nat.le_of_ble_eq_true rfl)) (lst_own (i := 1) rfl) (by rw [List.length_map]; show _ < 16777216; omega) ?_)
    show [obN es, Ob.lst (sd.map W.d ++ [W.d _])] = [obN es, Ob.lst ((sd ++ [_]).map W.d)]
    rw [List.map_append]
    rfl
  · rw [R_Run_is_deed_done]
    obtain ⟨rd', q1, E⟩ := rw' B rd st sd r1
    refine ⟨rd', st, q1, r2, ?_⟩
    refine x_fn (r1 := .ret (.d (.bl true)) (runL B.length es key body rd' st (sd ++ [.tup [.str q, .str kk, .int v]]))) rfl ?_ rfl
    refine x_seq (x_sif (x_tE (x_2 (x_2 (x_var rfl) x_c rfl rfl rfl) x_c rfl rfl rfl) rfl rfl) (br0 rfl x_snil)) (x_thenN ?_)
    refine x_seq (r1 := .next [some (.ref B.length), some (.d (.tup [.str sSend, .str q, ky, e])), some (.d (.str kk))] (runL B.length es key body rd' st (sd ++ [.tup [.str q, .str kk, .int v]]))) (x_sif (x_tE (x_2 (x_2 (x_var rfl) x_c rfl rfl rfl) x_c rfl rfl rfl) rfl rfl) (br1 rfl ?_)) (x_thenN ?_)
    · refine x_seq (x_asg (hkk _ _ _ 1 _ rfl (x_fld (x_var rfl) ins_run g_key)) x_gvar) (x_thenN ?_)
      refine x_expr (x_app (n := 4) (ws := sd.map .d) (L2 := runL B.length es key body rd' st sd) (y := .d (.tup [.str q, .str kk, .int v])) (x_fld (x_var rfl) ins_run g_sends) (by rw [lst_own (i := 4) (ws := sd.map .d) rfl]; rfl) (x_tup (x_cons (x_2 (x_var rfl) x_c rfl rfl rfl) (x_cons (x_var rfl) (x_cons (x_meth (x_var rfl) ins_run m_value (x_cons (x_2 (x_var rfl) x_c rfl rfl rfl) x_nil) rfl E) x_nil))) rfl (Nat.le_of_ble_eq_true rfl)) (lst_own (i := 4) rfl) (by rw [List.length_map]; show _ < 16777216; omega) ?_)
      show [Ob.ins 0 _, obN es, obB rd', obB st, Ob.lst (sd.map W.d ++ [W.d _])] = [Ob.ins 0 _, obN es, obB rd', obB st, Ob.lst ((sd ++ [_]).map W.d)]
      rw [List.map_append]
      rfl
    · refine x_seq (x_sif (x_tE (x_2 (x_2 (x_var rfl) x_c rfl rfl rfl) x_c rfl rfl rfl) rfl rfl) (br0 rfl x_snil)) (x_thenN ?_)
      exact x_ret (x_2 (x_2 (x_var rfl) x_c rfl rfl rfl) x_c rfl rfl rfl)
/-- 'if' -/
theorem if_both (hns : ns.length < 1000) {n m a b : Nat} {q : D} {xs ys : List D} (hq : Cn ns 3 q) (h1 : DeedsB ns ks xs a n m) (h2 : DeedsB ns ks ys b n m) : DeedB ns ks (.tup [.str sIfS, q, .tup xs, .tup ys]) (a + b + 1) n (m + 1) := by
  intro es key body sd he hk b1 b2 hsd l1 l2
  obtain ⟨t, lt, rt⟩ := truth_both hns hq 12 (by decide) (key := key) he b1 b2
  obtain ⟨zs, hz, ld, rd0⟩ : ∃ zs, (zs = if t = true then xs else ys) ∧ (∀ (B : Hs) (ρ : Sl) (L : Hs) (i : Nat) (f : SE), ρ[i]? = some (some (.d (.tup [.str sIfS, q, .tup xs, .tup ys]))) → ∀ L', f B ρ L = .ok (.d (.bl t)) L' → eIf (tE f) (e2 opIx (eVar i) (eC (.int 2))) (e2 opIx (eVar i) (eC (.int 3))) B ρ L = .ok (.d (.tup zs)) L') ∧ DeedsB ns ks zs (a + b) n m := by
    refine ⟨_, rfl, fun B ρ L i f h0 L' hf => ?_, ?_⟩
    · cases t with
      | true => exact x_if (x_tE hf rfl rfl) (br1 rfl (x_2 (x_var h0) x_c rfl rfl rfl))
      | false => exact x_if (x_tE hf rfl rfl) (br0 rfl (x_2 (x_var h0) x_c rfl rfl rfl))
    · have wk : ∀ {zs : List D} {u w : Nat}, u ≤ w → DeedsB ns ks zs u n m → DeedsB ns ks zs w n m := fun {zs u w} huw h es key body sd he hk b1 b2 hsd l1 l2 => by
        obtain ⟨k, es', sd', lf, r⟩ := h es key body sd he hk b1 b2 hsd (by omega) (by omega)
        have := lf.le
        have := lf.ls
        exact ⟨k, es', sd', ⟨lf.env, by omega, by omega, lf.sd⟩, r⟩
      cases t with
      | true => exact wk (by omega) h1
      | false => exact wk (by omega) h2
  obtain ⟨k, es', sd', lf, lw, rw'⟩ := rd0 es key body sd he hk b1 b2 hsd (by omega) (by omega)
  have f1 := lf.le
  have f2 := lf.ls
  refine ⟨k, es', sd', ⟨lf.env, by omega, by omega, lf.sd⟩, fun B dd => ?_, fun B rd st r1 r2 => ?_⟩
  · unfold lBody
    refine x_seq (x_sif (x_tE (x_2 (x_2 (x_var rfl) x_c rfl rfl rfl) x_c rfl rfl rfl) rfl rfl) (br0 rfl x_snil)) (x_thenN ?_)
    refine x_sif (x_tE (x_2 (x_2 (x_var rfl) x_c rfl rfl rfl) x_c rfl rfl rfl) rfl rfl) (br0 rfl ?_)
    refine x_sif (x_tE (x_2 (x_2 (x_var rfl) x_c rfl rfl rfl) x_c rfl rfl rfl) rfl rfl) (br0 rfl ?_)
    refine x_sif (x_tNot (x_tE (x_call (x_cons (ld _ _ _ 5 _ rfl _ (x_call (x_cons (x_2 (x_var rfl) x_c rfl rfl rfl) (x_cons (x_var rfl) (x_cons (x_var rfl) (x_cons (x_var rfl) x_nil)))) rfl (lt _ _ _ lk0))) (x_cons (x_var rfl) (x_cons (x_var rfl) (x_cons (x_var rfl) (x_cons (x_var rfl) x_nil))))) rfl (lw B)) rfl rfl)) ?_
    cases k with
    | true => exact br0 rfl rfl
    | false => exact br1 rfl (x_ret x_c)
  · rw [R_Run_is_deed_done]
    obtain ⟨rd1, q1, E1⟩ := rt B rd st sd r1
    obtain ⟨rd2, st2, q2, q3, E2⟩ := rw' B rd1 st q1 r2
    refine ⟨rd2, st2, q2, q3, ?_⟩
    refine x_fn (r1 := .ret (.d (.bl k)) (runL B.length es' key body rd2 st2 sd')) rfl ?_ rfl
    refine x_seq (x_sif (x_tE (x_2 (x_2 (x_var rfl) x_c rfl rfl rfl) x_c rfl rfl rfl) rfl rfl) (br0 rfl x_snil)) (x_thenN ?_)
    refine x_seq (x_sif (x_tE (x_2 (x_2 (x_var rfl) x_c rfl rfl rfl) x_c rfl rfl rfl) rfl rfl) (br0 rfl x_snil)) (x_thenN ?_)
    refine x_seq (r1 := .ret (.d (.bl k)) (runL B.length es' key body rd2 st2 sd')) (x_sif (x_tE (x_2 (x_2 (x_var rfl) x_c rfl rfl rfl) x_c rfl rfl rfl) rfl rfl) (br1 rfl (x_ret ?_))) x_thenR
    exact x_meth (x_var rfl) ins_run m_done (x_cons (ld _ _ _ 1 _ rfl _ (x_meth (x_var rfl) ins_run m_truth (x_cons (x_2 (x_var rfl) x_c rfl rfl rfl) x_nil) rfl E1)) x_nil) rfl E2
theorem lvl (hns : ns.length < 1000) (hn : ∀ s ∈ ns, WordOk s) (hks : ∀ s ∈ ks, WordOk s) (hkd : ∀ s ∈ kd, WordOk s) : ∀ (i n m c : Nat) (xs : List D), i < n → 2 * i + 2 ≤ m → DsC (Dd ns ks kd i) c xs → DeedsB ns ks xs c n m
  | 0, n, m, c, xs, h1, h2, h => by
    obtain ⟨n, rfl⟩ : ∃ k, n = k + 1 := ⟨n - 1, by omega⟩
    obtain ⟨m, rfl⟩ : ∃ k, m = k + 1 + 1 := ⟨m - 2, by omega⟩
    refine deeds_of (fun c x hx => ?_) h
    cases hx with
    | set a b => exact set_both hns hn a b
    | send a b e => exact send_both hns hn hks (hkd _ a) b e
    | fail => exact fail_both
  | i + 1, n, m, c, xs, h1, h2, h => by
    obtain ⟨n, rfl⟩ : ∃ k, n = k + 1 := ⟨n - 1, by omega⟩
    obtain ⟨m, rfl⟩ : ∃ k, m = k + 1 + 1 := ⟨m - 2, by omega⟩
    refine deeds_of (fun c x hx => ?_) h
    cases hx with
    | set a b => exact set_both hns hn a b
    | send a b e => exact send_both hns hn hks (hkd _ a) b e
    | fail => exact fail_both
    | iff a b e => exact if_both hns a (lvl hns hn hks hkd i n m _ _ (by omega) (by omega) b.toC) (lvl hns hn hks hkd i n m _ _ (by omega) (by omega) e.toC)
end
end K01
end Ev

set_option linter.all false
set_option maxRecDepth 100000
set_option maxHeartbeats 1000000
namespace Ev
namespace K01
abbrev sDone : List Nat := [100, 111, 110, 101]
abbrev sFailed : List Nat := [102, 97, 105, 108, 101, 100]
section
variable {B : Hs} {es rs : Env} {key : List Nat} {body : Int} {rd st : List (List Nat)} {sd : List D}
theorem allD_map : ∀ xs : List D, allD (xs.map .d) = some xs
  | [] => rfl
  | x :: xs => by
    show (match allD (xs.map .d) with | some ys => some (x :: ys) | none => none) = _
    rw [allD_map xs]
theorem vw_lst {L : Hs} {i : Nat} (h : L[i]? = some (.lst (sd.map .d))) : vw B L (.ref (B.length + i)) = some (.lst sd) := by
  show (match look B L (B.length + i) with | some (.frz x) => some x | some (.lst ws) => (allD ws).map .lst | some (.dct ks ws) => (allD ws).map (.dct ks) | _ => none) = _
  rw [look_own, h]
  show (allD (sd.map W.d)).map D.lst = _
  rw [allD_map]
  rfl
theorem ins0 {c : Nat} {fs : List (List Nat × W)} {R : Hs} : insAt B (.ins c fs :: R) (.ref B.length) = some (B.length, c, fs) := by
  show (match look B (.ins c fs :: R) (B.length + 0) with | some (.ins c fs) => some (B.length, c, fs) | _ => none) = _
  rw [look_own]
  rfl
theorem set0 {o o' : Ob} {R : Hs} : (o :: R).set (B.length - B.length) o' = o' :: R := by rw [Nat.sub_self]; rfl
theorem init_ok {q : List Nat} : F_Run___init__ [.ref B.length, .d (.tup (rs.map rowD)), .d (.tup [.str q, .str key, .int body])] B [.ins 0 []] = .ok (.d .non) (runL B.length (dictOf rs) key body [] [] []) := by
  unfold F_Run___init__
  refine x_fn (r1 := .next [some (.ref B.length), some (.d (.tup (rs.map rowD))), some (.d (.tup [.str q, .str key, .int body]))] (runL B.length (dictOf rs) key body [] [] [])) rfl ?_ rfl
  refine x_seq (x_sfld (x_dictN (x_var rfl) rfl (rowsD_rows rs) (dict_env rs)) (x_var rfl) ins0 (Nat.le_refl _) (Nat.le_of_ble_eq_true rfl) set0) (x_thenN ?_)
  refine x_seq (x_sfld (x_2 (x_var rfl) x_c rfl rfl rfl) (x_var rfl) ins0 (Nat.le_refl _) (Nat.le_of_ble_eq_true rfl) set0) (x_thenN ?_)
  refine x_seq (x_sfld (x_2 (x_var rfl) x_c rfl rfl rfl) (x_var rfl) ins0 (Nat.le_refl _) (Nat.le_of_ble_eq_true rfl) set0) (x_thenN ?_)
  refine x_seq (x_sfld (x_dctM x_pnil x_vnil rfl) (x_var rfl) ins0 (Nat.le_refl _) (Nat.le_of_ble_eq_true rfl) set0) (x_thenN ?_)
  refine x_seq (x_sfld (x_dctM x_pnil x_vnil rfl) (x_var rfl) ins0 (Nat.le_refl _) (Nat.le_of_ble_eq_true rfl) set0) (x_thenN ?_)
  exact x_sfld (x_lstM x_nil (by decide)) (x_var rfl) ins0 (Nat.le_refl _) (Nat.le_of_ble_eq_true rfl) set0
theorem left_ok (hl : es.length ≤ 1000) : F_Run_rows_left [.ref B.length] B (runL B.length es key body rd st sd) = .ok (.d (.tup ((rowsOf es).map rowD))) (runL B.length es key body rd st sd) := by
  unfold F_Run_rows_left
  refine x_fn (r1 := .ret (.d (.tup ((rowsOf es).map rowD))) (runL B.length es key body rd st sd)) rfl ?_ rfl
  refine x_seq (x_asg (x_fld (x_var rfl) ins_run g_val) x_gvar) (x_thenN ?_)
  exact x_ret (x_B (x_cons (rows_comp (a := 1) (b := 2) rfl (fun _ => rfl) (fun _ => rfl) (dcn_obN (look_own 1)) hl) x_nil) (x_vcons rfl x_vnil) rfl)
theorem allS_strs : ∀ rd : List (List Nat), allS (rd.map D.str) = some rd
  | [] => rfl
  | x :: rd => by
    show (match allS (rd.map D.str) with | some ss => some (x :: ss) | none => none) = _
    rw [allS_strs rd]
theorem sorted_obB : bSorted [.dct (rd.map .str) (rd.map fun _ => .bl true)] = some (.lst ((sortS rd).map .str)) := by
  show (match allS (rd.map D.str) with | some ss => some (D.lst ((sortS ss).map .str)) | none => none) = _
  rw [allS_strs]
end
section
variable {ns ks kd : List (List Nat)}
/-- a run, by both -/
theorem run_both (hns : ns.length < 1000) (hn : ∀ s ∈ ns, WordOk s) (hks : ∀ s ∈ ks, WordOk s) (hkd : ∀ s ∈ kd, WordOk s) {c : Nat} {xs : List D} (hx : Ds ns ks kd 3 c xs) (hc : c ≤ 12) {rs : Env} (hr : RowsOk rs) (hl : rs.length ≤ 700) {q key : List Nat} {body : Int} (hq : WordOk q) (hk : WordOk key) (b1 : -99 ≤ body) (b2 : body ≤ 99) :
    ∃ v : D, (∀ B L, F_run_handler [.d (.tup xs), .d (.tup (rs.map rowD)), .d (.tup [.str q, .str key, .int body])] B L = .ok (.d v) L) ∧ (∀ B L, F__law_run [.d (.tup xs), .d (.tup (rs.map rowD)), .d (.tup [.str q, .str key, .int body])] B L = .ok (.d v) L) ∧
      (v = .tup [.str sFailed] ∨ ∃ rs' sd', v = .tup [.str sDone, .tup (rs'.map rowD), .tup sd'] ∧ RowsOk rs' ∧ rs'.length ≤ rs.length + 12 ∧ SdOk sd' ∧ sd'.length ≤ 12) := by
  obtain ⟨he, hel⟩ := dict_ok hr
  obtain ⟨k, es', sd', lf, lw, rw'⟩ := lvl hns hn hks hkd 3 12 12 c xs (by decide) (by decide) hx.toC (dictOf rs) key body [] he hk b1 b2 (fun y hy => by cases hy) (by omega) (by show 0 + c ≤ 800; omega)
  have le := lf.le
  have ls := lf.ls
  rw [List.length_nil] at ls
  obtain ⟨ro, rl⟩ := lf.env.rows (by omega)
  have g := Ds_gd hn hks hkd (l := 20) (by decide) hc hx
  have gx : gd 20 20 (.tup xs) = true := gd_tup.mpr ⟨by omega, fun x hx => gd_mono (Nat.le_refl _) 13 19 x (by decide) (g.2 x hx)⟩
  have fx : fine (.tup xs) = true := gd_fine (by decide) _ _ gx
  -- the run of the program, given what traced tells
  have prog : ∀ (v : D), (∀ B L, ∃ r s, F_traced [.d (.tup xs), .d (.tup (rs.map rowD)), .d (.tup [.str q, .str key, .int body])] B L = .ok (.d (.tup [v, r, s])) L) → ∀ B L, F_run_handler [.d (.tup xs), .d (.tup (rs.map rowD)), .d (.tup [.str q, .str key, .int body])] B L = .ok (.d v) L := by
    intro v ht B L
    have hh : ∀ B L, F_need_handler [.d (.tup xs)] B L = .ok (.d .non) L := fun B L => by
      unfold F_need_handler
      exact x_pure (x_fn (r1 := .next [some (.d (.tup xs))] []) rfl (x_sif (x_tNot (x_tE (x_call (x_cons (x_var rfl) x_nil) rfl ((handler_ok _ fx _ _).trans (by rw [isH_of hn hks hkd hx hc]))) rfl rfl)) (br0 rfl x_snil)) rfl) rfl
    unfold F_run_handler
    refine x_pfn rfl fun B' => ?_
    obtain ⟨r, s, ht⟩ := ht B' []
    refine x_seq (x_expr (x_call (x_cons (x_var rfl) x_nil) rfl (hh _ _))) (x_thenN ?_)
    refine x_seq (x_sif (x_tNot (x_tE (x_call (x_cons (x_var rfl) x_nil) rfl (rows_ok hr _ _)) rfl rfl)) (br0 rfl x_snil)) (x_thenN ?_)
    refine x_seq (x_sif (x_tNot (x_tE (x_call (x_cons (x_var rfl) x_nil) rfl (message_ok hq hk b1 b2 _ _)) rfl rfl)) (br0 rfl x_snil)) (x_thenN ?_)
    exact x_ret (x_2 (x_call (x_cons (x_var rfl) (x_cons (x_var rfl) (x_cons (x_var rfl) x_nil))) rfl ht) x_c rfl rfl rfl)
  have mk : ∀ B' : Hs, eMake 0 3 F_Run___init__ (aCons (eVar 1) (aCons (eVar 2) (aNil))) B' [some (.d (.tup xs)), some (.d (.tup (rs.map rowD))), some (.d (.tup [.str q, .str key, .int body])), none, none] [] = .ok (.ref B'.length) (runL B'.length (dictOf rs) key body [] [] []) := fun B' =>
    x_make (L1 := []) (x_cons (x_var rfl) (x_cons (x_var rfl) x_nil)) rfl init_ok
  have law0 : ∀ B' : Hs, (sPar 3 4 (aCons (eDictN (eVar 1)) (aCons (eLstM (aNil)) (aNil)))) B' [some (.d (.tup xs)), some (.d (.tup (rs.map rowD))), some (.d (.tup [.str q, .str key, .int body])), none, none] [] = .next [some (.d (.tup xs)), some (.d (.tup (rs.map rowD))), some (.d (.tup [.str q, .str key, .int body])), some (.ref B'.length), some (.ref (B'.length + 1))] (lawL (dictOf rs) []) := fun B' =>
    x_par (x_cons (L1 := [obN (dictOf rs)]) (x_dictN (L1 := []) (x_var rfl) rfl (rowsD_rows rs) (dict_env rs)) (x_cons (x_lstM x_nil (by decide)) x_nil))
  have D0 : F_Run_is_done = R_Run_is_done 12 := rfl
  cases k with
  | false =>
    refine ⟨.tup [.str sFailed], prog _ fun B L => ?_, fun B L => ?_, .inl rfl⟩
    · obtain ⟨rd', st', q1, q2, E⟩ := rw' (B ++ L) [] [] .nil .nil
      refine ⟨.tup ((sortS rd').map .str), .tup [], ?_⟩
      unfold F_traced
      refine x_pure (x_fn (r1 := .ret (.d (.tup [.tup [.str sFailed], .tup ((sortS rd').map .str), .tup []])) (runL (B ++ L).length es' key body rd' st' sd')) rfl ?_ rfl) rfl
      refine x_seq (x_asg (mk _) x_gvar) (x_thenN ?_)
      refine x_seq (r1 := .ret (.d (.tup [.tup [.str sFailed], .tup ((sortS rd').map .str), .tup []])) (runL (B ++ L).length es' key body rd' st' sd')) (x_sif (x_tNot (x_tE (x_meth (x_var rfl) ins_run m_done (x_cons (x_var rfl) x_nil) rfl E) rfl rfl)) (br1 rfl (x_ret ?_))) x_thenR
      exact x_tup (x_cons (x_tup (x_cons x_c x_nil) rfl (by decide)) (x_cons (x_B (x_cons (x_B (x_cons (x_fld (x_var rfl) ins_run g_reads) x_nil) (x_vcons (vw_obB (i := 2) rfl) x_vnil) sorted_obB) x_nil) (x_vcons rfl x_vnil) rfl) (x_cons (x_tup x_nil rfl (by decide)) x_nil))) rfl (Nat.le_of_ble_eq_true rfl)
    · unfold F__law_run
      refine x_pure (x_fn (r1 := .ret (.d (.tup [.str sFailed])) (lawL es' sd')) rfl ?_ rfl) rfl
      refine x_seq (law0 _) (x_thenN (x_seq (r1 := .ret (.d (.tup [.str sFailed])) (lawL es' sd')) (x_sif (x_tNot (x_tE (x_call (x_cons (x_var rfl) (x_cons (x_var rfl) (x_cons (x_var rfl) (x_cons (x_2 (x_var rfl) x_c rfl rfl rfl) (x_cons (x_2 (x_var rfl) x_c rfl rfl rfl) x_nil))))) rfl (lw _)) rfl rfl)) (br1 rfl (x_ret (x_tup (x_cons x_c x_nil) rfl (by decide))))) x_thenR))
  | true =>
    refine ⟨.tup [.str sDone, .tup ((rowsOf es').map rowD), .tup sd'], prog _ fun B L => ?_, fun B L => ?_, .inr ⟨rowsOf es', sd', rfl, ro, by omega, lf.sd, by omega⟩⟩
    · obtain ⟨rd', st', q1, q2, E⟩ := rw' (B ++ L) [] [] .nil .nil
      refine ⟨.tup ((sortS rd').map .str), .tup ((sortS st').map .str), ?_⟩
      unfold F_traced
      refine x_pure (x_fn (r1 := .ret (.d (.tup [.tup [.str sDone, .tup ((rowsOf es').map rowD), .tup sd'], .tup ((sortS rd').map .str), .tup ((sortS st').map .str)])) (runL (B ++ L).length es' key body rd' st' sd')) rfl ?_ rfl) rfl
      refine x_seq (x_asg (mk _) x_gvar) (x_thenN ?_)
      refine x_seq (x_sif (x_tNot (x_tE (x_meth (x_var rfl) ins_run m_done (x_cons (x_var rfl) x_nil) rfl E) rfl rfl)) (br0 rfl x_snil)) (x_thenN ?_)
      refine x_seq (x_asg (w := .d (.tup [.str sDone, .tup ((rowsOf es').map rowD), .tup sd'])) (L1 := runL (B ++ L).length es' key body rd' st' sd') (x_tup (x_cons x_c (x_cons (x_meth (x_var rfl) ins_run m_left x_nil rfl (left_ok (by omega))) (x_cons (x_B (x_cons (x_fld (x_var rfl) ins_run g_sends) x_nil) (x_vcons (vw_lst (i := 4) rfl) x_vnil) rfl) x_nil))) rfl (Nat.le_of_ble_eq_true rfl)) x_gvar) (x_thenN ?_)
      exact x_ret (x_tup (x_cons (x_var rfl) (x_cons (x_B (x_cons (x_B (x_cons (x_fld (x_var rfl) ins_run g_reads) x_nil) (x_vcons (vw_obB (i := 2) rfl) x_vnil) sorted_obB) x_nil) (x_vcons rfl x_vnil) rfl) (x_cons (x_B (x_cons (x_B (x_cons (x_fld (x_var rfl) ins_run g_sets) x_nil) (x_vcons (vw_obB (i := 3) rfl) x_vnil) sorted_obB) x_nil) (x_vcons rfl x_vnil) rfl) x_nil))) rfl (Nat.le_of_ble_eq_true rfl))
    · unfold F__law_run
      refine x_pure (x_fn (r1 := .ret (.d (.tup [.str sDone, .tup ((rowsOf es').map rowD), .tup sd'])) (lawL es' sd')) rfl ?_ rfl) rfl
      refine x_seq (law0 _) (x_thenN (x_seq (x_sif (x_tNot (x_tE (x_call (x_cons (x_var rfl) (x_cons (x_var rfl) (x_cons (x_var rfl) (x_cons (x_2 (x_var rfl) x_c rfl rfl rfl) (x_cons (x_2 (x_var rfl) x_c rfl rfl rfl) x_nil))))) rfl (lw _)) rfl rfl)) (br0 rfl x_snil)) (x_thenN ?_)))
      exact x_ret (x_tup (x_cons x_c (x_cons (x_call (x_cons (x_var rfl) x_nil) rfl (row_tuple_ok lk0 (by omega))) (x_cons (x_B (x_cons (x_var rfl) x_nil) (x_vcons (vw_lst (i := 1) rfl) x_vnil) rfl) x_nil))) rfl (Nat.le_of_ble_eq_true rfl))
end
end K01
end Ev

set_option linter.all false
set_option maxRecDepth 100000
set_option maxHeartbeats 1000000
namespace Ev
namespace K01
def rowI : SS := (sIf (tE (e2 opGt (eCall 2 F__law_draw (aCons (eVar 0) (aCons (eC (.int 3)) (aNil)))) (eC (.int 0)))) (sAsg (eCall 1 F__law_number (aCons (eVar 0) (aNil))) (gItem (eVar 3) (eTup (aCons (eVar 4) (aCons (eVar 5) (aNil)))))) (sNil))
def rowO : SS := (sFor (iE (eVar 2)) (gVar 5) rowI)
def lawI : SS := (sSeq (sAsg (eTup (aCons (eCall 2 F__law_pick (aCons (eVar 1) (aCons (eVar 8) (aNil)))) (aCons (eCall 2 F__law_pick (aCons (eVar 1) (aCons (eVar 7) (aNil)))) (aCons (eCall 1 F__law_number (aCons (eVar 1) (aNil))) (aNil))))) (gVar 9))
  (sSeq (sAsg (eB bRepr (aCons (eLst (aCons (eVar 3) (aCons (eVar 4) (aCons (eVar 9) (aNil))))) (aNil))) (gVar 10))
  (sSeq (sPar 11 12 (aCons (eCall 3 F_run_handler (aCons (eVar 3) (aCons (eVar 4) (aCons (eVar 9) (aNil))))) (aCons (eCall 3 F__law_run (aCons (eVar 3) (aCons (eVar 4) (aCons (eVar 9) (aNil))))) (aNil))))
  (sSeq (sIf (tOr (tE (e2 opNe (eB bRepr (aCons (eVar 11) (aNil))) (eB bRepr (aCons (eVar 12) (aNil))))) (tE (e2 opNe (eB bRepr (aCons (eLst (aCons (eVar 3) (aCons (eVar 4) (aCons (eVar 9) (aNil))))) (aNil))) (eVar 10)))) (sRet (eC (.bl false))) (sNil))
  (sAsg (eIf (tE (e2 opEq (e2 opIx (eVar 12) (eC (.int 0))) (eC (.str [100, 111, 110, 101])))) (e2 opIx (eVar 12) (eC (.int 1))) (eVar 4)) (gVar 4))))))
def lawT : SS := (sSeq (sPar3 6 7 8 (aCons (eCall 2 F__law_words (aCons (eVar 1) (aCons (eC (.int 2)) (aNil)))) (aCons (eCall 2 F__law_words (aCons (eVar 1) (aCons (eC (.int 2)) (aNil)))) (aCons (eCall 2 F__law_words (aCons (eVar 1) (aCons (eC (.int 3)) (aNil)))) (aNil)))))
  (sSeq (sAsg (eCall 5 F__law_handler (aCons (eVar 1) (aCons (eVar 6) (aCons (eVar 7) (aCons (eVar 8) (aCons (eC (.int 3)) (aNil))))))) (gVar 3))
  (sSeq (sAsg (eCall 3 F__law_rows (aCons (eVar 1) (aCons (eVar 6) (aCons (eVar 7) (aNil))))) (gVar 4))
  (sFor (iRange (eC (.int 4))) (gVar 5) lawI))))

/-! rows as they are drawn -/
section
variable {ns ks : List (List Nat)}
theorem rows_in {f : Nat} {s : List Nat} {a b : Option W} (hf : 0 < f) (hs : WordOk s) : ∀ (ts : List (List Nat)) (es : Env) (N : Int) (L : Hs) (o : Option W), (∀ t ∈ ts, WordOk t) → Pn N L → L[f]? = some (obN es) → EnvOk es → es.length + ts.length ≤ 900 → N + 10 * ts.length ≤ 1099511626000 →
    ∃ (es' : Env) (L' : Hs) (o' : Option W), forGo (gVar 5) rowI [] (ts.map .str) [some (.ref 0), a, b, some (.ref (0 + f)), some (.d (.str s)), o] L = .next [some (.ref 0), a, b, some (.ref (0 + f)), some (.d (.str s)), o'] L' ∧ Pn (N + 10 * ts.length) L' ∧ L'[f]? = some (obN es') ∧ EnvOk es' ∧ es'.length ≤ es.length + ts.length
  | [], es, N, L, o, _, hp, hL, he, _, _ => ⟨es, L, o, rfl, hp.mono (by show N ≤ N + 10 * ((0 : Nat) : Int); omega), hL, he, Nat.le_refl _⟩
  | t :: ts, es, N, L, o, ht, hp, hL, he, hl, hN => by
    rw [List.length_cons] at hl hN ⊢
    obtain ⟨q, L1, E1, t1, f1, a1, b1⟩ := draw_ok hp (by omega) (m := 3) (by decide) (by decide +kernel)
    have T : (tE (e2 opGt (eCall 2 F__law_draw (aCons (eVar 0) (aCons (eC (.int 3)) (aNil)))) (eC (.int 0)))) [] [some (.ref 0), a, b, some (.ref (0 + f)), some (.d (.str s)), some (.d (.str t))] L = .ok (decide (0 < q)) L1 :=
      x_tE (x_2 (x_call (x_cons (x_var rfl) (x_cons x_c x_nil)) rfl E1) x_c rfl rfl rfl) rfl rfl
    have hL1 := f1.at hf hL
    by_cases h0 : 0 < q
    · obtain ⟨v, L2, E2, t2, f2, v1, v2⟩ := number_ok t1 (by omega)
      have hL2 := f2.at hf hL1
      have wt := ht t List.mem_cons_self
      have pl := put_len (s, t) v es
      obtain ⟨es', L', o', E, tt, hLL, hee, hll⟩ := rows_in (a := a) (b := b) hf hs ts (putE (s, t) v es) (N + 10) (L2.set f (obN (putE (s, t) v es))) (some (.d (.str t))) (fun u hu => ht u (List.mem_cons_of_mem _ hu)) ((t2.set hf).mono (by omega)) (at_set hL2) (he.put hs wt v1 v2) (by omega) (by omega)
      refine ⟨es', L', o', x_forcons x_gvar (sr1 := .next [some (.ref 0), a, b, some (.ref (0 + f)), some (.d (.str s)), some (.d (.str t))] (L2.set f (obN (putE (s, t) v es)))) ?_ (x_turnN E), tt.mono (by omega), hLL, hee, by omega⟩
      unfold rowI
      exact x_sif T (br1 (decide_eq_true h0) (x_asg (x_call (x_cons (x_var rfl) x_nil) rfl E2) (x_gitem (x_var rfl) (x_tup (x_cons (x_var rfl) (x_cons (x_var rfl) x_nil)) rfl (Nat.le_of_ble_eq_true rfl)) rfl (put_obN (B := []) (i := f) (s, t) v hL2 (by omega)))))
    · obtain ⟨es', L', o', E, tt, hLL, hee, hll⟩ := rows_in (a := a) (b := b) hf hs ts es (N + 10) L1 (some (.d (.str t))) (fun u hu => ht u (List.mem_cons_of_mem _ hu)) (t1.mono (by omega)) hL1 he (by omega) (by omega)
      refine ⟨es', L', o', x_forcons x_gvar (sr1 := .next [some (.ref 0), a, b, some (.ref (0 + f)), some (.d (.str s)), some (.d (.str t))] L1) ?_ (x_turnN E), tt.mono (by omega), hLL, hee, by omega⟩
      unfold rowI
      exact x_sif T (br0 (decide_eq_false h0) x_snil)
theorem rows_out {f : Nat} {a : Option W} (hf : 0 < f) (hk : ∀ t ∈ ks, WordOk t) (hkl : ks.length ≤ 9) : ∀ (ss : List (List Nat)) (es : Env) (N : Int) (L : Hs) (o4 o5 : Option W), (∀ t ∈ ss, WordOk t) → Pn N L → L[f]? = some (obN es) → EnvOk es → es.length + 9 * ss.length ≤ 900 → N + 90 * ss.length ≤ 1099511626000 →
    ∃ (es' : Env) (L' : Hs) (o4' o5' : Option W), forGo (gVar 4) rowO [] (ss.map .str) [some (.ref 0), a, some (.d (.lst (ks.map .str))), some (.ref (0 + f)), o4, o5] L = .next [some (.ref 0), a, some (.d (.lst (ks.map .str))), some (.ref (0 + f)), o4', o5'] L' ∧ Pn (N + 90 * ss.length) L' ∧ L'[f]? = some (obN es') ∧ EnvOk es' ∧ es'.length ≤ es.length + 9 * ss.length
  | [], es, N, L, o4, o5, _, hp, hL, he, _, _ => ⟨es, L, o4, o5, rfl, hp.mono (by show N ≤ N + 90 * ((0 : Nat) : Int); omega), hL, he, Nat.le_refl _⟩
  | s :: ss, es, N, L, o4, o5, ht, hp, hL, he, hl, hN => by
    rw [List.length_cons] at hl hN ⊢
    obtain ⟨es1, L1, o', E1, t1, h1, e1, l1⟩ := rows_in (a := a) (b := some (.d (.lst (ks.map .str)))) hf (ht s List.mem_cons_self) ks es N L o5 hk hp hL he (by omega) (by omega)
    obtain ⟨es2, L2, o4', o5', E2, t2, h2, e2, l2⟩ := rows_out (a := a) hf hk hkl ss es1 (N + 90) L1 (some (.d (.str s))) o' (fun u hu => ht u (List.mem_cons_of_mem _ hu)) (t1.mono (by omega)) h1 e1 (by omega) (by omega)
    refine ⟨es2, L2, o4', o5', x_forcons x_gvar (sr1 := .next [some (.ref 0), a, some (.d (.lst (ks.map .str))), some (.ref (0 + f)), some (.d (.str s)), o'] L1) ?_ (x_turnN E2), t2.mono (by omega), h2, e2, by omega⟩
    unfold rowO
    exact x_for (x_iE (x_var rfl) rfl rfl) E1
theorem rows_draw (hn : ∀ t ∈ ns, WordOk t) (hk : ∀ t ∈ ks, WordOk t) (hnl : ns.length ≤ 9) (hkl : ks.length ≤ 9) {N : Int} {L : Hs} (hp : Pn N L) (hN : N ≤ 1099511620000) :
    ∃ (rs : Env) (L' : Hs), F__law_rows [.ref 0, .d (.lst (ns.map .str)), .d (.lst (ks.map .str))] [] L = .ok (.d (.tup (rs.map rowD))) L' ∧ Pn (N + 900) L' ∧ RowsOk rs ∧ rs.length ≤ 81 := by
  obtain ⟨es, L', o4, o5, E, t, h, e, l⟩ := rows_out (a := some (.d (.lst (ns.map .str)))) (f := L.length) hp.len hk hkl ns [] N (L ++ [obN []]) none none hn (hp.add _) List.getElem?_concat_length .nil (by show 0 + _ ≤ _; omega) (by omega)
  rw [List.length_nil] at l
  obtain ⟨r1, r2⟩ := e.rows (by omega)
  refine ⟨rowsOf es, L', ?_, t.mono (by omega), r1, by omega⟩
  unfold F__law_rows
  refine x_fn (r1 := .ret (.d (.tup ((rowsOf es).map rowD))) L') rfl ?_ rfl
  refine x_seq (x_asg (w := .ref (0 + L.length)) (L1 := L ++ [obN []]) rfl x_gvar) (x_thenN ?_)
  refine x_seq (x_for (x_iE (x_var rfl) rfl rfl) E) (x_thenN ?_)
  refine x_ret (x_call (x_cons (x_var rfl) x_nil) rfl (row_tuple_ok (es := es) ?_ (by omega)))
  show ([] ++ L')[0 + L.length]? = _
  rw [Nat.zero_add]
  exact h
end
/-! repr -/
structure RP (n d : Nat) (v : D) : Prop where
  ok : dOk v = true
  sh : shOk v = true
  dp : dep v ≤ d
  es : est v ≤ n
structure RPs (n d : Nat) (xs : List D) : Prop where
  ok : dOks xs = true
  sh : shOks xs = true
  dp : deps xs ≤ d
  es : ests xs ≤ n
theorem RPs.nil {d : Nat} : RPs 0 d [] := ⟨rfl, rfl, Nat.zero_le _, Nat.le_refl _⟩
theorem RPs.cons {n m d : Nat} {x : D} {xs : List D} (h : RP n d x) (t : RPs m d xs) : RPs (n + 2 + m) d (x :: xs) := by
  refine ⟨?_, ?_, ?_, ?_⟩
  · show (dOk x && dOks xs) = true; rw [h.ok, t.ok]; rfl
  · show (shOk x && shOks xs) = true; rw [h.sh, t.sh]; rfl
  · show max (dep x) (deps xs) ≤ d; exact Nat.max_le.mpr ⟨h.dp, t.dp⟩
  · show est x + 2 + ests xs ≤ n + 2 + m; have := h.es; have := t.es; omega
theorem RP.mono {n n' d d' : Nat} {v : D} (h : RP n d v) (h1 : n ≤ n') (h2 : d ≤ d') : RP n' d' v := ⟨h.ok, h.sh, Nat.le_trans h.dp h2, Nat.le_trans h.es h1⟩
theorem RPs.mono {n n' d d' : Nat} {v : List D} (h : RPs n d v) (h1 : n ≤ n') (h2 : d ≤ d') : RPs n' d' v := ⟨h.ok, h.sh, Nat.le_trans h.dp h2, Nat.le_trans h.es h1⟩
theorem RP.tup {n d : Nat} {xs : List D} (h : RPs n d xs) : RP (3 + n) (d + 1) (.tup xs) := ⟨h.ok, h.sh, Nat.succ_le_succ h.dp, by show 3 + ests xs ≤ 3 + n; have := h.es; omega⟩
theorem RPs.all {n d : Nat} {xs : List D} (h : ∀ x ∈ xs, RP n d x) : RPs (xs.length * (n + 2)) d xs := by
  induction xs with
  | nil => exact RPs.nil.mono (Nat.zero_le _) (Nat.le_refl _)
  | cons x xs ih =>
    refine (RPs.cons (h x List.mem_cons_self) (ih fun y hy => h y (List.mem_cons_of_mem _ hy))).mono ?_ (Nat.le_refl _)
    rw [List.length_cons, Nat.succ_mul]
    omega
theorem rp_str {s : List Nat} {d : Nat} (h : s.all (· < 0x110000) = true) (hl : s.length ≤ 6) : RP 62 d (.str s) := ⟨h, rfl, Nat.zero_le _, by show 10 * s.length + 2 ≤ 62; omega⟩
theorem rp_word {s : List Nat} {d : Nat} (h : WordOk s) : RP 62 d (.str s) := by
  have := okS_word h
  unfold okS at this
  rw [Bool.and_eq_true] at this
  exact rp_str this.1 h.2.1
theorem rp_int {v : Int} {d : Nat} (h1 : -99 ≤ v) (h2 : v ≤ 99) : RP 62 d (.int v) := by
  have hb : v.natAbs < 2 ^ 7 := by omega
  have hl : v.natAbs.log2 < 7 := by
    by_cases h0 : v.natAbs = 0
    · rw [h0]; decide +kernel
    · exact (Nat.log2_lt h0).mpr hb
  exact ⟨rfl, decide_eq_true (by omega), Nat.zero_le _, by show v.natAbs.log2 + 2 ≤ 62; omega⟩
theorem rp_non {d : Nat} : RP 62 d .non := ⟨rfl, rfl, Nat.zero_le _, by show 5 ≤ 62; omega⟩
def eE : Nat → Nat
  | 0 => 62
  | d + 1 => 3 + 3 * (eE d + 2)
theorem eE_pos : ∀ d, 62 ≤ eE d
  | 0 => Nat.le_refl _
  | d + 1 => by have := eE_pos d; show 62 ≤ 3 + 3 * (eE d + 2); omega
section
variable {ns ks kd : List (List Nat)}
theorem Ex_rp (hn : ∀ s ∈ ns, WordOk s) {d : Nat} {v : D} (h : Ex ns d v) : RP (eE d) d v := by
  induction h with
  | @val d k a b => exact (RP.tup (RPs.cons (rp_str rfl (by decide)) (RPs.cons (rp_int a b) RPs.nil))).mono (by have := eE_pos d; show _ ≤ 3 + 3 * (eE d + 2); omega) (Nat.succ_le_succ (Nat.le_refl d))
  | @body d => exact (RP.tup (RPs.cons (rp_str rfl (by decide)) RPs.nil)).mono (by have := eE_pos d; show _ ≤ 3 + 3 * (eE d + 2); omega) (Nat.succ_le_succ (Nat.le_refl d))
  | @row d s a => exact (RP.tup (RPs.cons (rp_str rfl (by decide)) (RPs.cons (rp_word (hn _ a)) RPs.nil))).mono (by have := eE_pos d; show _ ≤ 3 + 3 * (eE d + 2); omega) (Nat.succ_le_succ (Nat.le_refl d))
  | @op d o a b ho _ _ ih1 ih2 =>
    have hs : RP 62 d (.str o) := by
      simp only [List.mem_cons, List.not_mem_nil, or_false] at ho
      rcases ho with rfl | rfl | rfl <;> exact rp_str rfl (by decide)
    exact (RP.tup (RPs.cons hs (RPs.cons ih1 (RPs.cons ih2 RPs.nil)))).mono (by have := eE_pos d; show _ ≤ 3 + 3 * (eE d + 2); omega) (Nat.le_refl _)
theorem Cn_rp (hn : ∀ s ∈ ns, WordOk s) {d : Nat} {v : D} (h : Cn ns d v) : RP (eE (d + 3)) (d + 3) v := by
  induction h with
  | @cmp d o a b ho h1 h2 =>
    have hs : RP 62 3 (.str o) := by
      simp only [List.mem_cons, List.not_mem_nil, or_false] at ho
      rcases ho with rfl | rfl <;> exact rp_str rfl (by decide)
    have m : ∀ d, eE 3 ≤ eE (d + 3) := fun d => by
      induction d with
      | zero => exact Nat.le_refl _
      | succ d ih => show eE 3 ≤ 3 + 3 * (eE (d + 3) + 2); omega
    refine (RP.tup (RPs.cons hs (RPs.cons (Ex_rp hn h1) (RPs.cons ((Ex_rp hn h2).mono (n' := eE 3) (by decide) (by decide)) RPs.nil)))).mono (n' := eE (d + 1 + 3)) ?_ (by omega)
    have := m d
    show 3 + (62 + 2 + (eE 3 + 2 + (eE 3 + 2 + 0))) ≤ 3 + 3 * (eE (d + 3) + 2)
    have := eE_pos 3
    omega
  | @no d a _ ih => exact (RP.tup (RPs.cons (rp_str rfl (by decide)) (RPs.cons ih RPs.nil))).mono (n' := eE (d + 1 + 3)) (by have := eE_pos (d + 3); show _ ≤ 3 + 3 * (eE (d + 3) + 2); omega) (by omega)
  | @jn d o a b ho _ _ ih1 ih2 =>
    have hs : RP 62 (d + 3) (.str o) := by
      simp only [List.mem_cons, List.not_mem_nil, or_false] at ho
      rcases ho with rfl | rfl <;> exact rp_str rfl (by decide)
    exact (RP.tup (RPs.cons hs (RPs.cons ih1 (RPs.cons ih2 RPs.nil)))).mono (n' := eE (d + 1 + 3)) (by have := eE_pos (d + 3); show _ ≤ 3 + 3 * (eE (d + 3) + 2); omega) (by omega)
theorem DsC_rp {i : Nat} {P : Nat → D → Prop} (hP : ∀ c x, P c x → ∃ n, n + 2 ≤ c * 100000 ∧ RP n (7 + 2 * i) x) {c : Nat} {xs : List D} (h : DsC P c xs) : RPs (c * 100000) (7 + 2 * i) xs := by
  induction h with
  | nil => exact RPs.nil
  | @cons a b x xs hx _ ih =>
    obtain ⟨n, h1, h2⟩ := hP b x hx
    exact (RPs.cons h2 ih).mono (by rw [Nat.add_mul]; omega) (Nat.le_refl _)
theorem Dd_rp (hn : ∀ s ∈ ns, WordOk s) (hk : ∀ s ∈ ks, WordOk s) (hd : ∀ s ∈ kd, WordOk s) : ∀ (i c : Nat) (x : D), Dd ns ks kd i c x → ∃ n, n + 2 ≤ c * 100000 ∧ RP n (7 + 2 * i) x := by
  have hset : ∀ {i : Nat} {s : List Nat} {e : D}, s ∈ ns → Ex ns 4 e → ∃ n, n + 2 ≤ 1 * 100000 ∧ RP n (7 + 2 * i) (.tup [.str sSet, .str s, e]) := fun {i s e} h1 h2 =>
    ⟨_, by decide, (RP.tup (RPs.cons (rp_str rfl (by decide)) (RPs.cons (rp_word (hn _ h1)) (RPs.cons (Ex_rp hn h2) RPs.nil)))).mono (Nat.le_refl _) (by omega)⟩
  have hsend : ∀ {i : Nat} {k : List Nat} {key e : D}, k ∈ kd → (key = .non ∨ ∃ t ∈ ks, key = .str t) → Ex ns 3 e → ∃ n, n + 2 ≤ 1 * 100000 ∧ RP n (7 + 2 * i) (.tup [.str sSend, .str k, key, e]) := fun {i k key e} h1 h2 h3 => by
    have hk' : RP 62 3 key := by
      rcases h2 with rfl | ⟨t, ht, rfl⟩
      · exact rp_non
      · exact rp_word (hk _ ht)
    exact ⟨_, by decide, (RP.tup (RPs.cons (rp_str rfl (by decide)) (RPs.cons (rp_word (hd _ h1)) (RPs.cons hk' (RPs.cons (Ex_rp hn h3) RPs.nil))))).mono (Nat.le_refl _) (by omega)⟩
  have hfail : ∀ {i : Nat}, ∃ n, n + 2 ≤ 1 * 100000 ∧ RP n (7 + 2 * i) (.tup [.str sFail]) := fun {i} => ⟨_, by decide, (RP.tup (d := 0) (RPs.cons (rp_str rfl (by decide)) RPs.nil)).mono (Nat.le_refl _) (by omega)⟩
  intro i
  induction i with
  | zero =>
    intro c x h
    cases h with
    | set h1 h2 => exact hset h1 h2
    | send h1 h2 h3 => exact hsend h1 h2 h3
    | fail => exact hfail
  | succ i ih =>
    intro c x h
    cases h with
    | set h1 h2 => exact hset h1 h2
    | send h1 h2 h3 => exact hsend h1 h2 h3
    | fail => exact hfail
    | @iff _ a b q xs ys h1 h2 h3 =>
      have p1 := RP.tup (DsC_rp ih h2.toC)
      have p2 := RP.tup (DsC_rp ih h3.toC)
      refine ⟨_, ?_, RP.tup (d := 7 + 2 * i + 1) (RPs.cons (rp_str rfl (by decide)) (RPs.cons ((Cn_rp hn h1).mono (Nat.le_refl _) (by omega)) (RPs.cons p1 (RPs.cons p2 RPs.nil))))⟩
      have e6 : eE (3 + 3) = 48474 := by decide
      rw [e6, Nat.add_mul, Nat.add_mul]
      omega
theorem handler_rp (hn : ∀ s ∈ ns, WordOk s) (hk : ∀ s ∈ ks, WordOk s) (hd : ∀ s ∈ kd, WordOk s) {c : Nat} {xs : List D} (h : Ds ns ks kd 3 c xs) (hc : c ≤ 12) : RP 1300000 14 (.tup xs) :=
  (RP.tup (DsC_rp (Dd_rp hn hk hd 3) h.toC)).mono (by have := Nat.mul_le_mul_right 100000 hc; omega) (Nat.le_refl _)
end
theorem row_rp {p : SS2 × Int} (h : RowOk p) : RP 300 2 (rowD p) :=
  (RP.tup (RPs.cons (RP.tup (RPs.cons (rp_word h.1) (RPs.cons (rp_word h.2.1) RPs.nil))) (RPs.cons (rp_int h.2.2.1 h.2.2.2.1) RPs.nil))).mono (by decide) (Nat.le_refl _)
theorem rows_rp {rs : Env} (h : RowsOk rs) : RP 300000 3 (.tup (rs.map rowD)) := by
  refine (RP.tup (RPs.all (n := 300) fun x hx => ?_)).mono ?_ (Nat.le_refl _)
  · obtain ⟨p, hp, rfl⟩ := List.mem_map.mp hx
    exact row_rp (h.row p hp)
  · rw [List.length_map]
    have := Nat.mul_le_mul_right 302 h.len
    omega
theorem msg_rp {a b : List Nat} {v : Int} (h1 : WordOk a) (h2 : WordOk b) (h3 : -99 ≤ v) (h4 : v ≤ 99) : RP 300 1 (.tup [.str a, .str b, .int v]) :=
  (RP.tup (d := 0) (RPs.cons (rp_word h1) (RPs.cons (rp_word h2) (RPs.cons (rp_int h3 h4) RPs.nil)))).mono (by decide) (Nat.le_refl _)
theorem sends_rp {sd : List D} (h : SdOk sd) (hl : sd.length ≤ 12) : RP 300000 3 (.tup sd) := by
  refine (RP.tup (d := 1) (RPs.all (n := 300) fun x hx => ?_)).mono ?_ (by decide)
  · obtain ⟨a, b, v, rfl, h1, h2, h3, h4⟩ := h x hx
    exact msg_rp h1 h2 h3 h4
  · have := Nat.mul_le_mul_right 302 hl
    omega
theorem rp_repr_t {n : Nat} {xs : List D} (h : RP n 60 (.tup xs)) (hn : n ≤ 16000000) : ∃ s, bRepr [.tup xs] = some (.str s) := by
  refine repr_tup ?_ h.sh (by have := h.es; show est (.tup xs) ≤ 16777216; omega)
  unfold okD
  rw [h.ok, decide_eq_true (Nat.le_trans h.dp (by decide))]
  rfl
theorem rp_repr_l {n : Nat} {xs : List D} (h : RPs n 60 xs) (hn : n ≤ 16000000) : ∃ s, bRepr [.lst xs] = some (.str s) := by
  refine repr_lst ?_ h.sh (by have := h.es; show 3 + ests xs ≤ 16777216; omega)
  unfold okD
  rw [show dOk (.lst xs) = true from h.ok, decide_eq_true (show dep (.lst xs) ≤ 64 from Nat.succ_le_succ (Nat.le_trans h.dp (by decide)))]
  rfl
end K01
end Ev

set_option linter.all false
set_option maxRecDepth 100000
set_option maxHeartbeats 1000000
namespace Ev
namespace K01
theorem ne_s {s : List Nat} : opNe (.str s) (.str s) = some (.bl false) := by
  show some (D.bl (!decide (s = s))) = _
  rw [decide_eq_true rfl]
  rfl
section
variable {ns ks kd : List (List Nat)}
def sl (sc o2 : Option W) (xs : List D) (rs : Env) (o5 o9 o10 o11 o12 : Option W) (ns ks kd : List (List Nat)) : Sl := [sc, some (.ref 0), o2, some (.d (.tup xs)), some (.d (.tup (rs.map rowD))), o5, some (.d (.lst (ns.map .str))), some (.d (.lst (ks.map .str))), some (.d (.lst (kd.map .str))), o9, o10, o11, o12]
theorem inner_ok (h1 : 0 < ns.length) (h2 : ns.length < 1000) (h3 : 0 < ks.length) (h4 : ks.length < 900) (h5 : 0 < kd.length) (h6 : kd.length < 1000) (hn : ∀ s ∈ ns, WordOk s) (hks : ∀ s ∈ ks, WordOk s) (hkd : ∀ s ∈ kd, WordOk s) {c : Nat} {xs : List D} (hx : Ds ns ks kd 3 c xs) (hc : c ≤ 12) {sc o2 : Option W} :
    ∀ (ts : List D) (rs : Env) (N : Int) (L : Hs) (o5 o9 o10 o11 o12 : Option W), RowsOk rs → rs.length + 12 * ts.length ≤ 700 → Pn N L → N + 10 * ts.length ≤ 1099511620000 →
      ∃ (rs' : Env) (L' : Hs) (o5' o9' o10' o11' o12' : Option W), forGo (gVar 5) lawI [] ts (sl sc o2 xs rs o5 o9 o10 o11 o12 ns ks kd) L = .next (sl sc o2 xs rs' o5' o9' o10' o11' o12' ns ks kd) L' ∧ Pn (N + 10 * ts.length) L'
  | [], rs, N, L, o5, o9, o10, o11, o12, _, _, hp, _ => ⟨rs, L, o5, o9, o10, o11, o12, rfl, hp.mono (by show N ≤ N + 10 * ((0 : Nat) : Int); omega)⟩
  | t :: ts, rs, N, L, o5, o9, o10, o11, o12, hr, hl, hp, hN => by
    rw [List.length_cons] at hl hN ⊢
    obtain ⟨y, L1, E1, t1, f1, m1⟩ := pick_ok hp (by omega) (xs := kd.map .str) (by rw [List.length_map]; exact h5) (by rw [List.length_map]; omega)
    obtain ⟨q, hq, rfl⟩ := mem_strs m1
    obtain ⟨y, L2, E2, t2, f2, m2⟩ := pick_ok t1 (by omega) (xs := ks.map .str) (by rw [List.length_map]; exact h3) (by rw [List.length_map]; omega)
    obtain ⟨key, hk, rfl⟩ := mem_strs m2
    obtain ⟨body, L3, E3, t3, f3, b1, b2⟩ := number_ok t2 (by omega)
    obtain ⟨v, P1, P2, hv⟩ := run_both h2 hn hks hkd hx hc hr (by omega) (hkd q hq) (hks key hk) b1 b2
    obtain ⟨s1, R1⟩ := rp_repr_l (xs := [.tup xs, .tup (rs.map rowD), .tup [.str q, .str key, .int body]]) (n := 1700000) ((RPs.cons ((handler_rp hn hks hkd hx hc).mono (Nat.le_refl _) (by decide)) (RPs.cons ((rows_rp hr).mono (Nat.le_refl _) (by decide)) (RPs.cons ((msg_rp (hkd q hq) (hks key hk) b1 b2).mono (Nat.le_refl _) (by decide)) RPs.nil))).mono (by decide) (Nat.le_refl _)) (by decide)
    obtain ⟨s2, R2⟩ : ∃ s, bRepr [v] = some (.str s) := by
      rcases hv with rfl | ⟨rs', sd', rfl, g1, g2, g3, g4⟩
      · exact rp_repr_t (n := 700000) ((RP.tup (d := 0) (RPs.cons (rp_str rfl (by decide)) RPs.nil)).mono (by decide) (by decide)) (by decide)
      · exact rp_repr_t (n := 700000) ((RP.tup (RPs.cons (rp_str rfl (by decide)) (RPs.cons ((rows_rp g1).mono (Nat.le_refl _) (Nat.le_refl _)) (RPs.cons (sends_rp g3 g4) RPs.nil)))).mono (by decide) (by decide)) (by decide)
    obtain ⟨rs', hr', hl', hif⟩ : ∃ rs' : Env, RowsOk rs' ∧ rs'.length ≤ rs.length + 12 ∧ ∀ (B : Hs) (ρ : Sl) (L : Hs), ρ[12]? = some (some (.d v)) → ρ[4]? = some (some (.d (.tup (rs.map rowD)))) → eIf (tE (e2 opEq (e2 opIx (eVar 12) (eC (.int 0))) (eC (.str [100, 111, 110, 101])))) (e2 opIx (eVar 12) (eC (.int 1))) (eVar 4) B ρ L = .ok (.d (.tup (rs'.map rowD))) L := by
      rcases hv with rfl | ⟨rs', sd', rfl, g1, g2, g3, g4⟩
      · exact ⟨rs, hr, by omega, fun B ρ L e1 e2 => x_if (x_tE (x_2 (x_2 (x_var e1) x_c rfl rfl rfl) x_c rfl rfl rfl) rfl rfl) (br0 rfl (x_var e2))⟩
      · exact ⟨rs', g1, g2, fun B ρ L e1 e2 => x_if (x_tE (x_2 (x_2 (x_var e1) x_c rfl rfl rfl) x_c rfl rfl rfl) rfl rfl) (br1 rfl (x_2 (x_var e1) x_c rfl rfl rfl))⟩
    obtain ⟨rs2, L4, p5, p9, p10, p11, p12, E4, t4⟩ := inner_ok h1 h2 h3 h4 h5 h6 hn hks hkd hx hc (sc := sc) (o2 := o2) ts rs' (N + 10) L3 (some (.d t)) (some (.d (.tup [.str q, .str key, .int body]))) (some (.d (.str s1))) (some (.d v)) (some (.d v)) hr' (by omega) (t3.mono (by omega)) (by omega)
    refine ⟨rs2, L4, p5, p9, p10, p11, p12, x_forcons (sr1 := .next (sl sc o2 xs rs' (some (.d t)) (some (.d (.tup [.str q, .str key, .int body]))) (some (.d (.str s1))) (some (.d v)) (some (.d v)) ns ks kd) L3) x_gvar ?_ (x_turnN E4), t4.mono (by omega)⟩
    unfold lawI
    refine x_seq (x_asg (x_tup (xs := [.str q, .str key, .int body]) (x_cons (x_call (x_cons (x_var rfl) (x_cons (x_var rfl) x_nil)) rfl E1) (x_cons (x_call (x_cons (x_var rfl) (x_cons (x_var rfl) x_nil)) rfl E2) (x_cons (x_call (x_cons (x_var rfl) x_nil) rfl E3) x_nil))) rfl (Nat.le_of_ble_eq_true rfl)) x_gvar) (x_thenN ?_)
    have RR : ∀ (ρ : Sl) (L : Hs), ρ[3]? = some (some (.d (.tup xs))) → ρ[4]? = some (some (.d (.tup (rs.map rowD)))) → ρ[9]? = some (some (.d (.tup [.str q, .str key, .int body]))) → eB bRepr (aCons (eLst (aCons (eVar 3) (aCons (eVar 4) (aCons (eVar 9) (aNil))))) (aNil)) [] ρ L = .ok (.d (.str s1)) L := fun ρ L e1 e2 e3 =>
      x_B (x_cons (x_lst (xs := [.tup xs, .tup (rs.map rowD), .tup [.str q, .str key, .int body]]) (x_cons (x_var e1) (x_cons (x_var e2) (x_cons (x_var e3) x_nil))) rfl (Nat.le_of_ble_eq_true rfl)) x_nil) (x_vcons rfl x_vnil) R1
    refine x_seq (x_asg (RR _ _ rfl rfl rfl) x_gvar) (x_thenN ?_)
    refine x_seq (x_par (x_cons (x_call (x_cons (x_var rfl) (x_cons (x_var rfl) (x_cons (x_var rfl) x_nil))) rfl (P1 _ _)) (x_cons (x_call (x_cons (x_var rfl) (x_cons (x_var rfl) (x_cons (x_var rfl) x_nil))) rfl (P2 _ _)) x_nil))) (x_thenN ?_)
    refine x_seq (x_sif (k := false) (x_tOr (x_tE (x_2 (x_B (x_cons (x_var rfl) x_nil) (x_vcons rfl x_vnil) R2) (x_B (x_cons (x_var rfl) x_nil) (x_vcons rfl x_vnil) R2) rfl rfl ne_s) rfl rfl) (br0 rfl (x_tE (x_2 (RR _ _ rfl rfl rfl) (x_var rfl) rfl rfl ne_s) rfl rfl))) (br0 rfl x_snil)) (x_thenN ?_)
    exact x_asg (hif _ _ _ rfl rfl) x_gvar
end
def Sh (sc : Option W) (ρ : Sl) : Prop := ∃ o2 o3 o4 o5 o6 o7 o8 o9 o10 o11 o12 : Option W, ρ = [sc, some (.ref 0), o2, o3, o4, o5, o6, o7, o8, o9, o10, o11, o12]
theorem turn_ok {N : Int} {L : Hs} (h : Pn N L) (hN : N ≤ 1099500000000) (sc o2 o3 o4 o5 o6 o7 o8 o9 o10 o11 o12 : Option W) :
    ∃ (ρ' : Sl) (L' : Hs), lawT [] [sc, some (.ref 0), o2, o3, o4, o5, o6, o7, o8, o9, o10, o11, o12] L = .next ρ' L' ∧ Sh sc ρ' ∧ Pn (N + 600000) L' := by
  obtain ⟨w1, L1, E1, t1, f1, l1, k1⟩ := words_ok h (by omega) 2 (by decide)
  obtain ⟨w2, L2, E2, t2, f2, l2, k2⟩ := words_ok t1 (by omega) 2 (by decide)
  obtain ⟨w3, L3, E3, t3, f3, l3, k3⟩ := words_ok t2 (by omega) 3 (by decide)
  obtain ⟨xs, L4, c, E4, t4, f4, ds, hc, hl⟩ := handler_draw (ns := w1) (ks := w2) (kd := w3) (by omega) (by omega) (by omega) (by omega) t3 (by omega) 3
  obtain ⟨rs, L5, E5, t5, r5, n5⟩ := rows_draw k1 k2 (by omega) (by omega) t4 (by omega)
  have lr : ((List.range (4 : Int).toNat).map fun (i : Nat) => D.int i).length = 4 := rfl
  obtain ⟨rs', L6, p5, p9, p10, p11, p12, E6, t6⟩ := inner_ok (by omega) (by omega) (by omega) (by omega) (by omega) (by omega) k1 k2 k3 ds hc (sc := sc) (o2 := o2) ((List.range (4 : Int).toNat).map fun (i : Nat) => D.int i) rs _ L5 o5 o9 o10 o11 o12 r5 (by rw [lr]; omega) t5 (by rw [lr]; omega)
  rw [lr] at t6
  refine ⟨sl sc o2 xs rs' p5 p9 p10 p11 p12 w1 w2 w3, L6, ?_, ⟨_, _, _, _, _, _, _, _, _, _, _, rfl⟩, t6.mono (by omega)⟩
  unfold lawT
  refine x_seq (x_par3 (x_cons (x_call (x_cons (x_var rfl) (x_cons x_c x_nil)) rfl E1) (x_cons (x_call (x_cons (x_var rfl) (x_cons x_c x_nil)) rfl E2) (x_cons (x_call (x_cons (x_var rfl) (x_cons x_c x_nil)) rfl E3) x_nil)))) (x_thenN ?_)
  refine x_seq (x_asg (x_call (x_cons (x_var rfl) (x_cons (x_var rfl) (x_cons (x_var rfl) (x_cons (x_var rfl) (x_cons x_c x_nil))))) rfl E4) x_gvar) (x_thenN ?_)
  refine x_seq (x_asg (x_call (x_cons (x_var rfl) (x_cons (x_var rfl) (x_cons (x_var rfl) x_nil))) rfl E5) x_gvar) (x_thenN ?_)
  exact x_for (x_iRange x_c rfl rfl (by decide)) E6
theorem loop_ok (sc : Option W) : ∀ (xs : List D) (ρ : Sl) (L : Hs) (N : Int), Sh sc ρ → Pn N L → N + 600000 * xs.length ≤ 1099500000000 → ∃ (ρ' : Sl) (L' : Hs), forGo (gVar 2) lawT [] xs ρ L = .next ρ' L'
  | [], ρ, L, N, _, _, _ => ⟨ρ, L, rfl⟩
  | x :: xs, ρ, L, N, hs, ht, hN => by
    obtain ⟨o2, o3, o4, o5, o6, o7, o8, o9, o10, o11, o12, rfl⟩ := hs
    rw [List.length_cons] at hN
    obtain ⟨ρ1, L1, e1, s1, t1⟩ := turn_ok ht (by omega) sc (some (.d x)) o3 o4 o5 o6 o7 o8 o9 o10 o11 o12
    obtain ⟨ρ2, L2, e2⟩ := loop_ok sc xs ρ1 L1 (N + 600000) s1 t1 (by omega)
    exact ⟨ρ2, L2, x_forcons x_gvar e1 e2⟩
theorem last_ok (B L : Hs) : F_run_handler [.d (.tup []), .d (.tup []), .d (.tup [.str [97], .str [97], .int 0])] B L = .ok (.d (.tup [.str sDone, .tup [], .tup []])) L := by
  have wa : WordOk [97] := ⟨by decide, by decide, by decide⟩
  have hw : ∀ s ∈ ([[97]] : List (List Nat)), WordOk s := fun s hs => by
    rw [List.mem_singleton] at hs
    subst hs
    exact wa
  obtain ⟨v, P1, P2, _⟩ := run_both (ns := [[97]]) (ks := [[97]]) (kd := [[97]]) (by decide) hw hw hw (.nil) (Nat.zero_le _) (rs := []) ⟨fun p hp => (by cases hp), .nil, (by decide)⟩ (by decide) (q := [97]) (key := [97]) (body := 0) wa wa (by decide) (by decide)
  have e := P2 [] []
  have e2 : F__law_run [.d (.tup []), .d (.tup (([] : Env).map rowD)), .d (.tup [.str [97], .str [97], .int 0])] [] [] = .ok (.d (.tup [.str sDone, .tup [], .tup []])) [] := rfl
  rw [e2] at e
  injection e with e
  injection e with e
  rw [e]
  exact P1 B L
theorem cut_mem {α : Type} {xs : List α} {lo hi : Option Int} {x : α} (h : x ∈ cut xs lo hi) : x ∈ xs := List.mem_of_mem_drop (List.mem_of_mem_take h)
theorem law_true (ns : List Int) (hl : ns.length ≤ 63) : ∃ L, F_law [.d (.scr (ns.map D.int))] [] [] = .ok (.d (.bl true)) L := by
  have hcs : ∀ d ∈ cut (ns.map D.int) none (some 63), ∃ i, d = D.int i := fun d hd => by
    obtain ⟨i, _, rfl⟩ := List.mem_map.mp (cut_mem hd)
    exact ⟨i, rfl⟩
  have ht : F__law_pen [.d (.scr (ns.map D.int))] [] [] = .ok (.ref 0) [pen (cut (ns.map D.int) none (some 63)) 0 0] := rfl
  obtain ⟨ρ', L', e⟩ := loop_ok (some (.d (.scr (ns.map D.int)))) ((List.range (20 : Int).toNat).map fun (i : Nat) => D.int i) [some (.d (.scr (ns.map D.int))), some (.ref 0), none, none, none, none, none, none, none, none, none, none, none] [pen (cut (ns.map D.int) none (some 63)) 0 0] 0 ⟨_, _, _, _, _, _, _, _, _, _, _, rfl⟩ ⟨_, 0, 0, [], rfl, hcs, by omega, by omega⟩ (by rw [List.length_map, List.length_range]; decide)
  refine ⟨L', ?_⟩
  unfold F_law
  refine x_fn (r1 := .ret (.d (.bl true)) L') rfl ?_ rfl
  refine x_seq (x_asg (x_call (x_cons (x_var rfl) x_nil) rfl ht) x_gvar) (x_thenN ?_)
  refine x_seq (x_for (x_iRange x_c rfl rfl (by decide)) e) (x_thenN ?_)
  exact x_ret (x_2 (x_call (x_cons (x_tup x_nil rfl (Nat.zero_le _)) (x_cons (x_tup x_nil rfl (Nat.zero_le _)) (x_cons (x_tup (x_cons x_c (x_cons x_c (x_cons x_c x_nil))) rfl (by decide)) x_nil))) rfl (last_ok [] L')) (x_tup (x_cons x_c (x_cons (x_tup x_nil rfl (Nat.zero_le _)) (x_cons (x_tup x_nil rfl (Nat.zero_le _)) x_nil))) rfl (Nat.le_of_ble_eq_true rfl)) rfl rfl rfl)
end K01
end Ev

set_option Elab.async false
set_option linter.all false
set_option maxRecDepth 100000
set_option maxHeartbeats 0
namespace Ev
namespace K01
open PySem PySem.Spec PyProof.Rows L2
theorem run (w : World) : HandSHeadRun.RunEq R (PySem.W.view R.prog [52]) hk ob 4000 names w := by
  intro os
  kernel_rfl
end K01
end Ev

set_option Elab.async false
set_option linter.all false
set_option maxRecDepth 100000
set_option maxHeartbeats 4000000
open PySem PySem.W PySem.Calls PyProof.Rows
theorem PySem.Challenge.cw_oncepost_k01_runs_of_handlers_holds : PySem.Challenge.rw_oncepost_k01_runs_of_handlers.Holds := by
  w_on; o_law
  refine HandSHeadRun.head_any (r := OpenLaw.row PySem.Challenge.rw_oncepost_k01_runs_of_handlers) (q := view (OpenLaw.row PySem.Challenge.rw_oncepost_k01_runs_of_handlers).prog [52]) (H := Ev.K01.hk) (ob := Ev.K01.ob) (M := 4000) (loose := Ev.K01.names) (d := HandSHeadRun.topDef (OpenLaw.row PySem.Challenge.rw_oncepost_k01_runs_of_handlers).prog 52) (kwd := []) Ev.K01.ob_eq
    (by kernel_rfl) (fun s => by kernel_rfl) Ev.K01.run (by kernel_rfl) (by kernel_rfl) (by kernel_rfl) (by rfl) (by first | assumption | decide +kernel) (by decide +kernel) ⟨rfl, rfl, rfl, rfl, rfl, by decide +kernel⟩ ?hw ?hc
  case hw => w_witness2
  case hc =>
    refine Ev.walkG (l := PySem.Challenge.rw_oncepost_k01_runs_of_handlers) (n := 63) (k := 45) (x := "_law_script") (CX := L2.CX0) rfl (by decide) (by kernel_rfl) ⟨rfl, by decide, by decide⟩ ?F (fun _ _ _ _ z => z)
    intro w mg fa h Y G hmg0
    obtain ⟨K, I, c⟩ := Y
    obtain ⟨fd, W⟩ := Ev.K01.facts (T := ⟨Ev.K01.tcls K, fun _ => 0, _, w⟩) rfl rfl rfl I G c
    have hmg : mg ("law" : PySem.Str) = some (.ref fa) := by
      have e : (HandSHeadRun.topDef (OpenLaw.row PySem.Challenge.rw_oncepost_k01_runs_of_handlers).prog 52).name = ("law" : PySem.Str) := by kernel_rfl
      rw [← e]
      exact hmg0
    have e := hmg.symm.trans W.g_law
    cases e
    have b := L2.FunD.bindsA (ps := ["_law_script"]) W.f_law fun _ _ _ _ _ _ us hl => match us, hl with | [_], _ => rfl
    exact ⟨K, fd 42, _, I, fun s v => b s [v] rfl, fun H a ns hl hO hS => Ev.law_start hO hS (Ev.K01.law_true ns hl), fun base _ _ => Ev.K01.ok_law W⟩

