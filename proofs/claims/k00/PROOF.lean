import PyProof.Rows.All
import Wide.All
import OpenK.AllK
import Wide.FinOn
import HandS.ForMost
import HandS.Flow
import HandS.Walk
import HandS.TupAny
import HandS.Star
import HandS.Deep
import HandS.IsInst
import HandS.Wide
import KE.KeyNested
import HandS.Set
import HandS.Strs
import HandS.ExcInit
import HandS.Defaults
import HandS.HeadEnd
import HandS.TupMul
import HandS.Style
import PyProof.StrOps2
import PyProof.CallFns
import HandS.TupLe
import HandS.ClsMeth
import HandS.ListItems
import PyProof.ReprRoads
import HandS.Small
import HandS.Codes
import HandS.Call
import HandS.Zip
import HandS.SortOrd
import HandS.SortRule
import KE.KDictCopyH
import KE.KDictSum
import HandS.ExcValue
import PyProof.Rows.SortStr
import KE.KDictKeyed
import HandS.SetFor
import KE.KDictZip
import KE.KTurns
import KE.KExcSuper
import HandS.HeadWalk
import KE.KExcIs
import HandS.ExcField
import HandS.Head0
import HandS.Head1
import HandS.Head2
import HandS.HeadHook1
import HandS.HeadHook2
import PyProof.StrLawsRepr
import KE.KStateDown
import PySem.Challenge.RW_oncepost_k00_errors
set_option linter.all false
set_option maxRecDepth 100000
/-! EvS: a small plain semantics of the part of Python that the program and its laws are written in.
    D: data by value (lists, dicts by value are those that nobody changes any more); W: a value: data, or a place of the heap (a list, a dict, an instance that may still be changed). -/
namespace Ev

inductive D where
  | non | bl (b : Bool) | int (i : Int) | str (s : List Nat)
  | tup (xs : List D) | lst (xs : List D) | dct (ks vs : List D) | set (xs : List D)
  | obj (c : Nat) (ns : List (List Nat)) (fs : List D) | fn (i : Nat)
  /-- a dict whose keys are tuples, nested -/
  | dcn (ks vs : List D)
  /-- an exception that is held as a value -/
  | exn (c : Nat) (ns : List (List Nat)) (fs : List D)
  /-- the script as it is handed in -/
  | scr (xs : List D)
inductive W where
  | d (x : D) | ref (n : Nat)
/-- what stands at a place: frozen data, a list, a dict, an instance -/
inductive Ob where
  | frz (x : D) | lst (ws : List W) | dct (ks : List D) (ws : List W) | ins (c : Nat) (fs : List (List Nat × W))
  /-- a dict whose keys are tuples, nested -/
  | dcn (ks : List D) (ws : List W)
def Ob.live : Ob → Bool
  | .frz _ => false
  | _ => true
abbrev Hs := List Ob
abbrev Sl := List (Option W)
inductive Res (α : Type) where
  | ok (a : α) (L : Hs) | exc (c : Nat) (ds : List D) (L : Hs) | bad
/-- expressions, argument lists, tests; B: the heap of the callers (read only), L: the part of the heap that may change -/
abbrev SE := Hs → Sl → Hs → Res W
abbrev SA := Hs → Sl → Hs → Res (List W)
abbrev ST := Hs → Sl → Hs → Res Bool
inductive SR where
  | next (ρ : Sl) (L : Hs) | ret (w : W) (L : Hs) | brk (ρ : Sl) (L : Hs) | cnt (ρ : Sl) (L : Hs) | exc (c : Nat) (ds : List D) (ρ : Sl) (L : Hs) | bad
abbrev SS := Hs → Sl → Hs → SR
abbrev Fn := List W → Hs → Hs → Res W

def sizeL : Nat := 16777216
def look (B L : Hs) (n : Nat) : Option Ob := (B ++ L)[n]?
/-- all are data -/
def allD : List W → Option (List D)
  | [] => some []
  | .d x :: r => match allD r with
    | some xs => some (x :: xs)
    | none => none
  | .ref _ :: _ => none
/-- the data that a value is at this moment -/
def vw (B L : Hs) : W → Option D
  | .d x => some x
  | .ref n => match look B L n with
    | some (.frz x) => some x
    | some (.lst ws) => (allD ws).map .lst
    | some (.dct ks ws) => (allD ws).map (.dct ks)
    | _ => none
/-- data for good: what may still be changed is frozen -/
def own (B L : Hs) : W → Option (D × Hs)
  | .d x => some (x, L)
  | .ref n => match look B L n with
    | some (.frz x) => some (x, L)
    | some (.lst ws) => if n < B.length then none else match allD ws with
      | some xs => some (.lst xs, L.set (n - B.length) (.frz (.lst xs)))
      | none => none
    | some (.dct ks ws) => if n < B.length then none else match allD ws with
      | some xs => some (.dct ks xs, L.set (n - B.length) (.frz (.dct ks xs)))
      | none => none
    | some (.dcn ks ws) => if n < B.length then none else match allD ws with
      | some xs => some (.dcn ks xs, L.set (n - B.length) (.frz (.dcn ks xs)))
      | none => none
    | some (.ins c fs) => if n < B.length then none else match allD (fs.map (·.2)) with
      | some xs => some (.obj c (fs.map (·.1)) xs, L.set (n - B.length) (.frz (.obj c (fs.map (·.1)) xs)))
      | none => none
    | none => none
def ownAll (B : Hs) : Hs → List W → Option (List D × Hs)
  | L, [] => some ([], L)
  | L, w :: ws => match own B L w with
    | some (x, L1) => match ownAll B L1 ws with
      | some (xs, L2) => some (x :: xs, L2)
      | none => none
    | none => none

/-! ### binding -/
def Res.bind {α β : Type} (r : Res α) (k : α → Hs → Res β) : Res β := match r with
  | .ok a L => k a L
  | .exc c ds L => .exc c ds L
  | .bad => .bad
def ofOpt {α : Type} (o : Option α) (L : Hs) : Res α := match o with
  | some a => .ok a L
  | none => .bad

def vwR (B L : Hs) (w : W) : Res D := ofOpt (vw B L w) L
def ownR (B L : Hs) (w : W) : Res D := match own B L w with
  | some (x, L1) => .ok x L1
  | none => .bad
def ownsR (B L : Hs) (ws : List W) : Res (List D) := match ownAll B L ws with
  | some (x, L1) => .ok x L1
  | none => .bad
def guardR (c : Bool) (L : Hs) : Res Unit := match c with
  | true => .ok () L
  | false => .bad

/-! ### expressions -/
def eVar (i : Nat) : SE := fun _ ρ L => match ρ[i]? with
  | some (some w) => .ok w L
  | _ => .bad
def eC (x : D) : SE := fun _ _ L => .ok (.d x) L
def e1 (op : D → Option D) (a : SE) : SE := fun B ρ L => (a B ρ L).bind fun x L1 => (vwR B L1 x).bind fun p L1 => (ofOpt (op p) L1).bind fun r L2 => .ok (.d r) L2
def e2 (op : D → D → Option D) (a b : SE) : SE := fun B ρ L => (a B ρ L).bind fun x L1 => (b B ρ L1).bind fun y L2 => (vwR B L2 x).bind fun p L2 => (vwR B L2 y).bind fun q L2 => (ofOpt (op p q) L2).bind fun r L3 => .ok (.d r) L3
def aNil : SA := fun _ _ L => .ok [] L
def aCons (a : SE) (r : SA) : SA := fun B ρ L => (a B ρ L).bind fun x L1 => (r B ρ L1).bind fun xs L2 => .ok (x :: xs) L2
/-- the items of a tuple or a list -/
def seqD : D → Option (List D)
  | .tup xs => some xs
  | .lst xs => some xs
  | _ => none
/-- *a, .. -/
def aStar (a : SE) (r : SA) : SA := fun B ρ L => (a B ρ L).bind fun x L1 => (vwR B L1 x).bind fun p L1 => (ofOpt (seqD p) L1).bind fun ys L1 => (r B ρ L1).bind fun xs L2 => .ok (ys.map .d ++ xs) L2
def eTup (a : SA) : SE := fun B ρ L => (a B ρ L).bind fun ws L1 => (ownsR B L1 ws).bind fun xs L2 => (guardR (decide (xs.length ≤ sizeL)) L2).bind fun _ L2 => .ok (.d (.tup xs)) L2
/-- a list that is not changed any more -/
def eLst (a : SA) : SE := fun B ρ L => (a B ρ L).bind fun ws L1 => (ownsR B L1 ws).bind fun xs L2 => (guardR (decide (xs.length ≤ sizeL)) L2).bind fun _ L2 => .ok (.d (.lst xs)) L2
/-- a list that may be changed -/
def eLstM (a : SA) : SE := fun B ρ L => (a B ρ L).bind fun ws L1 => (guardR (decide (ws.length ≤ sizeL)) L1).bind fun _ L1 => .ok (.ref (B.length + L1.length)) (L1 ++ [.lst ws])
/-- a call of a def of np parameters -/
def eCall (np : Nat) (F : Fn) (a : SA) : SE := fun B ρ L => (a B ρ L).bind fun ws L1 => (guardR (decide (ws.length = np)) L1).bind fun _ L1 => F ws B L1
/-- a call with nk keywords alone, g puts their values in order -/
def eCallK (nk np : Nat) (F : Fn) (g : List W → List W) (a : SA) : SE := fun B ρ L => (a B ρ L).bind fun ws L1 => (guardR (decide (ws.length = nk)) L1).bind fun _ L1 => F (g ws) B L1
/-- tests -/
def tru : D → Option Bool
  | .non => some false
  | .bl b => some b
  | .int i => some (decide (i ≠ 0))
  | .str s => if s.length ≤ sizeL then some (!s.isEmpty) else none
  | .tup xs => some (!xs.isEmpty)
  | .lst xs => some (!xs.isEmpty)
  | _ => none
def tE (a : SE) : ST := fun B ρ L => (a B ρ L).bind fun x L1 => (vwR B L1 x).bind fun p L1 => ofOpt (tru p) L1
def tAnd (a b : ST) : ST := fun B ρ L => (a B ρ L).bind fun c L1 => if c = true then b B ρ L1 else .ok false L1
def tOr (a b : ST) : ST := fun B ρ L => (a B ρ L).bind fun c L1 => if c = true then .ok true L1 else b B ρ L1
def tNot (a : ST) : ST := fun B ρ L => (a B ρ L).bind fun c L1 => .ok (!c) L1
def tIfT (c a b : ST) : ST := fun B ρ L => (c B ρ L).bind fun k L1 => if k = true then a B ρ L1 else b B ρ L1
def eIf (c : ST) (a b : SE) : SE := fun B ρ L => (c B ρ L).bind fun k L1 => if k = true then a B ρ L1 else b B ρ L1
/-- x and y, x or y, not x as values -/
def eAnd (a b : SE) : SE := fun B ρ L => (a B ρ L).bind fun x L1 => (vwR B L1 x).bind fun p L1 => (ofOpt (tru p) L1).bind fun k L2 => if k = true then b B ρ L2 else .ok x L2
def eOr (a b : SE) : SE := fun B ρ L => (a B ρ L).bind fun x L1 => (vwR B L1 x).bind fun p L1 => (ofOpt (tru p) L1).bind fun k L2 => if k = true then .ok x L2 else b B ρ L2
def eNot (a : SE) : SE := fun B ρ L => (a B ρ L).bind fun x L1 => (vwR B L1 x).bind fun p L1 => (ofOpt (tru p) L1).bind fun k L2 => .ok (.d (.bl (!k))) L2

/-! ### statements -/
def SR.then (r : SR) (k : Sl → Hs → SR) : SR := match r with
  | .next ρ L => k ρ L
  | r => r
def Res.st {α : Type} (r : Res α) (ρ : Sl) (k : α → Hs → SR) : SR := match r with
  | .ok a L => k a L
  | .exc c ds L => .exc c ds ρ L
  | .bad => .bad
def sNil : SS := fun _ ρ L => .next ρ L
def sSeq (a b : SS) : SS := fun B ρ L => (a B ρ L).then fun ρ1 L1 => b B ρ1 L1
def sRet (a : SE) : SS := fun B ρ L => (a B ρ L).st ρ fun w L1 => .ret w L1
def sExpr (a : SE) : SS := fun B ρ L => (a B ρ L).st ρ fun _ L1 => .next ρ L1
def sIf (c : ST) (a b : SS) : SS := fun B ρ L => (c B ρ L).st ρ fun k L1 => if k = true then a B ρ L1 else b B ρ L1
def sBad : SS := fun _ _ _ => .bad
/-- targets: a value comes to its names -/
abbrev SG := W → Hs → Sl → Hs → Res Sl
def gVar (i : Nat) : SG := fun w _ ρ L => .ok (ρ.set i (some w)) L
def gAll : List SG → List D → Hs → Sl → Hs → Res Sl
  | [], [], _, ρ, L => .ok ρ L
  | g :: gs, x :: xs, B, ρ, L => (g (.d x) B ρ L).bind fun ρ1 L1 => gAll gs xs B ρ1 L1
  | _, _, _, _, _ => .bad
def tupD : D → Option (List D)
  | .tup xs => some xs
  | _ => none
def gTup (gs : List SG) : SG := fun w B ρ L => (vwR B L w).bind fun p L1 => (ofOpt (tupD p) L1).bind fun xs L1 => gAll gs xs B ρ L1
def sAsg (a : SE) (g : SG) : SS := fun B ρ L => (a B ρ L).st ρ fun w L1 => (g w B ρ L1).st ρ fun ρ' L2 => .next ρ' L2
/-- a, b = x, y: two plain names -/
def sPar (i j : Nat) (a : SA) : SS := fun B ρ L => (a B ρ L).st ρ fun ws L1 => match ws with
  | [v, w] => .next ((ρ.set i (some v)).set j (some w)) L1
  | _ => .bad
/-- a, b, c = x, y, z -/
def sPar3 (i j l : Nat) (a : SA) : SS := fun B ρ L => (a B ρ L).st ρ fun ws L1 => match ws with
  | [u, v, w] => .next (((ρ.set i (some u)).set j (some v)).set l (some w)) L1
  | _ => .bad
/-! ### loops -/
/-- what a turn leaves, and how it goes on -/
def SR.turn (r : SR) (k : Sl → Hs → SR) : SR := match r with
  | .next ρ L => k ρ L
  | .cnt ρ L => k ρ L
  | .brk ρ L => .next ρ L
  | .ret w L => .ret w L
  | .exc c ds ρ L => .exc c ds ρ L
  | .bad => .bad
def forGo (g : SG) (b : SS) (B : Hs) : List D → Sl → Hs → SR
  | [], ρ, L => .next ρ L
  | x :: xs, ρ, L => (g (.d x) B ρ L).st ρ fun ρ1 L1 => (b B ρ1 L1).turn fun ρ2 L2 => forGo g b B xs ρ2 L2
/-- what is walked: its items -/
abbrev SI := Hs → Sl → Hs → Res (List D)
def sFor (it : SI) (g : SG) (b : SS) : SS := fun B ρ L => (it B ρ L).st ρ fun xs L1 => forGo g b B xs ρ L1
def items : D → Option (List D)
  | .tup xs => some xs
  | .lst xs => some xs
  | .scr xs => some xs
  | .str s => some (s.map fun c => .str [c])
  | _ => none
/-- a place that is walked stands still: it is frozen, or the callers' -/
def still (B L : Hs) : W → Option D
  | .d p => some p
  | .ref n => match look B L n with
    | some (.frz p) => some p
    | some (.lst ws) => if n < B.length then (allD ws).map .lst else none
    | _ => none
def iE (a : SE) : SI := fun B ρ L => (a B ρ L).bind fun x L1 => (ofOpt (still B L1 x) L1).bind fun p L1 => ofOpt (items p) L1
def intD : D → Option Int
  | .int i => some i
  | _ => none
def iRange (a : SE) : SI := fun B ρ L => (a B ρ L).bind fun x L1 => (vwR B L1 x).bind fun p L1 => (ofOpt (intD p) L1).bind fun j L1 => (guardR (decide (-(2 ^ 62) ≤ j ∧ j < 2 ^ 62)) L1).bind fun _ L1 => .ok ((List.range j.toNat).map fun (i : Nat) => .int i) L1
def whileGo (c : ST) (b : SS) (B : Hs) : Nat → Sl → Hs → SR
  | 0, _, _ => .bad
  | n + 1, ρ, L => (c B ρ L).st ρ fun k L1 => if k = true then (b B ρ L1).turn fun ρ2 L2 => whileGo c b B n ρ2 L2 else .next ρ L1
def sWhile (n : Nat) (c : ST) (b : SS) : SS := fun B ρ L => whileGo c b B n ρ L
def wipe (ρ : Sl) : List Nat → Sl
  | [] => ρ
  | v :: vs => (wipe ρ vs).set v none
/-- a comprehension: the list of what comes, by value -/
def compGo (g : SG) (c : ST) (e : SE) (B : Hs) (ρ : Sl) : List D → List D → Hs → Res (List D)
  | [], acc, L => .ok acc L
  | x :: xs, acc, L => (g (.d x) B ρ L).bind fun ρ1 L1 => (c B ρ1 L1).bind fun k L2 => if k = true then
      (e B ρ1 L2).bind fun w L3 => (ownR B L3 w).bind fun y L4 => (guardR (decide (acc.length < sizeL)) L4).bind fun _ L4 => compGo g c e B ρ xs (acc ++ [y]) L4
    else compGo g c e B ρ xs acc L2
def tYes : ST := fun _ _ L => .ok true L
def eComp (it : SI) (g : SG) (c : ST) (e : SE) (vs : List Nat) : SE := fun B ρ L => (it B ρ L).bind fun xs L1 => (compGo g c e B (wipe ρ vs) xs [] L1).bind fun ys L2 => .ok (.d (.lst ys)) L2
/-- two fors -/
def compGo2 (g : SG) (c : ST) (it1 : SI) (g1 : SG) (c1 : ST) (e : SE) (B : Hs) (ρ : Sl) (vs1 : List Nat) : List D → List D → Hs → Res (List D)
  | [], acc, L => .ok acc L
  | x :: xs, acc, L => (g (.d x) B ρ L).bind fun ρ1 L1 => (c B ρ1 L1).bind fun k L2 => if k = true then (it1 B ρ1 L2).bind fun ys L3 =>
        (compGo g1 c1 e B (wipe ρ1 vs1) ys acc L3).bind fun acc' L4 => compGo2 g c it1 g1 c1 e B ρ vs1 xs acc' L4
    else compGo2 g c it1 g1 c1 e B ρ vs1 xs acc L2
def eComp2 (it : SI) (g : SG) (c : ST) (it1 : SI) (g1 : SG) (c1 : ST) (e : SE) (vs vs1 : List Nat) : SE := fun B ρ L => (it B ρ L).bind fun xs L1 => (compGo2 g c it1 g1 c1 e B (wipe ρ vs) vs1 xs [] L1).bind fun ys L2 => .ok (.d (.lst ys)) L2

/-! ### defs -/
/-- a def: its number of parameters, of names, its body -/
def fnBody (np ns : Nat) (b : SS) : Fn := fun ws B L => if ws.length = np then match b B (ws.map some ++ List.replicate (ns - np) none) L with
    | .next _ L1 => .ok (.d .non) L1
    | .ret w L1 => .ok w L1
    | .exc c ds _ L1 => .exc c ds L1
    | _ => .bad
  else .bad
/-- what a call hands out when its own part of the heap is dropped -/
def out (n : Nat) (L : Hs) : W → Option W
  | .d x => some (.d x)
  | .ref k => if k < n then some (.ref k) else match L[k - n]? with
    | some (.frz x) => some (.d x)
    | some (.lst ws) => (allD ws).map fun xs => .d (.lst xs)
    | some (.dct ks ws) => (allD ws).map fun xs => .d (.dct ks xs)
    | some (.dcn ks ws) => (allD ws).map fun xs => .d (.dcn ks xs)
    | some (.ins c fs) => (allD (fs.map (·.2))).map fun xs => .d (.obj c (fs.map (·.1)) xs)
    | none => none
/-- a call that changes nothing that stood before -/
def pureFn (F : Fn) : Fn := fun ws B L => match F ws (B ++ L) [] with
  | .ok w L' => match out (B ++ L).length L' w with
    | some w' => .ok w' L
    | none => .bad
  | .exc c ds _ => .exc c ds L
  | .bad => .bad

/-- a tuple that dict() may take, or an empty one: of such tuples it is known that they are plain -/
def rowy : List D → Bool
  | [] => true
  | .tup [.tup _, _] :: r => rowy r
  | _ => false

/-! ### operators by data -/
def opAdd : D → D → Option D
  | .int i, .int j => some (.int (i + j))
  | .str s, .str t => if s.length + t.length ≤ sizeL then some (.str (s ++ t)) else none
  | .tup xs, .tup ys => if xs.length + ys.length ≤ sizeL ∧ (xs.isEmpty || ys.isEmpty || !rowy (xs ++ ys)) = true then some (.tup (xs ++ ys)) else none
  | .lst xs, .lst ys => if xs.length + ys.length ≤ sizeL then some (.lst (xs ++ ys)) else none
  | _, _ => none
def opSub : D → D → Option D
  | .int i, .int j => some (.int (i - j))
  | _, _ => none
def mulOk (i j : Int) : Bool := decide (i.natAbs < 2 ^ 64) || decide (j.natAbs < 2 ^ 64) || decide (i.natAbs.log2 + j.natAbs.log2 < 1000000)
def opMul : D → D → Option D
  | .int i, .int j => if mulOk i j = true then some (.int (i * j)) else none
  | .tup xs, .int k => if xs.isEmpty = false ∧ 0 ≤ k ∧ k ≤ 1000 ∧ xs.length ≤ 1000 ∧ rowy (List.replicate k.toNat xs).flatten = false then some (.tup (List.replicate k.toNat xs).flatten) else none
  | .lst xs, .int k => if -(2 ^ 63) ≤ k ∧ k < 2 ^ 63 ∧ xs.length * k.toNat ≤ sizeL then some (.lst (List.replicate k.toNat xs).flatten) else none
  | .str s, .int k => if 0 ≤ k ∧ k ≤ 1000 ∧ s.length ≤ 1000 then some (.str (List.replicate k.toNat s).flatten) else none
  | _, _ => none
def opFdiv : D → D → Option D
  | .int i, .int j => if 0 < j ∧ j.natAbs.log2 < 9000 then some (.int (i / j)) else none
  | _, _ => none
def opMod : D → D → Option D
  | .int i, .int j => if 0 < j then some (.int (i % j)) else none
  | _, _ => none
def opPow : D → D → Option D
  | .int i, .int j => if 0 ≤ j ∧ j ≤ 1000000 ∧ i.natAbs < 2 ^ 64 then some (.int (i ^ j.toNat)) else none
  | _, _ => none
/-- texts and numbers by their order -/
def lexS : List (List Nat) → List (List Nat) → Bool
  | [], [] => false
  | [], _ :: _ => true
  | _ :: _, [] => false
  | x :: xs, y :: ys => if x = y then lexS xs ys else decide (x < y)
def strsD : List D → Option (List (List Nat))
  | [] => some []
  | .str s :: r => match strsD r with
    | some ss => some (s :: ss)
    | none => none
  | _ => none
def opLt : D → D → Option D
  | .int i, .int j => some (.bl (decide (i < j)))
  | .str s, .str t => some (.bl (decide (s < t)))
  | .tup xs, .tup ys => match strsD xs, strsD ys with
    | some ss, some ts => some (.bl (lexS ss ts))
    | _, _ => none
  | _, _ => none
def opLe : D → D → Option D
  | .int i, .int j => some (.bl (decide (i ≤ j)))
  | _, _ => none
def opGt : D → D → Option D
  | .int i, .int j => some (.bl (decide (j < i)))
  | _, _ => none
def opGe : D → D → Option D
  | .int i, .int j => some (.bl (decide (j ≤ i)))
  | _, _ => none
/-! == of data without dicts, sets, objects -/
mutual
def eqD : D → D → Bool
  | .non, .non => true
  | .bl a, .bl b => a == b
  | .bl a, .int j => (if a then 1 else 0) == j
  | .int i, .bl b => i == (if b then 1 else 0)
  | .int i, .int j => i == j
  | .str x, .str y => decide (x = y)
  | .lst xs, .lst ys => eqDs xs ys
  | .tup xs, .tup ys => eqDs xs ys
  | _, _ => false
def eqDs : List D → List D → Bool
  | [], [] => true
  | x :: xs, y :: ys => eqD x y && eqDs xs ys
  | _, _ => false
end
mutual
def dOk : D → Bool
  | .non => true
  | .bl _ => true
  | .int _ => true
  | .str s => s.all (· < 0x110000)
  | .tup xs => dOks xs
  | .lst xs => dOks xs
  | _ => false
def dOks : List D → Bool
  | [] => true
  | x :: xs => dOk x && dOks xs
end
mutual
def dep : D → Nat
  | .tup xs => deps xs + 1
  | .lst xs => deps xs + 1
  | _ => 0
def deps : List D → Nat
  | [] => 0
  | x :: xs => max (dep x) (deps xs)
end
def okD (d : D) : Bool := dOk d && decide (dep d ≤ 64)
def opEq : D → D → Option D
  | .str s, .str t => some (.bl (decide (s = t)))
  | .int i, .int j => some (.bl (decide (i = j)))
  | .lst xs, .lst [] => some (.bl xs.isEmpty)
  | p, q => if (okD p && okD q) = true then some (.bl (eqD p q)) else none
def opNe : D → D → Option D
  | .str s, .str t => some (.bl (!decide (s = t)))
  | .int i, .int j => some (.bl (!decide (i = j)))
  | .lst xs, .lst [] => some (.bl (!xs.isEmpty))
  | p, q => if (okD p && okD q) = true then some (.bl (!eqD p q)) else none
/-- the place of a key -/
def keyEq : D → D → Bool
  | .int i, .int j => decide (i = j)
  | .str s, .str t => decide (s = t)
  | _, _ => false
def isKey : D → Bool
  | .int _ => true
  | .str _ => true
  | _ => false
def findK (k : D) : List D → List W → Option W
  | a :: ks, w :: ws => if keyEq a k then some w else findK k ks ws
  | _, _ => none
def findD (k : D) : List D → List D → Option D
  | a :: ks, w :: ws => if keyEq a k then some w else findD k ks ws
  | _, _ => none
/-- in -/
def opIn : D → D → Option D
  | p, .lst ys => if (okD p && okD (.lst ys)) = true then some (.bl (ys.any fun y => eqD y p)) else none
  | p, .tup ys => if (okD p && okD (.tup ys)) = true then some (.bl (ys.any fun y => eqD y p)) else none
  | .str [c], .str t => some (.bl (decide (c ∈ t)))
  | p, .dct ks vs => if isKey p = true then some (.bl (findD p ks vs).isSome) else none
  | _, _ => none
def opNotIn (p q : D) : Option D := match opIn p q with
  | some (.bl b) => some (.bl (!b))
  | _ => none
/-- calls by data -/
def bLen : List D → Option D
  | [.str s] => if s.length ≤ sizeL then some (.int s.length) else none
  | [.tup xs] => some (.int xs.length)
  | [.lst xs] => some (.int xs.length)
  | [.scr xs] => some (.int xs.length)
  | [.dct ks _] => some (.int ks.length)
  | _ => none
def bAbs : List D → Option D
  | [.int i] => some (.int (if i < 0 then -i else i))
  | _ => none
def allI : List D → Option (List Int)
  | [] => some []
  | .int i :: r => match allI r with
    | some is => some (i :: is)
    | none => none
  | _ => none
def maxI : List Int → Option Int
  | [] => none
  | i :: r => some (r.foldl (fun a b => if b > a then b else a) i)
def minI : List Int → Option Int
  | [] => none
  | i :: r => some (r.foldl (fun a b => if b < a then b else a) i)
def bMax : List D → Option D
  | [.int i, .int j] => some (.int (if j > i then j else i))
  | [.lst xs] => match allI xs with
    | some is => (maxI is).map .int
    | none => none
  | _ => none
def bMin : List D → Option D
  | [.int i, .int j] => some (.int (if j < i then j else i))
  | [.lst xs] => match allI xs with
    | some is => (minI is).map .int
    | none => none
  | _ => none
def bInt : List D → Option D
  | [.int i] => some (.int i)
  | [.bl b] => some (.int (if b then 1 else 0))
  | _ => none
def bList : List D → Option D
  | [.lst xs] => some (.lst xs)
  | [.tup xs] => some (.lst xs)
  | [.scr xs] => some (.lst xs)
  | _ => none
def bTuple : List D → Option D
  | [.lst xs] => some (.tup xs)
  | [.tup xs] => some (.tup xs)
  | [.scr xs] => some (.tup xs)
  | _ => none
def allB : List D → Option (List Bool)
  | [] => some []
  | .bl b :: r => match allB r with
    | some bs => some (b :: bs)
    | none => none
  | _ => none
def bAll : List D → Option D
  | [.lst xs] => match allB xs with
    | some bs => some (.bl (bs.all id))
    | none => none
  | _ => none
def bAny : List D → Option D
  | [.lst xs] => match allB xs with
    | some bs => some (.bl (bs.any id))
    | none => none
  | _ => none
def vwsR (B L : Hs) : List W → Res (List D)
  | [] => .ok [] L
  | w :: ws => (vwR B L w).bind fun p L => (vwsR B L ws).bind fun ps L => .ok (p :: ps) L
/-- a call of a builtin by data -/
def eB (op : List D → Option D) (a : SA) : SE := fun B ρ L => (a B ρ L).bind fun ws L1 => (vwsR B L1 ws).bind fun ps L1 => (ofOpt (op ps) L1).bind fun r L2 => .ok (.d r) L2
/-- isinstance with built-in classes: their names -/
inductive Ty where
  | int | str | bool | tuple | list | dict
  deriving DecidableEq
def isTy (t : Ty) : D → Option Bool
  | .non => some false
  | .bl _ => some (t == .bool || t == .int)
  | .int _ => some (t == .int)
  | .str _ => some (t == .str)
  | .tup _ => some (t == .tuple)
  | .lst _ => some (t == .list)
  | .dct _ _ => some (t == .dict)
  | _ => none
def bIsi (t : Ty) (p : D) : Option D := (isTy t p).map .bl
/-- is None -/
def isN : W → Bool
  | .d .non => true
  | _ => false
def eIsN (a : SE) : SE := fun B ρ L => (a B ρ L).bind fun x L1 => .ok (.d (.bl (isN x))) L1
def eNotN (a : SE) : SE := fun B ρ L => (a B ρ L).bind fun x L1 => .ok (.d (.bl (!isN x))) L1
/-- an index -/
def ixN (n : Nat) (i : Int) : Option Nat := if 0 ≤ i then (if i < n then some i.toNat else none) else if -(n : Int) ≤ i then some (i + n).toNat else none
def atI {α : Type} (xs : List α) (i : Int) : Option α := (ixN xs.length i).bind fun j => xs[j]?
def opIx : D → D → Option D
  | .lst xs, .int i => atI xs i
  | .scr xs, .int i => atI xs i
  | .tup xs, .int i => atI xs i
  | .str s, .int i => if s.length ≤ sizeL then (atI s i).map fun c => .str [c] else none
  | .dct ks vs, k => if isKey k = true then findD k ks vs else none
  | _, _ => none
/-- slices -/
def sIx (n d : Nat) : Option Int → Nat
  | none => d
  | some v => if v < 0 then (v + n).toNat else min v.toNat n
def cut {α : Type} (xs : List α) (lo hi : Option Int) : List α := (xs.drop (sIx xs.length 0 lo)).take (sIx xs.length xs.length hi - sIx xs.length 0 lo)
def opSl : D → Option Int → Option Int → Option D
  | .lst xs, lo, hi => some (.lst (cut xs lo hi))
  | .scr xs, lo, hi => some (.lst (cut xs lo hi))
  | .tup xs, lo, hi => some (.tup (cut xs lo hi))
  | .str s, lo, hi => if s.length ≤ sizeL then some (.str (cut s lo hi)) else none
  | _, _, _ => none
abbrev SO := Hs → Sl → Hs → Res (Option Int)
def oNone : SO := fun _ _ L => .ok none L
def oSome (a : SE) : SO := fun B ρ L => (a B ρ L).bind fun x L1 => (vwR B L1 x).bind fun p L1 => (ofOpt (intD p) L1).bind fun i L1 => .ok (some i) L1
def eSl (a : SE) (lo hi : SO) : SE := fun B ρ L => (a B ρ L).bind fun x L1 => (lo B ρ L1).bind fun l L2 => (hi B ρ L2).bind fun h L3 => (vwR B L3 x).bind fun p L3 => (ofOpt (opSl p l h) L3).bind fun r L4 => .ok (.d r) L4
/-- a chain a < b < c -/
def boolD : D → Option Bool
  | .bl b => some b
  | _ => none
def eChain (op op' : D → D → Option D) (a b c : SE) : SE := fun B ρ L => (a B ρ L).bind fun x L1 => (b B ρ L1).bind fun y L2 => (vwR B L2 x).bind fun p L2 => (vwR B L2 y).bind fun q L2 => (ofOpt (op p q) L2).bind fun r L2 => (ofOpt (boolD r) L2).bind fun k L2 =>
  if k = true then (c B ρ L2).bind fun z L3 => (vwR B L3 y).bind fun q L3 => (vwR B L3 z).bind fun s L3 => (ofOpt (op' q s) L3).bind fun r L4 => .ok (.d r) L4 else .ok (.d (.bl false)) L2

/-! ### dicts -/
def pairsGo (B : Hs) (ρ : Sl) : List (SE × SE) → Hs → Res (List W × List W)
  | [], L => .ok ([], []) L
  | (k, v) :: r, L => (k B ρ L).bind fun x L1 => (v B ρ L1).bind fun y L2 => (pairsGo B ρ r L2).bind fun ps L3 => .ok (x :: ps.1, y :: ps.2) L3
def putKs (k : D) (ks : List D) : List D := if ks.any (fun a => keyEq a k) then ks else ks ++ [k]
def putVs {α : Type} (k : D) (x : α) (ks : List D) (ys : List α) : List α := if ks.any (fun a => keyEq a k) then List.zipWith (fun a y => if keyEq a k then x else y) ks ys else ys ++ [x]
def mergeKV {α : Type} : List D → List α → List D → List α → List D × List α
  | ks, xs, k :: ks', x :: xs' => mergeKV (putKs k ks) (putVs k x ks xs) ks' xs'
  | ks, xs, _, _ => (ks, xs)
/-- {k: v, ..}, not changed any more -/
def eDct (ps : List (SE × SE)) : SE := fun B ρ L => (pairsGo B ρ ps L).bind fun ww L1 => (ownsR B L1 ww.2).bind fun xs L2 => (vwsR B L2 ww.1).bind fun ks L2 => (guardR (ks.all isKey && decide (ks.length ≤ 15)) L2).bind fun _ L2 =>
  .ok (.d (.dct (mergeKV [] [] ks xs).1 (mergeKV [] [] ks xs).2)) L2
/-- {k: v, ..}, that may be changed -/
def eDctM (ps : List (SE × SE)) : SE := fun B ρ L => (pairsGo B ρ ps L).bind fun ww L1 => (vwsR B L1 ww.1).bind fun ks L1 => (guardR (ks.all isKey && decide (ks.length ≤ 15)) L1).bind fun _ L1 =>
  .ok (.ref (B.length + L1.length)) (L1 ++ [.dct (mergeKV [] [] ks ww.2).1 (mergeKV [] [] ks ww.2).2])
/-- d[k] = v -/
def putAt (B L : Hs) (w : W) (k : D) (v : W) : Option Hs := match w with
  | .ref n => if n < B.length then none else match L[n - B.length]? with
    | some (.dct ks ws) => if isKey k = true ∧ ks.length < sizeL then some (L.set (n - B.length) (.dct (putKs k ks) (putVs k v ks ws))) else none
    | _ => none
  | _ => none
def sDPut (o i v : SE) : SS := fun B ρ L => (v B ρ L).st ρ fun z L1 => (o B ρ L1).st ρ fun x L2 => (i B ρ L2).st ρ fun y L3 => (vwR B L3 y).st ρ fun k L3 => match putAt B L3 x k z with
  | some L4 => .next ρ L4
  | none => .bad

/-! ### places that change -/
def lstD : D → Option (List D)
  | .lst xs => some xs
  | _ => none
def seqS : D → Option (List D)
  | .lst xs => some xs
  | .tup xs => some xs
  | .scr xs => some xs
  | _ => none
/-- list(x), that may be changed -/
def eListM (a : SE) : SE := fun B ρ L => (a B ρ L).bind fun x L1 => (vwR B L1 x).bind fun p L1 => (ofOpt (seqS p) L1).bind fun xs L1 => .ok (.ref (B.length + L1.length)) (L1 ++ [.lst (xs.map .d)])
/-- {}, of nested tuples as keys -/
def eDctN : SE := fun B _ L => .ok (.ref (B.length + L.length)) (L ++ [.dcn [] []])
/-- a place of one's own that is a list -/
def lstAt (B L : Hs) : W → Option (Nat × List W)
  | .ref n => if n < B.length then none else match L[n - B.length]? with
    | some (.lst ws) => some (n - B.length, ws)
    | _ => none
  | _ => none
def eApp (o a : SE) : SE := fun B ρ L => (o B ρ L).bind fun x L1 => (guardR (lstAt B L1 x).isSome L1).bind fun _ L1 => (a B ρ L1).bind fun y L2 => match lstAt B L2 x with
  | some (n, ws) => if ws.length < sizeL then .ok (.d .non) (L2.set n (.lst (ws ++ [y]))) else .bad
  | none => .bad
def eExt (o a : SE) : SE := fun B ρ L => (o B ρ L).bind fun x L1 => (guardR (lstAt B L1 x).isSome L1).bind fun _ L1 => (a B ρ L1).bind fun y L2 => (vwR B L2 y).bind fun p L2 => (ofOpt (lstD p) L2).bind fun ys L2 => match lstAt B L2 x with
  | some (n, ws) => if ws.length + ys.length ≤ sizeL then .ok (.d .non) (L2.set n (.lst (ws ++ ys.map .d))) else .bad
  | none => .bad
def ePop (o : SE) : SE := fun B ρ L => (o B ρ L).bind fun x L1 => match lstAt B L1 x with
  | some (n, ws) => match ws[ws.length - 1]? with
    | some y => .ok y (L1.set n (.lst ws.dropLast))
    | none => .bad
  | none => .bad
/-! keys that are tuples, nested -/
mutual
def nkOk : D → Bool
  | .non => true
  | .bl _ => true
  | .int _ => true
  | .str _ => true
  | .tup xs => nkOks xs
  | _ => false
def nkOks : List D → Bool
  | [] => true
  | x :: xs => nkOk x && nkOks xs
end
def isNK : D → Bool
  | .tup xs => nkOks xs && decide (dep (.tup xs) ≤ 8)
  | _ => false
def nkIn (k : D) (ks : List D) : Bool := ks.any fun a => eqD a k
def nkKs (k : D) (ks : List D) : List D := if nkIn k ks = true then ks else ks ++ [k]
def nkVs {α : Type} (k : D) (x : α) (ks : List D) (ys : List α) : List α := if nkIn k ks = true then List.zipWith (fun a y => if eqD a k = true then x else y) ks ys else ys ++ [x]
/-- x in d, x not in d: d such a dict -/
def eInN (neg : Bool) (k d : SE) : SE := fun B ρ L => (k B ρ L).bind fun x L1 => (d B ρ L1).bind fun y L2 => (vwR B L2 x).bind fun p L2 => match y with
  | .ref n => match look B L2 n with
    | some (.dcn ks _) => if isNK p = true then .ok (.d (.bl (if neg = true then !nkIn p ks else nkIn p ks))) L2 else .bad
    | _ => .bad
  | _ => .bad
/-- o[k] = v -/
def putIn (B L : Hs) (w : W) (k : D) (v : W) : Option Hs := match w with
  | .ref n => if n < B.length then none else match L[n - B.length]? with
    | some (.lst ws) => match k with
      | .int i => match ixN ws.length i with
        | some j => some (L.set (n - B.length) (.lst (ws.set j v)))
        | none => none
      | _ => none
    | some (.dct ks ws) => if isKey k = true ∧ ks.length < sizeL then some (L.set (n - B.length) (.dct (putKs k ks) (putVs k v ks ws))) else none
    | some (.dcn ks ws) => if isNK k = true ∧ ks.length < sizeL then some (L.set (n - B.length) (.dcn (nkKs k ks) (nkVs k v ks ws))) else none
    | _ => none
  | _ => none
def gItem (o i : SE) : SG := fun w B ρ L => (o B ρ L).bind fun x L1 => (i B ρ L1).bind fun y L2 => (vwR B L2 y).bind fun k L2 => match putIn B L2 x k w with
  | some L3 => .ok ρ L3
  | none => .bad
/-- a, b, c, .. = x, y, z, ..: names -/
def setAll : List Nat → List W → Sl → Option Sl
  | [], [], ρ => some ρ
  | i :: is, w :: ws, ρ => setAll is ws (ρ.set i (some w))
  | _, _, _ => none
def sParN (is : List Nat) (a : SA) : SS := fun B ρ L => (a B ρ L).st ρ fun ws L1 => match setAll is ws ρ with
  | some ρ' => if ws.length ≤ sizeL then .next ρ' L1 else .bad
  | none => .bad
/-! ### more operators -/
def opRev : D → Option D
  | .tup xs => if rowy xs.reverse = false then some (.tup xs.reverse) else none
  | .lst xs => some (.lst xs.reverse)
  | _ => none
def opNeg : D → Option D
  | .int i => some (.int (-i))
  | _ => none
def opIsB : D → D → Option D
  | .bl a, .bl b => some (.bl (a == b))
  | _, _ => none
def allS : List D → Option (List (List Nat))
  | [] => some []
  | .str s :: r => match allS r with
    | some ss => some (s :: ss)
    | none => none
  | _ => none
def joinS (sep : List Nat) : List (List Nat) → List Nat
  | [] => []
  | [s] => s
  | s :: t :: r => s ++ (sep ++ joinS sep (t :: r))
def opJoin : D → D → Option D
  | .str a, .lst xs => match allS xs with
    | some ss => if (ss.map List.length).sum + ss.length * a.length ≤ sizeL then some (.str (joinS a ss)) else none
    | none => none
  | _, _ => none
def bSum : List D → Option D
  | [.lst xs] => match allI xs with
    | some is => some (.int is.sum)
    | none => none
  | _ => none
/-- a + b of lists, that may be changed -/
def eAddM (a b : SE) : SE := fun B ρ L => (a B ρ L).bind fun x L1 => (b B ρ L1).bind fun y L2 => (vwR B L2 x).bind fun p L2 => (vwR B L2 y).bind fun q L2 => (ofOpt (lstD p) L2).bind fun xs L2 => (ofOpt (lstD q) L2).bind fun ys L2 =>
  (guardR (decide (xs.length + ys.length ≤ sizeL)) L2).bind fun _ L2 => .ok (.ref (B.length + L2.length)) (L2 ++ [.lst ((xs ++ ys).map .d)])
/-! ### instances -/
def getF (f : List Nat) : List (List Nat × W) → Option W
  | [] => none
  | (g, w) :: r => if g = f then some w else getF f r
def putFs (f : List Nat) (w : W) : List (List Nat × W) → List (List Nat × W)
  | [] => [(f, w)]
  | (g, x) :: r => if g = f then (g, w) :: r else (g, x) :: putFs f w r
def insAt (B L : Hs) : W → Option (Nat × Nat × List (List Nat × W))
  | .ref n => match look B L n with
    | some (.ins c fs) => some (n, c, fs)
    | _ => none
  | _ => none
/-- o.f of an instance of the class c -/
def eFld (c : Nat) (f : List Nat) (o : SE) : SE := fun B ρ L => (o B ρ L).bind fun x L1 => (ofOpt (insAt B L1 x) L1).bind fun i L1 => (guardR (decide (i.2.1 = c)) L1).bind fun _ L1 => (ofOpt (getF f i.2.2) L1).bind fun w L1 => .ok w L1
/-- o.f = v -/
def sFld (c : Nat) (f : List Nat) (o v : SE) : SS := fun B ρ L => (v B ρ L).st ρ fun y L1 => (o B ρ L1).st ρ fun x L2 => (ofOpt (insAt B L2 x) L2).st ρ fun i L2 => (guardR (decide (i.2.1 = c ∧ B.length ≤ i.1 ∧ i.2.2.length < 1000)) L2).st ρ fun _ L2 =>
  .next ρ (L2.set (i.1 - B.length) (.ins c (putFs f y i.2.2)))
/-- o.m(..): np with self -/
def eMeth (c : Nat) (m : List Nat) (np : Nat) (F : Fn) (o : SE) (a : SA) : SE := fun B ρ L => (o B ρ L).bind fun x L1 => (ofOpt (insAt B L1 x) L1).bind fun i L1 => (guardR (decide (i.2.1 = c) && (getF m i.2.2).isNone) L1).bind fun _ L1 => (a B ρ L1).bind fun ws L2 =>
  (guardR (decide (ws.length + 1 = np)) L2).bind fun _ L2 => F (x :: ws) B L2
def nonW : W → Bool
  | .d .non => true
  | _ => false
/-- C(..): np with self -/
def eMake (c np : Nat) (F : Fn) (a : SA) : SE := fun B ρ L => (a B ρ L).bind fun ws L1 => (guardR (decide (ws.length + 1 = np)) L1).bind fun _ L1 => (F (.ref (B.length + L1.length) :: ws) B (L1 ++ [.ins c []])).bind fun z L2 => (guardR (nonW z) L2).bind fun _ L2 => .ok (.ref (B.length + L1.length)) L2
/-- a def that calls itself, at the end of its room -/
def badFn : Fn := fun _ _ _ => .bad
end Ev

set_option Elab.async false
set_option linter.all false
set_option maxRecDepth 100000
set_option maxHeartbeats 1000000
set_option autoImplicit false
/-! EvR: the plain semantics EvS over the hand layer: what a value, a place, the heap stand for; judgements; calls. -/
namespace Ev
open PySem PySem.Spec PyProof.Rows L2

structure Tb where
  cls : Nat → Addr
  fns : Nat → Addr
  P : Program
  w : World
/-! keys that are tuples, nested -/
mutual
def nk : D → Option NestedKey
  | .non => some .none
  | .bl b => some (.num (if b = true then 1 else 0))
  | .int i => some (.num i)
  | .str s => some (.text ⟨s.toArray⟩)
  | .tup xs => match nks xs with
    | some ks => some (.tup ks)
    | none => none
  | _ => none
def nks : List D → Option (List NestedKey)
  | [] => some []
  | x :: xs => match nk x, nks xs with
    | some k, some ks => some (k :: ks)
    | _, _ => none
end
abbrev NV := NestedKey × Addr × V
def NR (p : NV) (q : NestedKey × Addr × Value) : Prop := p.1 = q.1 ∧ p.2.1 = q.2.1 ∧ RelV p.2.2 q.2.2
/-- a dict with such keys: its object, with its entries -/
def DNp (P : Program) (w : World) (a : Addr) (kvs : List NV) (h : Heap) : Prop := kvs.length ≤ sizeLine ∧ (a == sysModules) = false ∧ ∃ xs : List (NestedKey × Addr × Value), Paired NR kvs xs ∧
  ∃ o es ep, h.get? a = some o ∧ o.ExactDict ∧ o.data = .dict es ep ∧ es.toList = xs.map (entryOfKey (nestedKind P w)) ∧ (xs.map (·.1)).Nodup
def DN (P : Program) (w : World) (a : Addr) (kvs : List NV) : HO := .ext (DNp P w a kvs)
/-- the text of an entry -/
def enS (e : Int × Value) : Str := match e.2 with
  | .str x _ => x
  | _ => Str.empty
def EnOk (P : Program) (w : World) (e : Int × Value) : Prop := ∃ x tk, e.2 = Value.str x tk ∧ e.1 = (strKind P w).hash x
/-- at a a set stands whose texts are those of ks -/
def SetX (P : Program) (w : World) (h : Heap) (a : Addr) (ks : List Str) : Prop :=
  ∃ o es ep t, h.get? a = some o ∧ o.ExactSet ∧ o.data = .set es ep t ∧ (∀ e ∈ es.toList, EnOk P w e) ∧ (es.toList.map enS).Nodup ∧ (∀ k, k ∈ ks ↔ k ∈ es.toList.map enS) ∧
    es.size < scanBound ∧ t.fits es.size = true ∧ Ris t.place.toList ∧ (w.params.followText "set-order" = true ∨ t.led = true)
/-- .. by its texts -/
def SXp (P : Program) (w : World) (a : Addr) (ss : List (List Nat)) (h : Heap) : Prop := SetX P w h a (ss.map fun x => (⟨x.toArray⟩ : Str))
structure Mem where
  m : Nat → Addr
  A : Hs
  H : Hp
  S : List Addr
def liveAt (A : Hs) (n : Nat) : Prop := ∃ o, A[n]? = some o ∧ o.live = true
/-- a is no place that may be changed -/
def NP (M : Mem) (a : Addr) : Prop := ∀ n, liveAt M.A n → M.m n ≠ a
/-- .. and no object in the making -/
def Sep (M : Mem) (a : Addr) : Prop := NP M a ∧ a ∉ M.S
def keyD : D → Option Key
  | .int i => some (.inl i)
  | .str s => some (.inr ⟨s.toArray⟩)
  | _ => none
/-- a list of the written part -/
def KL (K : PySem.W.Frag) (a : Addr) (xs : List V) : Prop := ∃ (o : Obj) (its : Array Value) (n : Nat), K.lookup a = some o ∧ o.cls = .type "list" ∧ o.dict = none ∧ o.data = .seq its n ∧ its.size ≤ sizeLine ∧ Vals xs its.toList
/-- at a an exception of the class at C stands, with these fields -/
def XAt (M : Mem) (C a : Addr) (gs : List (Str × V)) : Prop := Sep M a ∧ ((gs = [] ∧ M.H a = some (exo a C none)) ∨ ∃ d, Sep M d ∧ M.H a = some (exo a C (some d)) ∧ M.H d = some (exd d gs))
/-- a tuple of which it is known that it has no dict -/
def PlT (K : PySem.W.Frag) (H : Hp) (a : Addr) : Prop := (∃ (o : Obj) (vs : List V), H a = some (.frz o (.tup vs)) ∧ o.dict = none) ∨ ∃ o : Obj, K.lookup a = some o ∧ o.dict = none
def SqP (K : PySem.W.Frag) (H : Hp) (xs : List D) (a : Addr) (vs : List V) : Prop := SqT K H a vs ∧ (rowy xs = true → PlT K H a)
section
variable (K : PySem.W.Frag) (T : Tb)
mutual
def RV (M : Mem) : D → V → Prop
  | .non, v => v = .non
  | .bl b, v => v = .bl b
  | .int i, v => v = .int i
  | .str s, v => v = .str ⟨s.toArray⟩
  | .tup xs, v => ∃ a vs, v = .ref a ∧ SqP K M.H xs a vs ∧ RVs M xs vs
  | .lst xs, v => ∃ a vs, v = .ref a ∧ Sep M a ∧ M.H a = some (.lst vs) ∧ RVs M xs vs
  | .scr xs, v => ∃ a vs, v = .ref a ∧ ((Sep M a ∧ Rd M.H a (.lst vs)) ∨ KL K a vs) ∧ RVs M xs vs
  | .dct ks xs, v => ∃ a kvs, v = .ref a ∧ Sep M a ∧ M.H a = some (.dK kvs) ∧ ks.map keyD = kvs.map (fun p => some p.1) ∧ RVs M xs (kvs.map (·.2))
  | .set xs, v => ∃ a ss, v = .ref a ∧ Sep M a ∧ xs = ss.map .str ∧ M.H a = some (.ext (SXp T.P T.w a ss))
  | .obj c ns fs, v => ∃ a dx gs, v = .ref a ∧ Sep M a ∧ M.H a = some (.ins (T.cls c) dx gs) ∧ gs.map (·.1) = ns.map (fun p => (⟨p.toArray⟩ : Str)) ∧ RVs M fs (gs.map (·.2))
  | .dcn ks xs, v => ∃ a, ∃ kvs : List NV, v = .ref a ∧ Sep M a ∧ M.H a = some (DN T.P T.w a kvs) ∧ ks.all isNK = true ∧ ks.map nk = kvs.map (fun p => some p.1) ∧ RVs M ks (kvs.map fun p => V.ref p.2.1) ∧ RVs M xs (kvs.map (·.2.2))
  | .exn c ns fs, v => ∃ a gs, v = .ref a ∧ XAt M (T.cls c) a gs ∧ gs.map (·.1) = ns.map (fun p => (⟨p.toArray⟩ : Str)) ∧ RVs M fs (gs.map (·.2))
  | .fn i, v => v = .ref (T.fns i)
def RVs (M : Mem) : List D → List V → Prop
  | [], vs => vs = []
  | x :: xs, vs => ∃ v r, vs = v :: r ∧ RV M x v ∧ RVs M xs r
end
def RW (M : Mem) : W → V → Prop
  | .d x, v => RV K T M x v
  | .ref n, v => n < M.A.length ∧ v = .ref (M.m n)
def RWs (M : Mem) : List W → List V → Prop
  | [], vs => vs = []
  | x :: xs, vs => ∃ v r, vs = v :: r ∧ RW K T M x v ∧ RWs M xs r
def RO (M : Mem) (a : Addr) : Ob → Prop
  | .frz x => RV K T M x (.ref a)
  | .lst ws => ∃ vs, M.H a = some (.lst vs) ∧ RWs K T M ws vs
  | .dct ks ws => ∃ kvs, M.H a = some (.dK kvs) ∧ ks.map keyD = kvs.map (fun p => some p.1) ∧ RWs K T M ws (kvs.map (·.2))
  | .ins c fs => ∃ dx gs, M.H a = some (.ins (T.cls c) dx gs) ∧ gs.map (·.1) = fs.map (fun p => (⟨p.1.toArray⟩ : Str)) ∧ RWs K T M (fs.map (·.2)) (gs.map (·.2))
  | .dcn ks ws => ∃ kvs : List NV, M.H a = some (DN T.P T.w a kvs) ∧ ks.all isNK = true ∧ ks.map nk = kvs.map (fun p => some p.1) ∧ RVs K T M ks (kvs.map fun p => V.ref p.2.1) ∧ RWs K T M ws (kvs.map (·.2.2))
structure Rep (M : Mem) : Prop where
  inj : ∀ i j, liveAt M.A i → liveAt M.A j → M.m i = M.m j → i = j
  at_ : ∀ (n : Nat) (o : Ob), M.A[n]? = some o → RO K T M (M.m n) o
  sc : ∀ a ∈ M.S, (∃ o, M.H a = some o ∧ (∀ xs, o ≠ .tup xs) ∧ (∀ q u, o ≠ .frz q u)) ∧ ∀ n, liveAt M.A n → M.m n ≠ a
/-- a later moment: objects in the making may have begun -/
structure Ext0 (M M' : Mem) : Prop where
  len : M.A.length ≤ M'.A.length
  same : ∀ (n : Nat), n < M.A.length → M'.m n = M.m n
  fz : ∀ (n : Nat) (x : D), M.A[n]? = some (Ob.frz x) → M'.A[n]? = some (Ob.frz x)
  new : ∀ n, M.A.length ≤ n → liveAt M'.A n → M.H (M'.m n) = none
  keep : ∀ a o, M.H a = some o → Sep M a → M'.H a = some o
  there : ∀ a, M.H a ≠ none → M'.H a ≠ none
  scr : ∀ a, a ∈ M'.S → a ∈ M.S ∨ M.H a = none
/-- a later moment of the same run -/
structure Ext (M M' : Mem) : Prop extends Ext0 M M' where
  sq : M'.S = M.S
  ks : ∀ a, a ∈ M.S → M'.H a = M.H a
def RS (M : Mem) (ρ : Sl) (σ : L2.St) : Prop := ρ.length = σ.length ∧ ∀ (i : Nat) (w : W), ρ[i]? = some (some w) → ∃ v : V, σ[i]? = some (some v) ∧ RW K T M w v
end

section
variable {K : PySem.W.Frag} {T : Tb} {M M1 M2 M' : Mem}
theorem Ext0.refl (M : Mem) : Ext0 M M := ⟨Nat.le_refl _, fun _ _ => rfl, fun _ _ h => h, fun n h ⟨o, e, _⟩ => absurd (List.getElem?_eq_some_iff.mp e).1 (by omega), fun _ _ h _ => h, fun _ h => h, fun _ h => .inl h⟩
theorem Ext.refl (M : Mem) : Ext M M := ⟨Ext0.refl M, rfl, fun _ _ => rfl⟩
theorem Ext0.live (e : Ext0 M M') {n : Nat} (hn : n < M.A.length) (l : liveAt M'.A n) : liveAt M.A n := by
  cases q : M.A[n]? with
  | none => exact absurd (List.getElem?_eq_none_iff.mp q) (by omega)
  | some o =>
    refine ⟨o, q, ?_⟩
    cases o with
    | frz x =>
      obtain ⟨o', e1, e2⟩ := l
      rw [e.fz n x q] at e1
      cases e1
      exact e2
    | _ => rfl
theorem NP.ext (e : Ext0 M M') {a : Addr} (s : NP M a) (h : M.H a ≠ none) : NP M' a := fun n l q => by
  by_cases hn : n < M.A.length
  · rw [e.same n hn] at q
    exact s n (e.live hn l) q
  · have := e.new n (by omega) l
    rw [q] at this
    exact h this
theorem Sep.ext (e : Ext0 M M') {a : Addr} (s : Sep M a) (h : M.H a ≠ none) : Sep M' a := ⟨s.1.ext e h, fun z => (e.scr a z).elim s.2 h⟩
theorem Ext0.trans (e : Ext0 M M1) (f : Ext0 M1 M2) : Ext0 M M2 where
  len := Nat.le_trans e.len f.len
  same := fun n hn => (f.same n (Nat.lt_of_lt_of_le hn e.len)).trans (e.same n hn)
  fz := fun n x h => f.fz n x (e.fz n x h)
  new := fun n hn l => by
    by_cases h1 : n < M1.A.length
    · rw [f.same n h1]
      exact e.new n hn (f.live h1 l)
    · have h2 := f.new n (by omega) l
      cases q : M.H (M2.m n) with
      | none => rfl
      | some o => exact absurd h2 (e.there _ (by rw [q]; intro z; cases z))
  keep := fun a o h s => f.keep a o (e.keep a o h s) (s.ext e (by rw [h]; intro z; cases z))
  there := fun a h => f.there a (e.there a h)
  scr := fun a h => (f.scr a h).elim (e.scr a) fun z => .inr (by
    cases q : M.H a with
    | none => rfl
    | some o => exact absurd z (e.there a (by rw [q]; intro y; cases y)))
theorem Ext.trans (e : Ext M M1) (f : Ext M1 M2) : Ext M M2 := ⟨e.toExt0.trans f.toExt0, f.sq.trans e.sq, fun a h => (f.ks a (by rw [e.sq]; exact h)).trans (e.ks a h)⟩
theorem Rep.live_kind (R : Rep K T M) {n : Nat} (l : liveAt M.A n) : ∃ o, M.H (M.m n) = some o ∧ (∀ xs, o ≠ .tup xs) ∧ (∀ q u, o ≠ .frz q u) := by
  obtain ⟨o, e, h⟩ := l
  have r := R.at_ n o e
  cases o with
  | frz x => cases h
  | lst ws => obtain ⟨vs, e1, _⟩ := r; exact ⟨_, e1, (fun _ z => by cases z), (fun _ _ z => by cases z)⟩
  | dct ks ws => obtain ⟨vs, e1, _⟩ := r; exact ⟨_, e1, (fun _ z => by cases z), (fun _ _ z => by cases z)⟩
  | ins c fs => obtain ⟨dx, gs, e1, _⟩ := r; exact ⟨_, e1, (fun _ z => by cases z), (fun _ _ z => by cases z)⟩
  | dcn ks ws => obtain ⟨kvs, e1, _⟩ := r; exact ⟨_, e1, (fun _ z => by unfold DN at z; cases z), (fun _ _ z => by unfold DN at z; cases z)⟩
theorem rd_tup {H : Hp} {a : Addr} {xs : List V} (h : Rd H a (.tup xs)) {o : HO} (e : H a = some o) (h1 : ∀ xs, o ≠ .tup xs) (h2 : ∀ q u, o ≠ .frz q u) : False := by
  rcases h with h | ⟨u, h⟩
  · rw [h] at e; cases e; exact h1 xs rfl
  · rw [h] at e; cases e; exact h2 _ _ rfl
theorem Rep.sep_tup (R : Rep K T M) {a : Addr} {xs : List V} (h : Rd M.H a (.tup xs)) : Sep M a := ⟨fun n l q => by
  obtain ⟨o, e, h1, h2⟩ := R.live_kind l
  rw [q] at e
  exact rd_tup h e h1 h2, fun hs => by
  obtain ⟨⟨o, e, h1, h2⟩, _⟩ := R.sc a hs
  exact rd_tup h e h1 h2⟩
theorem Ext0.rd (e : Ext0 M M') {a : Addr} {u : HO} (h : Rd M.H a u) (s : Sep M a) : Rd M'.H a u := by
  rcases h with h | ⟨o, h⟩
  · exact .inl (e.keep _ _ h s)
  · exact .inr ⟨o, e.keep _ _ h s⟩
theorem rd_ne {H : Hp} {a : Addr} {u : HO} (h : Rd H a u) : H a ≠ none := by
  rcases h with h | ⟨o, h⟩ <;> (rw [h]; intro z; cases z)
theorem Ext0.sqT (e : Ext0 M M') (R : Rep K T M) {a : Addr} {xs : List V} (h : SqT K M.H a xs) : SqT K M'.H a xs := by
  rcases h with h | h
  · exact .inl (e.rd h (R.sep_tup h))
  · exact .inr h
theorem Ext0.plT (e : Ext0 M M') (R : Rep K T M) {a : Addr} (h : PlT K M.H a) : PlT K M'.H a := by
  rcases h with ⟨o, vs, h, hd⟩ | h
  · exact .inl ⟨o, vs, e.keep _ _ h (R.sep_tup (.inr ⟨o, h⟩)), hd⟩
  · exact .inr h
theorem Ext0.sqP (e : Ext0 M M') (R : Rep K T M) {ds : List D} {a : Addr} {xs : List V} (h : SqP K M.H ds a xs) : SqP K M'.H ds a xs := ⟨e.sqT R h.1, fun r => e.plT R (h.2 r)⟩
theorem Ext0.xat (e : Ext0 M M') {C a : Addr} {gs : List (Str × V)} (h : XAt M C a gs) : XAt M' C a gs := by
  obtain ⟨s, h⟩ := h
  rcases h with ⟨h1, h2⟩ | ⟨d, sd, h2, h3⟩
  · exact ⟨s.ext e (by rw [h2]; intro z; cases z), .inl ⟨h1, e.keep _ _ h2 s⟩⟩
  · exact ⟨s.ext e (by rw [h2]; intro z; cases z), .inr ⟨d, sd.ext e (by rw [h3]; intro z; cases z), e.keep _ _ h2 s, e.keep _ _ h3 sd⟩⟩
mutual
theorem RV.ext0 (R : Rep K T M) (e : Ext0 M M') : ∀ (d : D) (v : V), RV K T M d v → RV K T M' d v
  | .non, v, h => h
  | .bl b, v, h => h
  | .int i, v, h => h
  | .str s, v, h => h
  | .tup xs, v, h => by
    obtain ⟨a, vs, q, s, r⟩ := h
    exact ⟨a, vs, q, e.sqP R s, RVs.ext0 R e xs vs r⟩
  | .lst xs, v, h => by
    obtain ⟨a, vs, q, s, l, r⟩ := h
    exact ⟨a, vs, q, s.ext e (by rw [l]; intro z; cases z), e.keep _ _ l s, RVs.ext0 R e xs vs r⟩
  | .scr xs, v, h => by
    obtain ⟨a, vs, q, sl, r⟩ := h
    refine ⟨a, vs, q, ?_, RVs.ext0 R e xs vs r⟩
    rcases sl with ⟨s, l⟩ | k
    · exact .inl ⟨s.ext e (rd_ne l), e.rd l s⟩
    · exact .inr k
  | .dct ks xs, v, h => by
    obtain ⟨a, kvs, q, s, l, k, r⟩ := h
    exact ⟨a, kvs, q, s.ext e (by rw [l]; intro z; cases z), e.keep _ _ l s, k, RVs.ext0 R e xs _ r⟩
  | .set xs, v, h => by
    obtain ⟨a, ss, q, s, k, l⟩ := h
    exact ⟨a, ss, q, s.ext e (by rw [l]; intro z; cases z), k, e.keep _ _ l s⟩
  | .obj c ns fs, v, h => by
    obtain ⟨a, dx, gs, q, s, l, k, r⟩ := h
    exact ⟨a, dx, gs, q, s.ext e (by rw [l]; intro z; cases z), e.keep _ _ l s, k, RVs.ext0 R e fs _ r⟩
  | .dcn ks xs, v, h => by
    obtain ⟨a, kvs, q, s, l, k1, k2, r1, r2⟩ := h
    exact ⟨a, kvs, q, s.ext e (by rw [l]; intro z; cases z), e.keep _ _ l s, k1, k2, RVs.ext0 R e ks _ r1, RVs.ext0 R e xs _ r2⟩
  | .exn c ns fs, v, h => by
    obtain ⟨a, gs, q, x, k, r⟩ := h
    exact ⟨a, gs, q, e.xat x, k, RVs.ext0 R e fs _ r⟩
  | .fn i, v, h => h
theorem RVs.ext0 (R : Rep K T M) (e : Ext0 M M') : ∀ (ds : List D) (vs : List V), RVs K T M ds vs → RVs K T M' ds vs
  | [], vs, h => h
  | x :: xs, vs, h => by
    obtain ⟨v, r, q, h1, h2⟩ := h
    exact ⟨v, r, q, RV.ext0 R e x v h1, RVs.ext0 R e xs r h2⟩
end
theorem RW.ext0 (R : Rep K T M) (e : Ext0 M M') : ∀ {w : W} {v : V}, RW K T M w v → RW K T M' w v
  | .d x, v, h => RV.ext0 R e x v h
  | .ref n, v, h => ⟨Nat.lt_of_lt_of_le h.1 e.len, by rw [e.same n h.1]; exact h.2⟩
theorem RWs.ext0 (R : Rep K T M) (e : Ext0 M M') : ∀ {ws : List W} {vs : List V}, RWs K T M ws vs → RWs K T M' ws vs
  | [], vs, h => h
  | x :: xs, vs, h => by
    obtain ⟨v, r, q, h1, h2⟩ := h
    exact ⟨v, r, q, h1.ext0 R e, RWs.ext0 R e h2⟩
theorem RS.ext0 (R : Rep K T M) (e : Ext0 M M') {ρ : Sl} {σ : L2.St} (h : RS K T M ρ σ) : RS K T M' ρ σ :=
  ⟨h.1, fun i w q => let ⟨v, e1, r⟩ := h.2 i w q; ⟨v, e1, r.ext0 R e⟩⟩
theorem RV.ext (R : Rep K T M) (e : Ext M M') (d : D) (v : V) (h : RV K T M d v) : RV K T M' d v := RV.ext0 R e.toExt0 d v h
theorem RVs.ext (R : Rep K T M) (e : Ext M M') (ds : List D) (vs : List V) (h : RVs K T M ds vs) : RVs K T M' ds vs := RVs.ext0 R e.toExt0 ds vs h
theorem RW.ext (R : Rep K T M) (e : Ext M M') {w : W} {v : V} (h : RW K T M w v) : RW K T M' w v := h.ext0 R e.toExt0
theorem RWs.ext (R : Rep K T M) (e : Ext M M') {ws : List W} {vs : List V} (h : RWs K T M ws vs) : RWs K T M' ws vs := h.ext0 R e.toExt0
theorem RS.ext (R : Rep K T M) (e : Ext M M') {ρ : Sl} {σ : L2.St} (h : RS K T M ρ σ) : RS K T M' ρ σ := h.ext0 R e.toExt0
theorem RVs.length : ∀ {ds : List D} {vs : List V}, RVs K T M ds vs → ds.length = vs.length
  | [], vs, h => by rw [show vs = [] from h]; rfl
  | x :: xs, vs, h => by
    obtain ⟨v, r, q, _, h2⟩ := h
    rw [q, List.length_cons, List.length_cons, RVs.length h2]
theorem RWs.length : ∀ {ds : List W} {vs : List V}, RWs K T M ds vs → ds.length = vs.length
  | [], vs, h => by rw [show vs = [] from h]; rfl
  | x :: xs, vs, h => by
    obtain ⟨v, r, q, _, h2⟩ := h
    rw [q, List.length_cons, List.length_cons, RWs.length h2]
theorem RVs.get : ∀ {ds : List D} {vs : List V} {i : Nat} {d : D}, RVs K T M ds vs → ds[i]? = some d → ∃ v, vs[i]? = some v ∧ RV K T M d v
  | [], vs, _, _, h, e => by simp at e
  | x :: xs, vs, 0, d, h, e => by
    obtain ⟨v, r, rfl, h1, h2⟩ := h
    simp at e; subst e
    exact ⟨v, rfl, h1⟩
  | x :: xs, vs, i + 1, d, h, e => by
    obtain ⟨v, r, rfl, h1, h2⟩ := h
    obtain ⟨u, e1, r1⟩ := RVs.get (i := i) (d := d) h2 (by simpa using e)
    exact ⟨u, by simpa using e1, r1⟩
theorem RVs.get' : ∀ {ds : List D} {vs : List V} {i : Nat} {v : V}, RVs K T M ds vs → vs[i]? = some v → ∃ d, ds[i]? = some d ∧ RV K T M d v := fun {ds vs i v} h e => by
  have hl := h.length
  have hi : i < ds.length := by rw [hl]; exact (List.getElem?_eq_some_iff.mp e).1
  obtain ⟨u, e1, r1⟩ := h.get (List.getElem?_eq_getElem hi)
  rw [e] at e1; cases e1
  exact ⟨_, List.getElem?_eq_getElem hi, r1⟩
theorem RVs.append : ∀ {ds es : List D} {vs us : List V}, RVs K T M ds vs → RVs K T M es us → RVs K T M (ds ++ es) (vs ++ us)
  | [], es, vs, us, h, h' => by rw [show vs = [] from h]; exact h'
  | x :: xs, es, vs, us, h, h' => by
    obtain ⟨v, r, rfl, h1, h2⟩ := h
    exact ⟨v, r ++ us, rfl, h1, RVs.append h2 h'⟩
theorem RVs.drop : ∀ (n : Nat) {ds : List D} {vs : List V}, RVs K T M ds vs → RVs K T M (ds.drop n) (vs.drop n)
  | 0, ds, vs, h => h
  | n + 1, [], vs, h => by rw [show vs = [] from h]; exact rfl
  | n + 1, x :: xs, vs, h => by
    obtain ⟨v, r, rfl, h1, h2⟩ := h
    exact RVs.drop n h2
theorem RVs.take : ∀ (n : Nat) {ds : List D} {vs : List V}, RVs K T M ds vs → RVs K T M (ds.take n) (vs.take n)
  | 0, ds, vs, h => by rw [List.take_zero, List.take_zero]; exact rfl
  | n + 1, [], vs, h => by rw [show vs = [] from h]; exact rfl
  | n + 1, x :: xs, vs, h => by
    obtain ⟨v, r, rfl, h1, h2⟩ := h
    exact ⟨v, r.take n, rfl, h1, RVs.take n h2⟩
theorem RWs.ofD : ∀ {ds : List D} {vs : List V}, RVs K T M ds vs → RWs K T M (ds.map .d) vs
  | [], vs, h => h
  | x :: xs, vs, h => by
    obtain ⟨v, r, rfl, h1, h2⟩ := h
    exact ⟨v, r, rfl, h1, RWs.ofD h2⟩
theorem RWs.toD : ∀ {ws : List W} {ds : List D} {vs : List V}, allD ws = some ds → RWs K T M ws vs → RVs K T M ds vs
  | [], ds, vs, e, h => by
    cases e
    exact h
  | .d x :: xs, ds, vs, e, h => by
    obtain ⟨v, r, rfl, h1, h2⟩ := h
    unfold allD at e
    cases q : allD xs with
    | none => rw [q] at e; cases e
    | some ys =>
      rw [q] at e
      cases e
      exact ⟨v, r, rfl, h1, RWs.toD q h2⟩
  | .ref _ :: xs, ds, vs, e, h => by cases e
theorem RWs.append : ∀ {ds es : List W} {vs us : List V}, RWs K T M ds vs → RWs K T M es us → RWs K T M (ds ++ es) (vs ++ us)
  | [], es, vs, us, h, h' => by rw [show vs = [] from h]; exact h'
  | x :: xs, es, vs, us, h, h' => by
    obtain ⟨v, r, rfl, h1, h2⟩ := h
    exact ⟨v, r ++ us, rfl, h1, RWs.append h2 h'⟩
end

/-! ### the wish behind a run -/
section
variable (K : PySem.W.Frag) (T : Tb)
def post {α : Type} (M : Mem) (B : Hs) (r : Res α) (Q : α → Hs → Mem → Prop) : Prop := match r with
  | .ok a L' => ∀ M', M'.A = B ++ L' → Rep K T M' → Ext M M' → Q a L' M'
  | .exc _ _ _ => False
  | .bad => False
/-- at the point: a heap that is told, slots that are told -/
structure Pt (M : Mem) (B L : Hs) (ρ : Sl) (σ : L2.St) (H : Hp) : Prop where
  eH : M.H = H
  eA : M.A = B ++ L
  rep : Rep K T M
  rs : RS K T M ρ σ
def rE (f : SE) : TE := fun σ H Q => ∃ M B L ρ, Pt K T M B L ρ σ H ∧ post K T M B (f B ρ L) fun w _ M' => ∀ v, RW K T M' w v → Q v M'.H
def rT (f : ST) : TT := fun σ H Q => ∃ M B L ρ, Pt K T M B L ρ σ H ∧ post K T M B (f B ρ L) fun k _ M' => Q k M'.H
def rA (f : SA) : TA := fun σ H Q => ∃ M B L ρ, Pt K T M B L ρ σ H ∧ post K T M B (f B ρ L) fun ws _ M' => ∀ vs, RWs K T M' ws vs → Q vs M'.H
def postS (M : Mem) (B : Hs) (r : SR) (Dn : Ends) : Prop := match r with
  | .next ρ' L' => ∀ M' σ', M'.A = B ++ L' → Rep K T M' → Ext M M' → RS K T M' ρ' σ' → Dn.nx σ' M'.H
  | .brk ρ' L' => ∀ M' σ', M'.A = B ++ L' → Rep K T M' → Ext M M' → RS K T M' ρ' σ' → Dn.bk σ' M'.H
  | .cnt ρ' L' => ∀ M' σ', M'.A = B ++ L' → Rep K T M' → Ext M M' → RS K T M' ρ' σ' → Dn.ct σ' M'.H
  | .ret w L' => ∀ M' v, M'.A = B ++ L' → Rep K T M' → Ext M M' → RW K T M' w v → Dn.rt v M'.H
  | .exc _ _ _ _ => False
  | .bad => False
def rS (f : SS) : TS := fun Dn σ H => ∃ M B L ρ, Pt K T M B L ρ σ H ∧ postS K T M B (f B ρ L) Dn
end
section
variable {K : PySem.W.Frag} {T : Tb} {M M1 : Mem} {B L : Hs}
theorem post.later {α : Type} {r : Res α} {Q : α → Hs → Mem → Prop} (h : post K T M B r Q) (e : Ext M M1) : post K T M1 B r Q := by
  cases r with
  | ok a L' => exact fun M' eA R x => h M' eA R (e.trans x)
  | exc _ _ _ => exact h
  | bad => exact h
theorem post.mono {α : Type} {r : Res α} {Q Q' : α → Hs → Mem → Prop} (h : post K T M B r Q) (f : ∀ a L' M', M'.A = B ++ L' → Rep K T M' → Ext M M' → Q a L' M' → Q' a L' M') : post K T M B r Q' := by
  cases r with
  | ok a L' => exact fun M' eA R x => f a L' M' eA R x (h M' eA R x)
  | exc _ _ _ => exact h
  | bad => exact h
theorem post.bind {α β : Type} {r : Res α} {k : α → Hs → Res β} {Q : β → Hs → Mem → Prop} (h : post K T M B (r.bind k) Q) : post K T M B r fun a L1 M1 => post K T M1 B (k a L1) Q := by
  cases r with
  | ok a L' => exact fun M' eA R x => post.later h x
  | exc _ _ _ => exact h
  | bad => exact h
theorem postS.later {r : SR} {Dn : Ends} (h : postS K T M B r Dn) (e : Ext M M1) : postS K T M1 B r Dn := by
  cases r with
  | next ρ' L' => exact fun M' σ' eA R x rs => h M' σ' eA R (e.trans x) rs
  | brk ρ' L' => exact fun M' σ' eA R x rs => h M' σ' eA R (e.trans x) rs
  | cnt ρ' L' => exact fun M' σ' eA R x rs => h M' σ' eA R (e.trans x) rs
  | ret w L' => exact fun M' v eA R x rs => h M' v eA R (e.trans x) rs
  | exc _ _ _ _ => exact h
  | bad => exact h
theorem post.st {α : Type} {r : Res α} {ρ : Sl} {k : α → Hs → SR} {Dn : Ends} (h : postS K T M B (r.st ρ k) Dn) : post K T M B r fun a L1 M1 => postS K T M1 B (k a L1) Dn := by
  cases r with
  | ok a L' => exact fun M' eA R x => postS.later h x
  | exc _ _ _ => exact h
  | bad => exact h
theorem Pt.next {ρ : Sl} {σ : L2.St} {H : Hp} {L1 : Hs} (p : Pt K T M B L ρ σ H) (eA : M1.A = B ++ L1) (R : Rep K T M1) (e : Ext M M1) : Pt K T M1 B L1 ρ σ M1.H := ⟨rfl, eA, R, p.rs.ext p.rep e⟩
end

/-! ### judgements -/
abbrev JE (X : Cx) (T : Tb) (e : Expr) (f : SE) : Prop := PE X e (rE X.K T f)
abbrev JT (X : Cx) (T : Tb) (e : Expr) (f : ST) : Prop := PT X e (rT X.K T f)
abbrev JW (X : Cx) (T : Tb) (e : Expr) (f : ST) : Prop := PW X e (rT X.K T f)
abbrev JA (X : Cx) (T : Tb) (es : List Expr) (f : SA) : Prop := PA X es (rA X.K T f)
abbrev JS (X : Cx) (T : Tb) (st : Stmt) (f : SS) : Prop := PS X st (rS X.K T f)
abbrev JSs (X : Cx) (T : Tb) (sts : List Stmt) (f : SS) : Prop := PSs X sts (rS X.K T f)
/-- weaker readings -/
theorem PE.weak {X : Cx} {e : Expr} {t u : TE} (h : PE X e t) (w : ∀ σ H Q, u σ H Q → t σ H Q) : PE X e u := ⟨fun pins s σ H Q I q => h.run pins s σ H Q I (w σ H Q q)⟩
theorem PT.weak {X : Cx} {e : Expr} {t u : TT} (h : PT X e t) (w : ∀ σ H Q, u σ H Q → t σ H Q) : PT X e u := ⟨fun pins s σ H Q I q => h.run pins s σ H Q I (w σ H Q q)⟩
theorem PW.weak {X : Cx} {e : Expr} {t u : TT} (h : PW X e t) (w : ∀ σ H Q, u σ H Q → t σ H Q) : PW X e u := ⟨fun wh pins s σ H Q I q => h.run wh pins s σ H Q I (w σ H Q q)⟩
theorem PA.weak {X : Cx} {es : List Expr} {t u : TA} (h : PA X es t) (w : ∀ σ H Q, u σ H Q → t σ H Q) : PA X es u := ⟨fun pos pins s σ H Q I q => h.run pos pins s σ H Q I (w σ H Q q)⟩
theorem PS.weak {X : Cx} {e : Stmt} {t u : TS} (h : PS X e t) (w : ∀ D σ H, u D σ H → t D σ H) : PS X e u := ⟨fun pins s σ H D I q => h.run pins s σ H D I (w D σ H q)⟩
theorem PSs.weak {X : Cx} {e : List Stmt} {t u : TS} (h : PSs X e t) (w : ∀ D σ H, u D σ H → t D σ H) : PSs X e u := ⟨fun pins s σ H D I q => h.run pins s σ H D I (w D σ H q)⟩

section
variable {X : Cx} {T : Tb}
/-- an expression's reading from its post -/
theorem rE.of {K : PySem.W.Frag} {f : SE} {σ : L2.St} {H : Hp} {Q : VK} {M : Mem} {B L : Hs} {ρ : Sl} (p : Pt K T M B L ρ σ H) {R : W → Hs → Mem → Prop} (h : post K T M B (f B ρ L) R) (k : ∀ w L' M', M'.A = B ++ L' → Rep K T M' → Ext M M' → R w L' M' → ∀ v, RW K T M' w v → Q v M'.H) : rE K T f σ H Q :=
  ⟨M, B, L, ρ, p, h.mono fun w L' M' eA Rp x r v rv => k w L' M' eA Rp x r v rv⟩
theorem je_var {i : Nat} {x : Str} {pos : Pos} (hN : X.N[i]? = some x := by rfl) (hv : Vis X.env.scope x := by first | exact Or.inl rfl | exact Or.inr (Or.inl rfl) | exact Or.inr (Or.inr rfl)) (hd : (x == ("__debug__" : Str)) = false := by decide)
    (hcd : (x == ("__classdict__" : Str)) = false := by decide) : JE X T (.Name x pos) (eVar i) := by
  refine PE.weak (pe_var hN hv hd hcd) fun σ H Q h => ?_
  obtain ⟨M, B, L, ρ, p, h⟩ := h
  unfold eVar at h
  split at h
  · rename_i w e
    obtain ⟨v, e1, r⟩ := p.rs.2 i w e
    refine ⟨v, e1, ?_⟩
    have := h M p.eA p.rep (Ext.refl M) v r
    rw [p.eH] at this
    exact this
  · exact h.elim
theorem je_c {e : Expr} {v : V} {d : D} (h : PE X e (tC v)) (r : ∀ M, Rep X.K T M → RV X.K T M d v) : JE X T e (eC d) := by
  refine PE.weak h fun σ H Q h => ?_
  obtain ⟨M, B, L, ρ, p, h⟩ := h
  have := h M p.eA p.rep (Ext.refl M) v (r M p.rep)
  rw [p.eH] at this
  exact this
theorem je_int {i : Int} {j pos} : JE X T (.Constant (.int i) j pos) (eC (.int i)) := je_c pe_int fun _ _ => rfl
theorem je_bl {b : Bool} {j pos} : JE X T (.Constant (.bool b) j pos) (eC (.bl b)) := je_c pe_bl fun _ _ => rfl
theorem je_non {j pos} : JE X T (.Constant .none j pos) (eC .non) := je_c pe_non fun _ _ => rfl
theorem je_str {x : Str} {s : List Nat} {j pos} (hs : x = ⟨s.toArray⟩ := by decide) : JE X T (.Constant (.str x) j pos) (eC (.str s)) := je_c pe_str fun _ _ => by rw [hs]; exact rfl
end
end Ev

set_option Elab.async false
set_option linter.all false
set_option maxRecDepth 100000
set_option maxHeartbeats 1000000
set_option autoImplicit false
/-! EvC: views, frozen places, calls of defs, statements, loops. -/
namespace Ev
open PySem PySem.Spec PyProof.Rows L2

/-! ### the data that a value is at a moment -/
def DV (K : PySem.W.Frag) (T : Tb) (M : Mem) (p : D) (x : V) : Prop := RV K T M p x ∨ (∃ xs a vs, p = .lst xs ∧ x = .ref a ∧ M.H a = some (.lst vs) ∧ RVs K T M xs vs) ∨
  (∃ ks xs a kvs, p = .dct ks xs ∧ x = .ref a ∧ M.H a = some (.dK kvs) ∧ ks.map keyD = kvs.map (fun p => some p.1) ∧ RVs K T M xs (kvs.map (·.2)))
def DVs (K : PySem.W.Frag) (T : Tb) (M : Mem) : List D → List V → Prop
  | [], vs => vs = []
  | x :: xs, vs => ∃ v r, vs = v :: r ∧ DV K T M x v ∧ DVs K T M xs r
section
variable {K : PySem.W.Frag} {T : Tb} {M M1 M2 M' : Mem} {B L : Hs}
theorem RV.dv {p : D} {x : V} (h : RV K T M p x) : DV K T M p x := .inl h
theorem vw_dv (R : Rep K T M) (eA : M.A = B ++ L) {w : W} {v : V} {p : D} (h : vw B L w = some p) (r : RW K T M w v) : DV K T M p v := by
  cases w with
  | d x =>
    have e : x = p := Option.some.inj h
    subst e
    exact .inl r
  | ref n =>
    obtain ⟨hn, rfl⟩ := r
    unfold vw look at h
    rw [← eA] at h
    dsimp only at h
    split at h
    · rename_i x e
      have q := R.at_ n _ e
      cases h
      exact .inl q
    · rename_i ws e
      obtain ⟨vs, q, rw⟩ := R.at_ n _ e
      cases ea : allD ws with
      | none => rw [ea] at h; cases h
      | some xs =>
        rw [ea] at h
        cases h
        exact .inr (.inl ⟨xs, _, vs, rfl, rfl, q, RWs.toD ea rw⟩)
    · rename_i ks ws e
      obtain ⟨kvs, q, kk, rw⟩ := R.at_ n _ e
      cases ea : allD ws with
      | none => rw [ea] at h; cases h
      | some xs =>
        rw [ea] at h
        cases h
        exact .inr (.inr ⟨ks, xs, _, kvs, rfl, rfl, q, kk, RWs.toD ea rw⟩)
    · cases h
/-- a frozen place -/
theorem sep_of (R : Rep K T M) {n : Nat} {x : D} {A' : Hs} (hA : A' = M.A.set n (.frz x)) (hl : liveAt M.A n) : Sep { M with A := A' } (M.m n) := ⟨fun k l q => by
  have lk : liveAt M.A k ∧ k ≠ n := by
    obtain ⟨o, e, h⟩ := l
    rw [hA] at e
    by_cases hk : n = k
    · subst hk
      rw [List.getElem?_set_self' ] at e
      cases z : M.A[n]? with
      | none => rw [z] at e; cases e
      | some o' => rw [z] at e; cases e; cases h
    · rw [List.getElem?_set_ne hk] at e
      exact ⟨⟨o, e, h⟩, fun z => hk z.symm⟩
  exact lk.2 (R.inj k n lk.1 hl q), fun hs => (R.sc _ hs).2 n hl rfl⟩
theorem sep_less {A' : Hs} (hA : ∀ n, liveAt A' n → liveAt M.A n) {a : Addr} (s : Sep M a) : Sep { M with A := A' } a := ⟨fun n l q => s.1 n (hA n l) q, s.2⟩
mutual
theorem RV.less {A' : Hs} {H : Hp} {m : Nat → Addr} (hA : ∀ n, liveAt A' n → liveAt M.A n) : ∀ (d : D) (v : V), RV K T M d v → RV K T { M with A := A' } d v
  | .non, v, h => h
  | .bl b, v, h => h
  | .int i, v, h => h
  | .str s, v, h => h
  | .tup xs, v, h => by
    obtain ⟨a, vs, q, s, r⟩ := h
    exact ⟨a, vs, q, s, RVs.less (H := H) (m := m) hA xs vs r⟩
  | .lst xs, v, h => by
    obtain ⟨a, vs, q, s, l, r⟩ := h
    exact ⟨a, vs, q, sep_less hA s, l, RVs.less (H := H) (m := m) hA xs vs r⟩
  | .scr xs, v, h => by
    obtain ⟨a, vs, q, s, r⟩ := h
    refine ⟨a, vs, q, ?_, RVs.less (H := H) (m := m) hA xs vs r⟩
    rcases s with ⟨s, l⟩ | k
    · exact .inl ⟨sep_less hA s, l⟩
    · exact .inr k
  | .dct ks xs, v, h => by
    obtain ⟨a, kvs, q, s, l, k, r⟩ := h
    exact ⟨a, kvs, q, sep_less hA s, l, k, RVs.less (H := H) (m := m) hA xs _ r⟩
  | .set xs, v, h => by
    obtain ⟨a, ss, q, s, k, l⟩ := h
    exact ⟨a, ss, q, sep_less hA s, k, l⟩
  | .obj c ns fs, v, h => by
    obtain ⟨a, dx, gs, q, s, l, k, r⟩ := h
    exact ⟨a, dx, gs, q, sep_less hA s, l, k, RVs.less (H := H) (m := m) hA fs _ r⟩
  | .dcn ks xs, v, h => by
    obtain ⟨a, kvs, q, s, l, k1, k2, r1, r2⟩ := h
    exact ⟨a, kvs, q, sep_less hA s, l, k1, k2, RVs.less (H := H) (m := m) hA ks _ r1, RVs.less (H := H) (m := m) hA xs _ r2⟩
  | .exn c ns fs, v, h => by
    obtain ⟨a, gs, q, ⟨s, x⟩, k, r⟩ := h
    refine ⟨a, gs, q, ⟨sep_less hA s, ?_⟩, k, RVs.less (H := H) (m := m) hA fs _ r⟩
    rcases x with x | ⟨d, sd, h2, h3⟩
    · exact .inl x
    · exact .inr ⟨d, sep_less hA sd, h2, h3⟩
  | .fn i, v, h => h
theorem RVs.less {A' : Hs} {H : Hp} {m : Nat → Addr} (hA : ∀ n, liveAt A' n → liveAt M.A n) : ∀ (ds : List D) (vs : List V), RVs K T M ds vs → RVs K T { M with A := A' } ds vs
  | [], vs, h => h
  | x :: xs, vs, h => by
    obtain ⟨v, r, q, h1, h2⟩ := h
    exact ⟨v, r, q, RV.less (H := H) (m := m) hA x v h1, RVs.less (H := H) (m := m) hA xs r h2⟩
end
theorem live_set {A : Hs} {n k : Nat} {x : D} (l : liveAt (A.set n (.frz x)) k) : liveAt A k := by
  obtain ⟨o, e, h⟩ := l
  by_cases hk : n = k
  · subst hk
    rw [List.getElem?_set_self'] at e
    cases z : A[n]? with
    | none => rw [z] at e; cases e
    | some o' => rw [z] at e; cases e; cases h
  · rw [List.getElem?_set_ne hk] at e
    exact ⟨o, e, h⟩
theorem RW.set {n : Nat} {x : D} : ∀ {w : W} {v : V}, RW K T M w v → RW K T { M with A := M.A.set n (.frz x) } w v
  | .d y, v, h => RV.less (H := M.H) (m := M.m) (fun _ l => live_set l) y v h
  | .ref k, v, h => ⟨by rw [List.length_set]; exact h.1, h.2⟩
theorem RWs.set {n : Nat} {x : D} : ∀ {ws : List W} {vs : List V}, RWs K T M ws vs → RWs K T { M with A := M.A.set n (.frz x) } ws vs
  | [], vs, h => h
  | w :: ws, vs, h => by
    obtain ⟨v, r, q, h1, h2⟩ := h
    exact ⟨v, r, q, h1.set, RWs.set h2⟩
/-- freezing -/
theorem freeze (R : Rep K T M) {n : Nat} {x : D} (hl : liveAt M.A n) (hx : RV K T { M with A := M.A.set n (.frz x) } x (.ref (M.m n))) : Rep K T { M with A := M.A.set n (.frz x) } ∧ Ext M { M with A := M.A.set n (.frz x) } := by
  have hn : n < M.A.length := let ⟨o, e, _⟩ := hl; (List.getElem?_eq_some_iff.mp e).1
  refine ⟨⟨fun i j li lj q => R.inj i j (live_set li) (live_set lj) q, fun k o e => ?_, fun a ha => ⟨(R.sc a ha).1, fun k l => (R.sc a ha).2 k (live_set l)⟩⟩, ⟨⟨by rw [List.length_set]; exact Nat.le_refl _, fun _ _ => rfl, fun k y e => ?_, fun k hk l => ?_, fun _ _ h _ => h, fun _ h => h, fun _ h => .inl h⟩, rfl, fun _ _ => rfl⟩⟩
  · have e' : (M.A.set n (.frz x))[k]? = some o := e
    by_cases hk : n = k
    · subst hk
      rw [List.getElem?_set_self hn] at e'
      cases e'
      exact hx
    · rw [List.getElem?_set_ne hk] at e'
      have r := R.at_ k o e'
      cases o with
      | frz y => exact RV.less (H := M.H) (m := M.m) (fun _ l => live_set l) y _ r
      | lst ws => obtain ⟨vs, h1, h2⟩ := r; exact ⟨vs, h1, h2.set⟩
      | dct ks ws => obtain ⟨kvs, h1, h2, h3⟩ := r; exact ⟨kvs, h1, h2, h3.set⟩
      | ins c fs => obtain ⟨dx, gs, h1, h2, h3⟩ := r; exact ⟨dx, gs, h1, h2, h3.set⟩
      | dcn ks ws => obtain ⟨kvs, h1, h2, h3, h4, h5⟩ := r; exact ⟨kvs, h1, h2, h3, RVs.less (H := M.H) (m := M.m) (fun _ l => live_set l) _ _ h4, h5.set⟩
  · show (M.A.set n (.frz x))[k]? = _
    by_cases hk : n = k
    · subst hk
      obtain ⟨o, e1, e2⟩ := hl
      rw [e] at e1
      cases e1
      cases e2
    · rw [List.getElem?_set_ne hk]
      exact e
  · obtain ⟨o, e, _⟩ := live_set l
    exact absurd (List.getElem?_eq_some_iff.mp e).1 (by omega)
theorem own_ok (R : Rep K T M) (eA : M.A = B ++ L) {w : W} {v : V} {x : D} {L1 : Hs} (h : own B L w = some (x, L1)) (r : RW K T M w v) :
    ∃ M', M'.A = B ++ L1 ∧ M'.H = M.H ∧ Rep K T M' ∧ Ext M M' ∧ RV K T M' x v := by
  cases w with
  | d y =>
    have e : (y, L) = (x, L1) := Option.some.inj h
    cases e
    exact ⟨M, eA, rfl, R, Ext.refl M, r⟩
  | ref n =>
    obtain ⟨hn, rfl⟩ := r
    unfold own look at h
    rw [← eA] at h
    dsimp only at h
    have fzn : ∀ y : D, ¬ n < B.length → { M with A := M.A.set n (.frz y) }.A = B ++ L.set (n - B.length) (.frz y) := fun y hb => by
      show M.A.set n (.frz y) = _
      rw [eA, List.set_append_right _ _ (by omega)]
    split at h
    · rename_i y e
      have q := R.at_ n _ e
      cases h
      exact ⟨M, eA, rfl, R, Ext.refl M, q⟩
    · rename_i ws e
      split at h
      · cases h
      · rename_i hb
        obtain ⟨vs, q, rw⟩ := R.at_ n _ e
        split at h
        · rename_i xs ea
          cases h
          have hx : RV K T { M with A := M.A.set n (.frz (.lst xs)) } (.lst xs) (.ref (M.m n)) :=
            ⟨M.m n, vs, rfl, sep_of R rfl ⟨_, e, rfl⟩, q, RVs.less (H := M.H) (m := M.m) (fun _ l => live_set l) xs vs (RWs.toD ea rw)⟩
          obtain ⟨R', E'⟩ := freeze R ⟨_, e, rfl⟩ hx
          exact ⟨_, fzn _ hb, rfl, R', E', hx⟩
        · cases h
    · rename_i ks ws e
      split at h
      · cases h
      · rename_i hb
        obtain ⟨kvs, q, kk, rw⟩ := R.at_ n _ e
        split at h
        · rename_i xs ea
          cases h
          have hx : RV K T { M with A := M.A.set n (.frz (.dct ks xs)) } (.dct ks xs) (.ref (M.m n)) :=
            ⟨M.m n, kvs, rfl, sep_of R rfl ⟨_, e, rfl⟩, q, kk, RVs.less (H := M.H) (m := M.m) (fun _ l => live_set l) xs _ (RWs.toD ea rw)⟩
          obtain ⟨R', E'⟩ := freeze R ⟨_, e, rfl⟩ hx
          exact ⟨_, fzn _ hb, rfl, R', E', hx⟩
        · cases h
    · rename_i ks ws e
      split at h
      · cases h
      · rename_i hb
        obtain ⟨kvs, q, k1, k2, rk, rw⟩ := R.at_ n _ e
        split at h
        · rename_i xs ea
          cases h
          have hx : RV K T { M with A := M.A.set n (.frz (.dcn ks xs)) } (.dcn ks xs) (.ref (M.m n)) :=
            ⟨M.m n, kvs, rfl, sep_of R rfl ⟨_, e, rfl⟩, q, k1, k2, RVs.less (H := M.H) (m := M.m) (fun _ l => live_set l) ks _ rk, RVs.less (H := M.H) (m := M.m) (fun _ l => live_set l) xs _ (RWs.toD ea rw)⟩
          obtain ⟨R', E'⟩ := freeze R ⟨_, e, rfl⟩ hx
          exact ⟨_, fzn _ hb, rfl, R', E', hx⟩
        · cases h
    · rename_i c fs e
      split at h
      · cases h
      · rename_i hb
        obtain ⟨dx, gs, q, kk, rw⟩ := R.at_ n _ e
        split at h
        · rename_i xs ea
          cases h
          have hx : RV K T { M with A := M.A.set n (.frz (.obj c (fs.map (·.1)) xs)) } (.obj c (fs.map (·.1)) xs) (.ref (M.m n)) :=
            ⟨M.m n, dx, gs, rfl, sep_of R rfl ⟨_, e, rfl⟩, q, by rw [kk, List.map_map]; rfl, RVs.less (H := M.H) (m := M.m) (fun _ l => live_set l) xs _ (RWs.toD ea rw)⟩
          obtain ⟨R', E'⟩ := freeze R ⟨_, e, rfl⟩ hx
          exact ⟨_, fzn _ hb, rfl, R', E', hx⟩
        · cases h
    · cases h
theorem ownAll_ok : ∀ {ws : List W} {vs : List V} {xs : List D} {L L1 : Hs} {M : Mem}, Rep K T M → M.A = B ++ L → ownAll B L ws = some (xs, L1) → RWs K T M ws vs →
    ∃ M', M'.A = B ++ L1 ∧ M'.H = M.H ∧ Rep K T M' ∧ Ext M M' ∧ RVs K T M' xs vs
  | [], vs, xs, L, L1, M, R, eA, h, r => by
    cases h
    exact ⟨M, eA, rfl, R, Ext.refl M, r⟩
  | w :: ws, vs, xs, L, L1, M, R, eA, h, r => by
    obtain ⟨v, vr, rfl, r1, r2⟩ := r
    unfold ownAll at h
    split at h
    · rename_i x L2 e1
      split at h
      · rename_i ys L3 e2
        cases h
        obtain ⟨M1, a1, h1, R1, E1, x1⟩ := own_ok R eA e1 r1
        obtain ⟨M2, a2, h2, R2, E2, x2⟩ := ownAll_ok R1 a1 e2 (r2.ext R E1)
        exact ⟨M2, a2, h2.trans h1, R2, E1.trans E2, v, vr, rfl, RV.ext R1 E2 x v x1, x2⟩
      · cases h
    · cases h
/-- an object more that no place names -/
theorem garb (R : Rep K T M) {p : Addr} {o : HO} (hp : M.H p = none) : Rep K T { M with H := upd M.H p o } ∧ Ext M { M with H := upd M.H p o } := by
  have e : Ext M { M with H := upd M.H p o } := ⟨⟨Nat.le_refl _, fun _ _ => rfl, fun _ _ h => h, fun n h ⟨o, e, _⟩ => absurd (List.getElem?_eq_some_iff.mp e).1 (Nat.not_lt.mpr h),
    fun a u h _ => (upd_ne (ne_of_none h hp)).trans h, fun a h => by
      show upd M.H p o a ≠ none
      unfold upd
      split
      · intro z; cases z
      · exact h, fun _ h => .inl h⟩, rfl, fun a ha => by
      obtain ⟨⟨u, h1, _⟩, _⟩ := R.sc a ha
      exact upd_ne (ne_of_none h1 hp)⟩
  refine ⟨⟨R.inj, fun n ob q => ?_, fun a ha => ⟨?_, (R.sc a ha).2⟩⟩, e⟩
  rotate_left
  · obtain ⟨⟨u, h1, h2⟩, _⟩ := R.sc a ha
    exact ⟨u, (upd_ne (ne_of_none h1 hp)).trans h1, h2⟩
  have r := R.at_ n ob q
  cases ob with
  | frz x => exact RV.ext R e x _ r
  | lst ws => obtain ⟨vs, h1, h2⟩ := r; exact ⟨vs, (upd_ne (ne_of_none h1 hp)).trans h1, h2.ext R e⟩
  | dct ks ws => obtain ⟨kvs, h1, h2, h3⟩ := r; exact ⟨kvs, (upd_ne (ne_of_none h1 hp)).trans h1, h2, h3.ext R e⟩
  | ins c fs => obtain ⟨dx, gs, h1, h2, h3⟩ := r; exact ⟨dx, gs, (upd_ne (ne_of_none h1 hp)).trans h1, h2, h3.ext R e⟩
  | dcn ks ws => obtain ⟨kvs, h1, h2, h3, h4, h5⟩ := r; exact ⟨kvs, (upd_ne (ne_of_none h1 hp)).trans h1, h2, h3, RVs.ext R e _ _ h4, h5.ext R e⟩
/-- it stands apart from all places -/
theorem sep_new (R : Rep K T M) {p : Addr} {o : HO} (hp : M.H p = none) : Sep { M with H := upd M.H p o } p := by
  refine ⟨fun n l q => ?_, fun hs => ?_⟩
  · obtain ⟨u, e, _⟩ := R.live_kind l
    have q' : M.m n = p := q
    rw [q', hp] at e
    cases e
  · obtain ⟨⟨u, e, _⟩, _⟩ := R.sc p hs
    rw [hp] at e
    cases e
end

/-! ### what a post says of the small steps -/
section
variable {K : PySem.W.Frag} {T : Tb} {M : Mem} {B L : Hs} {β : Type} {Q : β → Hs → Mem → Prop}
theorem post.opt {α : Type} {o : Option α} {k : α → Hs → Res β} (h : post K T M B ((ofOpt o L).bind k) Q) : ∃ z, o = some z ∧ post K T M B (k z L) Q := by
  cases o with
  | none => exact h.elim
  | some z => exact ⟨z, rfl, h⟩
theorem post.opt1 {α : Type} {o : Option α} {Q : α → Hs → Mem → Prop} (h : post K T M B (ofOpt o L) Q) : ∃ z, o = some z ∧ post K T M B (.ok z L) Q := by
  cases o with
  | none => exact h.elim
  | some z => exact ⟨z, rfl, h⟩
theorem post.guard {c : Bool} {k : Unit → Hs → Res β} (h : post K T M B ((guardR c L).bind k) Q) : c = true ∧ post K T M B (k () L) Q := by
  cases c with
  | false => exact h.elim
  | true => exact ⟨rfl, h⟩
theorem post.view {w : W} {v : V} {k : D → Hs → Res β} (h : post K T M B ((vwR B L w).bind k) Q) (R : Rep K T M) (eA : M.A = B ++ L) (r : RW K T M w v) : ∃ p, vw B L w = some p ∧ DV K T M p v ∧ post K T M B (k p L) Q := by
  obtain ⟨p, e, q⟩ := post.opt h
  exact ⟨p, e, vw_dv R eA e r, q⟩
theorem post.own {w : W} {v : V} {k : D → Hs → Res β} (h : post K T M B ((ownR B L w).bind k) Q) (R : Rep K T M) (eA : M.A = B ++ L) (r : RW K T M w v) :
    ∃ x L1 M1, M1.A = B ++ L1 ∧ M1.H = M.H ∧ Rep K T M1 ∧ Ext M M1 ∧ RV K T M1 x v ∧ post K T M1 B (k x L1) Q := by
  unfold ownR at h
  cases e : Ev.own B L w with
  | none => rw [e] at h; exact h.elim
  | some y =>
    obtain ⟨x, L1⟩ := y
    rw [e] at h
    obtain ⟨M1, a, hh, R1, E1, rx⟩ := own_ok R eA e r
    exact ⟨x, L1, M1, a, hh, R1, E1, rx, post.later h E1⟩
theorem post.owns {ws : List W} {vs : List V} {k : List D → Hs → Res β} (h : post K T M B ((ownsR B L ws).bind k) Q) (R : Rep K T M) (eA : M.A = B ++ L) (r : RWs K T M ws vs) :
    ∃ xs L1 M1, M1.A = B ++ L1 ∧ M1.H = M.H ∧ Rep K T M1 ∧ Ext M M1 ∧ RVs K T M1 xs vs ∧ post K T M1 B (k xs L1) Q := by
  unfold ownsR at h
  cases e : ownAll B L ws with
  | none => rw [e] at h; exact h.elim
  | some y =>
    obtain ⟨x, L1⟩ := y
    rw [e] at h
    obtain ⟨M1, a, hh, R1, E1, rx⟩ := ownAll_ok R eA e r
    exact ⟨x, L1, M1, a, hh, R1, E1, rx, post.later h E1⟩
/-- the end of a run -/
theorem post.here {a : β} (h : post K T M B (.ok a L) Q) (eA : M.A = B ++ L) (R : Rep K T M) : Q a L M := h M eA R (Ext.refl M)
end
/-- a sequence that is read -/
theorem seq_dv {K : PySem.W.Frag} {T : Tb} {M : Mem} {p : D} {v : V} {ys : List D} (h : seqD p = some ys) (d : DV K T M p v) : ∃ a vs, v = .ref a ∧ (SqT K M.H a vs ∨ SqL K M.H a vs) ∧ RVs K T M ys vs := by
  cases p with
  | tup xs =>
    cases h
    rcases d with ⟨a, vs, e1, e2, e3⟩ | ⟨xs, _, _, e, _⟩ | ⟨_, _, _, _, e, _⟩
    · exact ⟨a, vs, e1, .inl e2.1, e3⟩
    · cases e
    · cases e
  | lst xs =>
    cases h
    rcases d with ⟨a, vs, e1, _, e2, e3⟩ | ⟨xs, a, vs, e, e1, e2, e3⟩ | ⟨_, _, _, _, e, _⟩
    · exact ⟨a, vs, e1, .inr (.inl (.inl e2)), e3⟩
    · cases e
      exact ⟨a, vs, e1, .inr (.inl (.inl e2)), e3⟩
    · cases e
  | _ => cases h

/-! ### argument lists -/
section
variable {X : Cx} {T : Tb}
theorem ja_nil : JA X T [] aNil := PA.weak pa_nil fun σ H Q h => by
  obtain ⟨M, B, L, ρ, p, h⟩ := h
  have := h M p.eA p.rep (Ext.refl M) [] rfl
  rw [p.eH] at this
  exact this
theorem ja_cons {e : Expr} {es : List Expr} {f : SE} {g : SA} (ha : JE X T e f) (hr : JA X T es g) (hs : starEach (e :: es) X.env = (false, eval e X.env) :: starEach es X.env := by rfl) : JA X T (e :: es) (aCons f g) :=
  PA.weak (pa_cons ha hr hs) fun σ H Q h => by
    obtain ⟨M, B, L, ρ, p, h⟩ := h
    refine ⟨M, B, L, ρ, p, (post.bind h).mono fun w L1 M1 eA R x q v rv => ?_⟩
    refine ⟨M1, B, L1, ρ, p.next eA R x, (post.bind q).mono fun ws L2 M2 eA2 R2 x2 q2 vs rvs => ?_⟩
    exact q2.here eA2 R2 (v :: vs) ⟨v, vs, rfl, rv.ext R x2, rvs⟩
theorem ja_star {e : Expr} {p : Pos} {es : List Expr} {f : SE} {g : SA} (ha : JE X T e f) (hr : JA X T es g) (hs : starEach (.Starred e p :: es) X.env = (true, eval e X.env) :: starEach es X.env := by rfl) : JA X T (.Starred e p :: es) (aStar f g) :=
  PA.weak (StX.pa_star ha hr hs) fun σ H Q h => by
    obtain ⟨M, B, L, ρ, p, h⟩ := h
    refine ⟨M, B, L, ρ, p, (post.bind h).mono fun w L1 M1 eA R x q v rv => ?_⟩
    obtain ⟨pd, ev, dv, q⟩ := q.view R eA rv
    obtain ⟨ys, es, q⟩ := q.opt
    obtain ⟨a, vs, e1, e2, e3⟩ := seq_dv es dv
    refine ⟨a, vs, e1, e2, M1, B, L1, ρ, p.next eA R x, (post.bind q).mono fun ws L2 M2 eA2 R2 x2 q2 us rus => ?_⟩
    exact q2.here eA2 R2 (vs ++ us) ((RWs.ofD (RVs.ext R x2 ys vs e3)).append rus)

/-! ### displays -/
theorem sizeL_eq : sizeL = sizeLine := by rw [sizeLine_eq]; rfl
theorem pe_tupF {es : List Expr} {t : TA} {x1 : Nat} {pos : Pos} (h : PA X es t) : PE X (.Tuple es x1 pos) (fun σ H Q => t σ H fun xs H1 => xs.length ≤ sizeLine ∧ ∀ (p : Addr) (o : Obj), H1 p = none → o.dict = none → Q (.ref p) (upd H1 p (.frz o (.tup xs)))) := by
  refine ⟨fun pins s σ H Q I hq => ?_⟩
  refine wpAny_Tuple_spliced (thn (h.run pos pins s σ H _ I hq) fun us s1 ⟨xs, H1, I1, r, z, q⟩ => ⟨by rw [← r.length]; exact z, ?_⟩)
  have hf : H1 s1.heap.objs.size = none := I1.hok.fresh (Nat.le_refl _)
  refine ⟨.ref s1.heap.objs.size, upd H1 s1.heap.objs.size (.frz _ (.tup xs)), I1.laid (t' := s1.toks) (fun b u e => Heap.get?_push_of_some _ e) (Nat.le_refl _) ⟨Heap.get?_push_size _ rfl, z, us, r, ⟨_, Heap.get?_push_size _ rfl, rfl, _, rfl⟩⟩, rfl, q _ _ hf rfl⟩
theorem je_tup {es : List Expr} {g : SA} {n : Nat} {pos : Pos} (h : JA X T es g) : JE X T (.Tuple es n pos) (eTup g) :=
  PE.weak (pe_tupF h) fun σ H Q h => by
    obtain ⟨M, B, L, ρ, p, h⟩ := h
    refine ⟨M, B, L, ρ, p, (post.bind h).mono fun ws L1 M1 eA R x q vs rvs => ?_⟩
    obtain ⟨xs, L2, M2, a2, h2, R2, E2, x2, q⟩ := q.owns R eA rvs
    obtain ⟨hl, q⟩ := q.guard
    have hl := of_decide_eq_true hl
    refine ⟨by rw [← x2.length, ← sizeL_eq]; exact hl, fun a o ha ho => ?_⟩
    rw [← h2] at ha ⊢
    obtain ⟨R3, E3⟩ := garb (o := .frz o (.tup vs)) R2 ha
    exact q { M2 with H := upd M2.H a (.frz o (.tup vs)) } a2 R3 E3 (.ref a) ⟨a, vs, rfl, ⟨.inl (.inr ⟨o, upd_same⟩), fun _ => .inl ⟨o, vs, upd_same, ho⟩⟩, RVs.ext R2 E3 xs vs x2⟩
theorem je_lst {es : List Expr} {g : SA} {pos : Pos} (h : JA X T es g) : JE X T (.List es pos) (eLst g) :=
  PE.weak (pe_lst h) fun σ H Q h => by
    obtain ⟨M, B, L, ρ, p, h⟩ := h
    refine ⟨M, B, L, ρ, p, (post.bind h).mono fun ws L1 M1 eA R x q vs rvs => ?_⟩
    obtain ⟨xs, L2, M2, a2, h2, R2, E2, x2, q⟩ := q.owns R eA rvs
    obtain ⟨hl, q⟩ := q.guard
    have hl := of_decide_eq_true hl
    refine ⟨by rw [← x2.length, ← sizeL_eq]; exact hl, fun a ha => ?_⟩
    rw [← h2] at ha ⊢
    obtain ⟨R3, E3⟩ := garb (o := .lst vs) R2 ha
    exact q { M2 with H := upd M2.H a (.lst vs) } a2 R3 E3 (.ref a) ⟨a, vs, rfl, sep_new R2 ha, upd_same, RVs.ext R2 E3 xs vs x2⟩

/-! ### operators by values -/
def Ok2 (K : PySem.W.Frag) (T : Tb) (g : D → D → Option D) (r : R2) : Prop := ∀ (M : Mem) (p q z : D) (x y : V) (Q : VK), Rep K T M → DV K T M p x → DV K T M q y → g p q = some z →
  (∀ M' v, M'.A = M.A → Rep K T M' → Ext M M' → RV K T M' z v → Q v M'.H) → r x y M.H Q
def OkN (K : PySem.W.Frag) (T : Tb) (g : List D → Option D) (r : List V → Hp → VK → Prop) : Prop := ∀ (M : Mem) (ps : List D) (z : D) (xs : List V) (Q : VK), Rep K T M → DVs K T M ps xs → g ps = some z →
  (∀ M' v, M'.A = M.A → Rep K T M' → Ext M M' → RV K T M' z v → Q v M'.H) → r xs M.H Q
theorem rd_op {K : PySem.W.Frag} {g : D → D → Option D} {r : R2} {fa fb : SE} (ok : Ok2 K T g r) {σ : L2.St} {H : Hp} {Q : VK} (h : rE K T (e2 g fa fb) σ H Q) : tOp r (rE K T fa) (rE K T fb) σ H Q := by
  obtain ⟨M, B, L, ρ, p, h⟩ := h
  refine ⟨M, B, L, ρ, p, (post.bind h).mono fun w L1 M1 eA R x q v rv => ?_⟩
  refine ⟨M1, B, L1, ρ, p.next eA R x, (post.bind q).mono fun w2 L2 M2 eA2 R2 x2 q2 v2 rv2 => ?_⟩
  obtain ⟨pd, e1, d1, q3⟩ := q2.view R2 eA2 (rv.ext R x2)
  obtain ⟨qd, e2', d2, q3⟩ := q3.view R2 eA2 rv2
  obtain ⟨z, ez, q3⟩ := q3.opt
  exact ok M2 pd qd z v v2 Q R2 d1 d2 ez fun M' u a' R' x' ru => q3 M' (a'.trans eA2) R' x' u ru
theorem je_op {op : Operator} {g : D → D → Option D} {r : R2} {a b : Expr} {fa fb : SE} {pos : Pos} (ho : OpR X (binaryOp op) r) (ok : Ok2 X.K T g r) (ha : JE X T a fa) (hb : JE X T b fb) : JE X T (.BinOp a op b pos) (e2 g fa fb) :=
  PE.weak (pe_op ho ha hb) fun σ H Q h => rd_op ok h
theorem je_cmp {op : CmpOp} {g : D → D → Option D} {r : R2} {a b : Expr} {fa fb : SE} {pos : Pos} (ho : OpR X (compareOp op) r) (ok : Ok2 X.K T g r) (ha : JE X T a fa) (hb : JE X T b fb) (hm : behindInMarks op b = false := by first | exact nomark _ | rfl) :
    JE X T (.Compare a [op] [b] pos) (e2 g fa fb) := PE.weak (pe_cmpR ho ha hb hm) fun σ H Q h => rd_op ok h
/-- a test whose value is a bool -/
theorem rd_test {K : PySem.W.Frag} {f : SE} {t : TE} (h : ∀ σ H Q, rE K T f σ H Q → t σ H Q) {σ : L2.St} {H : Hp} {Q : Bool → Hp → Prop} (hq : rT K T (tE f) σ H Q)
    (hb : ∀ B ρ L w L', f B ρ L = .ok w L' → ∃ k, w = .d (.bl k)) : tTest t σ H Q := by
  obtain ⟨M, B, L, ρ, p, hq⟩ := hq
  refine h σ H _ ⟨M, B, L, ρ, p, ?_⟩
  unfold tE at hq
  have hq := post.bind hq
  cases e : f B ρ L with
  | ok w L' =>
    rw [e] at hq
    obtain ⟨k, rfl⟩ := hb _ _ _ _ _ e
    intro M' eA R x v rv
    refine ⟨k, rv, ?_⟩
    have := hq M' eA R x
    exact (post.here this eA R)
  | exc _ _ _ => rw [e] at hq; exact hq.elim
  | bad => rw [e] at hq; exact hq.elim
theorem e2_bool {g : D → D → Option D} {fa fb : SE} (hg : ∀ p q z, g p q = some z → ∃ k, z = .bl k) : ∀ B ρ L w L', e2 g fa fb B ρ L = .ok w L' → ∃ k, w = .d (.bl k) := fun B ρ L w L' h => by
  unfold e2 at h
  cases e1 : fa B ρ L with
  | exc _ _ _ => rw [e1] at h; cases h
  | bad => rw [e1] at h; cases h
  | ok x L1 =>
    rw [e1] at h
    have h : (fb B ρ L1).bind _ = _ := h
    cases e2' : fb B ρ L1 with
    | exc _ _ _ => rw [e2'] at h; cases h
    | bad => rw [e2'] at h; cases h
    | ok y L2 =>
      rw [e2'] at h
      unfold vwR at h
      have h : (ofOpt (vw B L2 x) L2).bind _ = _ := h
      cases e3 : vw B L2 x with
      | none => rw [e3] at h; cases h
      | some p =>
        rw [e3] at h
        have h : (ofOpt (vw B L2 y) L2).bind _ = _ := h
        cases e4 : vw B L2 y with
        | none => rw [e4] at h; cases h
        | some q =>
          rw [e4] at h
          have h : (ofOpt (g p q) L2).bind _ = _ := h
          cases e5 : g p q with
          | none => rw [e5] at h; cases h
          | some z =>
            rw [e5] at h
            obtain ⟨k, rfl⟩ := hg p q z e5
            have h : Res.ok (W.d (D.bl k)) L2 = Res.ok w L' := h
            cases h
            exact ⟨k, rfl⟩
theorem jt_cmp {op : CmpOp} {g : D → D → Option D} {r : R2} {a b : Expr} {fa fb : SE} {pos : Pos} (ho : OpR X (compareOp op) r) (ok : Ok2 X.K T g r) (hg : ∀ p q z, g p q = some z → ∃ k, z = .bl k) (ha : JE X T a fa) (hb : JE X T b fb) (hm : behindInMarks op b = false := by first | exact nomark _ | rfl) :
    JT X T (.Compare a [op] [b] pos) (tE (e2 g fa fb)) := PT.weak (pt_cmpR ho ha hb hm) fun σ H Q h => rd_test (fun σ H Q h => rd_op ok h) h (e2_bool hg)

/-! ### truth -/
theorem tru_dv {K : PySem.W.Frag} {M : Mem} {p : D} {v : V} {k : Bool} (h : tru p = some k) (d : DV K T M p v) : TruV K v M.H k := by
  cases p with
  | non =>
    rcases d with rfl | ⟨_, _, _, e, _⟩ | ⟨_, _, _, _, e, _⟩
    · cases h; rfl
    · cases e
    · cases e
  | bl b =>
    rcases d with rfl | ⟨_, _, _, e, _⟩ | ⟨_, _, _, _, e, _⟩
    · cases h; rfl
    · cases e
    · cases e
  | int i =>
    rcases d with rfl | ⟨_, _, _, e, _⟩ | ⟨_, _, _, _, e, _⟩
    · cases h
      show decide (i ≠ 0) = (i != 0)
      by_cases hi : i = 0 <;> simp [hi]
    · cases e
    · cases e
  | str s =>
    rcases d with rfl | ⟨_, _, _, e, _⟩ | ⟨_, _, _, _, e, _⟩
    · have h : (if s.length ≤ sizeL then some (!s.isEmpty) else none) = some k := h
      split at h
      · rename_i hl
        cases h
        have el : (⟨s.toArray⟩ : Str).length = s.length := by show s.toArray.size = _; simp
        refine ⟨by rw [el, ← sizeL_eq]; exact hl, ?_⟩
        rw [el]
        cases s with
        | nil => rfl
        | cons c r =>
          show true = ((((c :: r).length : Nat) : Int) != 0)
          have h1 : (((c :: r).length : Nat) : Int) ≠ 0 := by rw [List.length_cons]; omega
          exact (bne_iff_ne.mpr h1).symm
      · cases h
    · cases e
    · cases e
  | tup xs =>
    rcases d with ⟨a, vs, rfl, e2, e3⟩ | ⟨_, _, _, e, _⟩ | ⟨_, _, _, _, e, _⟩
    · cases h
      refine .inr (.inl ⟨vs, e2.1, ?_⟩)
      have := e3.length
      cases xs <;> cases vs <;> simp_all
    · cases e
    · cases e
  | lst xs =>
    obtain ⟨a, vs, rfl, e2, e3⟩ := seq_dv (ys := xs) rfl d
    cases h
    have := e3.length
    rcases e2 with e2 | e2
    · refine .inr (.inl ⟨vs, e2, ?_⟩)
      cases xs <;> cases vs <;> simp_all
    · refine .inl ⟨vs, e2, ?_⟩
      cases xs <;> cases vs <;> simp_all
  | _ => cases h
theorem jt_plain {a : Expr} {fa : SE} (ha : JE X T a fa) (he : ∀ whole, isTrue a X.env whole = (do let v ← whole; standAt a.pos; holding [v] (truthy v)) := by intro _; rfl) : JT X T a (tE fa) :=
  PT.weak (pt_truth ha he) fun σ H Q h => by
    obtain ⟨M, B, L, ρ, p, h⟩ := h
    refine ⟨M, B, L, ρ, p, (post.bind h).mono fun w L1 M1 eA R x q v rv => ?_⟩
    obtain ⟨pd, e1, d1, q⟩ := q.view R eA rv
    obtain ⟨k, ek, q⟩ := q.opt1
    exact ⟨k, tru_dv ek d1, q.here eA R⟩
theorem rd_and {K : PySem.W.Frag} {f g : ST} {σ : L2.St} {H : Hp} {Q : Bool → Hp → Prop} (h : rT K T (tAnd f g) σ H Q) : L2.tAnd (rT K T f) (rT K T g) σ H Q := by
  obtain ⟨M, B, L, ρ, p, h⟩ := h
  refine ⟨M, B, L, ρ, p, (post.bind h).mono fun c L1 M1 eA R x q => ?_⟩
  cases c with
  | true => rw [if_pos rfl] at q; rw [if_pos rfl]; exact ⟨M1, B, L1, ρ, p.next eA R x, q⟩
  | false => rw [if_neg Bool.false_ne_true] at q; rw [if_neg Bool.false_ne_true]; exact q.here eA R
theorem rd_or {K : PySem.W.Frag} {f g : ST} {σ : L2.St} {H : Hp} {Q : Bool → Hp → Prop} (h : rT K T (tOr f g) σ H Q) : L2.tOr (rT K T f) (rT K T g) σ H Q := by
  obtain ⟨M, B, L, ρ, p, h⟩ := h
  refine ⟨M, B, L, ρ, p, (post.bind h).mono fun c L1 M1 eA R x q => ?_⟩
  cases c with
  | true => rw [if_pos rfl] at q; rw [if_pos rfl]; exact q.here eA R
  | false => rw [if_neg Bool.false_ne_true] at q; rw [if_neg Bool.false_ne_true]; exact ⟨M1, B, L1, ρ, p.next eA R x, q⟩
theorem jw_and1 {a : Expr} {f : ST} {pos : Pos} (ha : JT X T a f) : JW X T (.BoolOp .And [a] pos) f := pw_and1 ha
theorem jw_or1 {a : Expr} {f : ST} {pos : Pos} (ha : JT X T a f) : JW X T (.BoolOp .Or [a] pos) f := pw_or1 ha
theorem jw_and {a b : Expr} {rest : List Expr} {f g : ST} {pos : Pos} (ha : JT X T a f) (hb : JW X T (.BoolOp .And (b :: rest) pos) g) : JW X T (.BoolOp .And (a :: b :: rest) pos) (tAnd f g) := PW.weak (pw_and ha hb) fun σ H Q h => rd_and h
theorem jw_or {a b : Expr} {rest : List Expr} {f g : ST} {pos : Pos} (ha : JT X T a f) (hb : JW X T (.BoolOp .Or (b :: rest) pos) g) : JW X T (.BoolOp .Or (a :: b :: rest) pos) (tOr f g) := PW.weak (pw_or ha hb) fun σ H Q h => rd_or h
theorem JW.t {e : Expr} {f : ST} (h : JW X T e f) : JT X T e f := h.pt
theorem jt_not {a : Expr} {f : ST} {pos : Pos} (ha : JT X T a f) : JT X T (.UnaryOp .Not a pos) (tNot f) := PT.weak (pt_not ha) fun σ H Q h => by
  obtain ⟨M, B, L, ρ, p, h⟩ := h
  exact ⟨M, B, L, ρ, p, (post.bind h).mono fun c L1 M1 eA R x q => q.here eA R⟩
theorem jt_ifExp {c a b : Expr} {f fa fb : ST} {pos : Pos} (hc : JT X T c f) (ha : JT X T a fa) (hb : JT X T b fb) : JT X T (.IfExp c a b pos) (tIfT f fa fb) := ⟨fun pins s σ H Q I h => by
  obtain ⟨M, B, L, ρ, p, h⟩ := h
  refine isTrue_IfExp (thn (hc.run pins s σ H (fun c H1 => if c = true then rT X.K T fa σ H1 Q else rT X.K T fb σ H1 Q) I ⟨M, B, L, ρ, p, (post.bind h).mono fun c L1 M1 eA R x q => ?_⟩) fun d s1 ⟨H1, I1, q1⟩ => ?_)
  · cases c with
    | true => rw [if_pos rfl] at q; rw [if_pos rfl]; exact ⟨M1, B, L1, ρ, p.next eA R x, q⟩
    | false => rw [if_neg Bool.false_ne_true] at q; rw [if_neg Bool.false_ne_true]; exact ⟨M1, B, L1, ρ, p.next eA R x, q⟩
  · cases d with
    | true => rw [if_pos rfl] at q1 ⊢; exact ha.run pins s1 σ H1 Q I1 q1
    | false => rw [if_neg Bool.false_ne_true] at q1 ⊢; exact hb.run pins s1 σ H1 Q I1 q1⟩
theorem je_if {c a b : Expr} {f : ST} {fa fb : SE} {pos : Pos} (hc : JT X T c f) (ha : JE X T a fa) (hb : JE X T b fb) : JE X T (.IfExp c a b pos) (eIf f fa fb) := PE.weak (pe_ifExp hc ha hb) fun σ H Q h => by
  obtain ⟨M, B, L, ρ, p, h⟩ := h
  refine ⟨M, B, L, ρ, p, (post.bind h).mono fun c L1 M1 eA R x q => ?_⟩
  cases c with
  | true => rw [if_pos rfl] at q; rw [if_pos rfl]; exact ⟨M1, B, L1, ρ, p.next eA R x, q⟩
  | false => rw [if_neg Bool.false_ne_true] at q; rw [if_neg Bool.false_ne_true]; exact ⟨M1, B, L1, ρ, p.next eA R x, q⟩
theorem je_one {op : BoolOp} {a : Expr} {f : SE} {pos : Pos} (h : JE X T a f) : JE X T (.BoolOp op [a] pos) f := pe_one h
theorem je_and {a b : Expr} {rest : List Expr} {f g : SE} {pos : Pos} (ha : JE X T a f) (hb : JE X T (.BoolOp .And (b :: rest) pos) g) : JE X T (.BoolOp .And (a :: b :: rest) pos) (eAnd f g) := PE.weak (pe_andT ha hb) fun σ H Q h => by
  obtain ⟨M, B, L, ρ, p, h⟩ := h
  refine ⟨M, B, L, ρ, p, (post.bind h).mono fun w L1 M1 eA R x q v rv => ?_⟩
  obtain ⟨pd, e1, d1, q⟩ := q.view R eA rv
  obtain ⟨k, ek, q⟩ := q.opt
  refine ⟨k, tru_dv ek d1, ?_⟩
  cases k with
  | true => rw [if_pos rfl] at q; rw [if_pos rfl]; exact ⟨M1, B, L1, ρ, p.next eA R x, q⟩
  | false => rw [if_neg Bool.false_ne_true] at q; rw [if_neg Bool.false_ne_true]; exact q.here eA R v rv
theorem je_or {a b : Expr} {rest : List Expr} {f g : SE} {pos : Pos} (ha : JE X T a f) (hb : JE X T (.BoolOp .Or (b :: rest) pos) g) : JE X T (.BoolOp .Or (a :: b :: rest) pos) (eOr f g) := PE.weak (pe_orT ha hb) fun σ H Q h => by
  obtain ⟨M, B, L, ρ, p, h⟩ := h
  refine ⟨M, B, L, ρ, p, (post.bind h).mono fun w L1 M1 eA R x q v rv => ?_⟩
  obtain ⟨pd, e1, d1, q⟩ := q.view R eA rv
  obtain ⟨k, ek, q⟩ := q.opt
  refine ⟨k, tru_dv ek d1, ?_⟩
  cases k with
  | true => rw [if_pos rfl] at q; rw [if_pos rfl]; exact q.here eA R v rv
  | false => rw [if_neg Bool.false_ne_true] at q; rw [if_neg Bool.false_ne_true]; exact ⟨M1, B, L1, ρ, p.next eA R x, q⟩
theorem je_not {a : Expr} {f : SE} {pos : Pos} (ha : JE X T a f) : JE X T (.UnaryOp .Not a pos) (eNot f) := PE.weak (pe_notT ha) fun σ H Q h => by
  obtain ⟨M, B, L, ρ, p, h⟩ := h
  refine ⟨M, B, L, ρ, p, (post.bind h).mono fun w L1 M1 eA R x q v rv => ?_⟩
  obtain ⟨pd, e1, d1, q⟩ := q.view R eA rv
  obtain ⟨k, ek, q⟩ := q.opt
  exact ⟨k, tru_dv ek d1, q.here eA R (.bl (!k)) rfl⟩
end
end Ev

set_option Elab.async false
set_option linter.all false
set_option maxRecDepth 100000
set_option maxHeartbeats 1000000
set_option autoImplicit false
/-! EvG: the promise of a def where no repr is under way; its call; the end of a law over it. -/
namespace Ev
open PySem PySem.Spec PyProof.Rows L2
section
variable {P : Program} {w : World} {K : PySem.W.Frag} {mg : Str → Option Value} {base : Heap} {CX : CXT} {k : Nat} {f : Addr} {fd : FuncData} {ps : List Str} {sp : Sp}
/-- FnOk where no repr is under way -/
structure FnG (P : Program) (w : World) (K : PySem.W.Frag) (mg : Str → Option Value) (base : Heap) (CX : CXT) (k : Nat) (f : Addr) (fd : FuncData) (ps : List Str) (sp : Sp) : Prop where
  ln : ∀ vs H Q E, sp vs H Q E → vs.length = ps.length
  go : ∀ (A : Around) (ou : List Env) (s : Shared) (H : Hp) (args : Args) (us : List Value) (vs : List V) (Q : VK) (E : XK), A.guards = some [] → Room k A → Env0 P w K mg base A ou s H →
    BindsTo s fd args (ps.zip us) → Vals vs us → sp vs H Q E → codeAny (model P w) A (.call (.ref f) args) (CR CX ou P w H s Q E) s
theorem FnG.imp {sp' : Sp} (F : FnG P w K mg base CX k f fd ps sp) (h : ∀ vs H Q E, sp' vs H Q E → sp vs H Q E) : FnG P w K mg base CX k f fd ps sp' :=
  ⟨fun vs H Q E q => F.ln vs H Q E (h _ _ _ _ q), fun A ou s H args us vs Q E hg hr he hb hv q => F.go A ou s H args us vs Q E hg hr he hb hv (h _ _ _ _ q)⟩
theorem FnG.mono {j : Nat} (F : FnG P w K mg base CX j f fd ps sp) (h : j ≤ k) : FnG P w K mg base CX k f fd ps sp :=
  ⟨F.ln, fun A ou s H args us vs Q E hg hr => F.go A ou s H args us vs Q E hg (hr.mono h)⟩
/-- the rule for a def -/
theorem fnG_of {x qual : Str} {params : Arguments} {body : List Stmt} {scope : Scope} {dvs : List V} {kws : List (Str × V)} {N : List Str} (F : FunD K x qual params body scope dvs kws f fd) (S : FnScope N ps scope) (ln : ∀ vs H Q E, sp vs H Q E → vs.length = ps.length)
    (hB : ∀ (cdv : Value) (A : Around) (ou : List Env) (s : Shared) (H : Hp) (vs : List V) (Q : VK) (E : XK), A.guards = some [] → Room k (A.deeper (envOfC qual scope s.heap.objs.size f cdv)) → sp vs H Q E →
      ∃ t, PSs (cxOf CX P w K mg base N qual scope f cdv A ou s H E) body t ∧ t { nx := fun _ H' => Q .non H', rt := Q } (start N vs) H) : FnG P w K mg base CX (k + 1) f fd ps sp := by
  obtain ⟨oc, od, dV, kV, doc, pm, an, cdv, ct, osl, rfl, lk, hcd, _, _⟩ := F.ex
  refine ⟨ln, fun A ou s H args us vs Q E hg hr e0 hb rl q => ?_⟩
  have kin : K.In s.heap := e0.mod.kin.keeps fun b o z => (e0.bs b o z).1
  have nol : s.heap.NoLimit := e0.mod.nolimit.keeps fun b o z => (e0.bs b o z).1
  refine codeAny_call_function hr.depth (kin _ _ lk) rfl S.co S.gen rfl (PySem.W.codeRec_of kin hcd) (hb _ _ _ _ ?_)
  refine wpAny_newFunctionEnv_cells S.kind (fun y hy => ?_) fun env he s1 x1 => ?_
  · rcases S.par y.1 (List.of_mem_zip (show (y.1, y.2) ∈ ps.zip us from hy)).1 with z | z
    · exact .inl z
    · exact .inr ⟨z, PySem.W.cellsFrom_some _ _ _ (.inl z)⟩
  · subst he
    refine ⟨nol.keeps x1.toInCall.keep, codeAny_func ?_⟩
    obtain ⟨t, ht, hq⟩ := hB cdv A ou s H vs Q E hg (hr.deeper _) q
    have I : Inv (cxOf CX P w K mg base N qual scope f cdv A ou s H E) [] (start N vs) H s1 := inv_start S hr.hd e0 (ln _ _ _ _ q) rl x1
    have fin : ∀ {s' : Shared} {σ' : L2.St} {H' : Hp} {v : V} {u : Value}, Inv (cxOf CX P w K mg base N qual scope f cdv A ou s H E) [] σ' H' s' → RelV v u → Q v H' → CE ou P w H s Q u s' :=
      fun {s' σ' H' v u} J rv q' => ⟨v, H', J.os, J.bare, J.base, J.hok, rv, q'⟩
    refine wpAny_mono (ht.run [] s1 (start N vs) H _ I hq) (fun fl s' hs => ?_) fun _ _ z => z
    cases fl with
    | next => obtain ⟨σ', H', J, z⟩ := hs; exact fin (v := V.non) (u := Value.none) J rfl z
    | ret u => obtain ⟨v, σ', H', J, rv, z⟩ := hs; exact fin J rv z
    | brk => obtain ⟨_, _, _, z⟩ := hs; exact z.elim
    | cont => obtain ⟨_, _, _, z⟩ := hs; exact z.elim
end
section
variable {X : Cx} {CX : CXT} {k : Nat} {f : Addr} {fd : FuncData} {ps : List Str} {sp : Sp} {E : XK}
/-- the call: args, what they bind -/
theorem FnG.call {pins : List (Addr × Obj)} {σ : L2.St} {H : Hp} {s : Shared} {Q : VK} {us : List Value} {kws : List (Str × Value)} {vs : List V} {zs : List Value} (F : FnG X.prog X.w X.K X.mg X.base CX k f fd ps sp) (hg : X.A.guards = some []) (hr : Room k X.A) (hx : Passes CX X E) (I : Inv X pins σ H s)
    (hb : BindsTo s fd ⟨us, kws⟩ (ps.zip zs)) (r : Vals vs zs) (h : sp vs H Q E) : wpAny (model X.prog X.w) X.A (PySem.call (.ref f) us kws) (EP X pins σ Q) X.xe s :=
  wpAny_call (codeAny_mono (F.go X.A X.stack s H ⟨us, kws⟩ zs vs Q E hg hr I.env0 hb r h) fun r s' z => match r, z with
    | .error e, z => hx pins σ H s e s' I z
    | .ok (.ret u), z => I.after z
    | .ok .next, z => False.elim z
    | .ok .brk, z => False.elim z
    | .ok .cont, z => False.elim z)
theorem pe_callG {x : Str} {p pos : Pos} {e : Expr} {es : List Expr} {t : TA} (F : FnG X.prog X.w X.K X.mg X.base CX k f fd ps sp) (hgu : X.A.guards = some []) (hr : Room k X.A) (hg : Gl X x) (hm : X.mg x = some (.ref f)) (hk : PySem.W.keepIn X.K (.ref f) = true) (hb : Binds X.K fd ps []) (hx : Passes CX X E)
    (ha : PA X (e :: es) t) (hdb : (x == ("__debug__" : Str)) = false) (he : starEach (e :: es) X.env = (false, eval e X.env) :: starEach es X.env) (hpl : (backTo pos (starEach es X.env)).any (·.1) = false) : PE X (.Call (.Name x p) (e :: es) [] pos) (fun σ H Q => t σ H fun vs H1 => sp vs H1 Q E) :=
  ⟨fun pins s σ H Q I h => wpAny_Call_Name_kw (ld_glob I hg hm (PySem.W.callWith_K (h₀ := X.base) I.ok.mod.kin hk (thn (ha.run pos pins s σ H _ I h) fun us s1 ⟨vs, H1, I1, r, q⟩ => ⟨I1.kIn, by
    have l : (us ++ ([] : List Value)).length = ps.length := by rw [List.append_nil, ← r.length]; exact F.ln _ _ _ _ q
    have b := hb s1 us I1.kIn l
    rw [List.append_nil] at b
    exact F.call hgu hr hx I1 b r q⟩) he hpl) hdb)⟩
theorem pe_callG0 {x : Str} {p pos : Pos} (F : FnG X.prog X.w X.K X.mg X.base CX k f fd ps sp) (hgu : X.A.guards = some []) (hr : Room k X.A) (hg : Gl X x) (hm : X.mg x = some (.ref f)) (hk : PySem.W.keepIn X.K (.ref f) = true) (hb : Binds X.K fd ps []) (hx : Passes CX X E)
    (hdb : (x == ("__debug__" : Str)) = false) : PE X (.Call (.Name x p) [] [] pos) (fun σ H Q => sp [] H Q E) :=
  ⟨fun pins s σ H Q I h => wpAny_Call_Name_kw (ld_glob I hg hm (PySem.W.callWith_K0 I.kIn hk (by
    have l : (([] : List Value) ++ ([] : List Value)).length = ps.length := by rw [← F.ln _ _ _ _ h]; rfl
    have b := hb s [] I.kIn l
    exact F.call hgu hr hx I b .nil h)) hdb)⟩
/-- f(k = e, ..): keywords alone; g puts their values in the parameters' order -/
theorem pe_callGK {x : Str} {p pos : Pos} {kws : List Keyword} {ks : List Str} {t : TA} {g : {α : Type} → List α → List α} (F : FnG X.prog X.w X.K X.mg X.base CX k f fd ps sp) (hgu : X.A.guards = some []) (hr : Room k X.A) (hg : Gl X x) (hm : X.mg x = some (.ref f)) (hk : PySem.W.keepIn X.K (.ref f) = true)
    (hb : ∀ (s : Shared) (ws : List Value), ws.length = ks.length → BindsTo s fd ⟨[], ks.zip ws⟩ (ps.zip (g ws))) (hrel : ∀ {zs : List V} {ws : List Value}, Vals zs ws → Vals (g zs) (g ws)) (hx : Passes CX X E)
    (ha : PK X kws t) (hall : (backToKw pos (keywordEach kws X.env)).all (·.1.isSome) = true) (hks : (backToKw pos (keywordEach kws X.env)).filterMap (·.1) = ks) (hdb : (x == ("__debug__" : Str)) = false)
    (hpl : ((backTo pos (starEach [] X.env)).any (·.1) || (backToKw pos (keywordEach kws X.env)).any (·.1.isNone)) = false) :
    PE X (.Call (.Name x p) [] kws pos) (fun σ H Q => t σ H fun zs H1 => zs.length = ks.length ∧ sp (g zs) H1 Q E) :=
  ⟨fun pins s σ H Q I h => wpAny_Call_Name_kw (ld_glob I hg hm (PySem.W.callWith_KW0 (h₀ := X.base) I.ok.mod.kin hk hall (thn (ha.run pos pins s σ H _ I h) fun ws s1 ⟨zs, H1, I1, r, hl, q⟩ => ⟨I1.kIn, by
    rw [hks]
    exact F.call hgu hr hx I1 (hb s1 ws (by rw [← r.length]; exact hl)) (hrel r) q⟩) hpl) hdb)⟩
end
/-- the end of a law -/
theorem lawG {P : Program} {w : World} {K : PySem.W.Frag} {mg mb : Str → Option Value} {CX : CXT} {k : Nat} {fa a : Addr} {fd : FuncData} {x : Str} {sp : Sp} {s1 : Shared} {vs : List Value} {ns : List Int} (kin : K.In s1.heap) (hns : s1.heap.Ns mainGlobals mg) (hb : s1.heap.Ns builtinsNs mb)
    (hbb : ∀ x : Str, x ≠ "__name__" → mb x = bootBuiltins x) (nol : s1.heap.NoLimit) (hg : s1.gens = #[]) (ha : s1.heap.get? a = some { cls := .type "list", data := .seq vs.toArray }) (hi : IntsAre vs ns) (hl : ns.length ≤ sizeLine) (hr : Room k callerA)
    (F : ∀ base : Heap, K.In base → base.Ns mainGlobals mg → FnG P w K mg base CX k fa fd [x] sp) (hbind : ∀ (s : Shared) (u : Value), BindsTo s fd ⟨[u], []⟩ [(x, u)])
    (hsp : ∀ H : Hp, Only H → SqL K H a (ns.map V.int) → sp [.ref a] H (fun v _ => v = .bl true) fun _ _ _ => False) (hCX : ∀ H e s', CX [] H s1 (fun _ _ _ => False) e s' → False) :
    codeAny (model P w) callerA (.call (.ref fa) ⟨[.ref a], []⟩) (fun r s' => r = .ok (.ret (.bool true)) ∧ OldK s1.heap s'.heap ∧ s'.os = s1.os ∧ AllBare s'.gens) s1 := by
  have rv := vals_ints hi
  have main : ∀ H : Hp, Only H → SqL K H a (ns.map V.int) → HOk P w H s1.heap → (∀ b, H b ≠ none → b = a ∧ K.lookup a = none) →
      codeAny (model P w) callerA (.call (.ref fa) ⟨[.ref a], []⟩) (fun r s' => r = .ok (.ret (.bool true)) ∧ OldK s1.heap s'.heap ∧ s'.os = s1.os ∧ AllBare s'.gens) s1 := by
    intro H hO hS hok hA
    have nsk : ∀ {b : Addr} {m : Str → Option Value}, s1.heap.Ns b m → (hidT s1.heap H).Ns b m := fun {b m} ⟨o, es, ep, e, d, r⟩ => ⟨o, es, ep, hidT_get e (by
      cases q : H b with
      | none => rfl
      | some u =>
        have z := (hA b (by rw [q]; exact fun y => nomatch y)).1
        rw [z, ha] at e
        cases e
        exact nomatch d), d, r⟩
    have kb : K.In (hidT s1.heap H) := fun b o e => hidT_get (kin b o e) (by
      cases q : H b with
      | none => rfl
      | some u =>
        obtain ⟨z, y⟩ := hA b (by rw [q]; exact fun y => nomatch y)
        rw [z, y] at e
        exact nomatch e)
    have hM : Mod K mg (hidT s1.heap H) := ⟨kb, nsk hns, ⟨mb, nsk hb, hbb⟩, let ⟨mc, h1, h2⟩ := nol; ⟨mc, nsk h1, h2⟩⟩
    have e0 : Env0 P w K mg (hidT s1.heap H) callerA [] s1 H := ⟨rfl, hM, fun _ _ e => of_hidT e, Nat.le_of_eq (hidT_size _ _), trivial, fun b z => absurd (show b ∈ ([] : List Addr) from z) (by simp), hok, .of_eq hg⟩
    refine codeAny_mono ((F _ kb (nsk hns)).go callerA [] s1 H ⟨[.ref a], []⟩ [.ref a] [.ref a] _ _ rfl hr e0 (hbind s1 (.ref a)) (.cons rfl .nil) (hsp H hO hS)) fun r s' h => ?_
    match r, h with
    | .error e, h => exact (hCX H e s' h).elim
    | .ok .next, h => exact False.elim h
    | .ok .brk, h => exact False.elim h
    | .ok .cont, h => exact False.elim h
    | .ok (.ret u), h =>
      obtain ⟨v, H', os, bare, un, hok', r', q⟩ := h
      have q : v = .bl true := q
      subst q
      obtain rfl : u = Value.bool true := r'
      refine ⟨rfl, OldK.of_keep fun b o e => ?_, os, bare⟩
      rcases hO b with z | ⟨ob, xs, z⟩
      · exact un.keep b o e z (fun y => absurd (show b ∈ ([] : List Addr) from y) (by simp)) (by simp)
      · have e1 := (hok b _ z).1
        have e2 := (hok' b _ (un.frzs b ob _ z)).1
        rw [e] at e1
        cases e1
        exact e2
  cases hk : K.lookup a with
  | none =>
    refine main (fun b => if b = a then some (.frz { cls := .type "list", data := .seq vs.toArray } (.lst (ns.map V.int))) else none) (fun b => ?_) (.inl (.inr ⟨{ cls := .type "list", data := .seq vs.toArray }, if_pos rfl⟩)) (fun b u z => ?_) fun b z => ?_
    · by_cases q : b = a
      · exact .inr ⟨_, _, if_pos q⟩
      · exact .inl (if_neg q)
    · by_cases q : b = a
      · have y := (if_pos q).symm.trans z
        cases y
        subst q
        exact ⟨ha, by rw [List.length_map]; exact hl, vs, _, rv, ha⟩
      · exact nomatch (if_neg q).symm.trans z
    · by_cases q : b = a
      · exact ⟨q, hk⟩
      · exact absurd (if_neg q) z
  | some o =>
    have e := kin a o hk
    rw [ha] at e
    cases e
    exact main (fun _ => none) (fun _ => .inl rfl) (.inr ⟨_, vs.toArray, _, hk, rfl, rfl, rfl, by rw [List.size_toArray, hi.length]; exact hl, by simpa using rv⟩) (fun b u z => nomatch (show (none : Option HO) = some u from z)) fun b z => absurd rfl z
theorem walkG {l : PySem.W.OpenLaw} {n k : Nat} {q : Program} {loose : List Str} {XP : (Str → Option Value) → Heap → Prop} {YP : World → Heap → Prop} {d : DefRec} {CX : CXT} {x : Str} (hn : l.most = some n) (hn2 : n ≤ sizeLine) (hdf : d.params.defaults = []) (hr : Room k callerA)
    (F : ∀ (w : World) (mg : Str → Option Value) (fa : Addr) (h : Heap), YP w h → h.Ns mainGlobals mg → mg d.name = some (.ref fa) → ∃ (K : PySem.W.Frag) (fd : FuncData) (sp : Sp), K.In h ∧ (∀ (s : Shared) (u : Value), BindsTo s fd ⟨[u], []⟩ [(x, u)]) ∧
      (∀ (H : Hp) (a : Addr) (ns : List Int), ns.length ≤ n → Only H → SqL K H a (ns.map V.int) → sp [.ref a] H (fun v _ => v = .bl true) fun _ _ _ => False) ∧ ∀ base : Heap, K.In base → base.Ns mainGlobals mg → FnG l.prog w K mg base CX k fa fd [x] sp)
    (hCX : ∀ (H : Hp) (s : Shared) (e : Value) (s' : Shared), CX [] H s (fun _ _ _ => False) e s' → False) : PySem.W.WalkO q loose XP YP l.row.toRowW d [] (fun f vs => PySem.call f vs) :=
  Att.attach_call hn hdf fun w s0 s1 mg mb fa o pm cd doc a vs ns G Y ho hd hcd hmg hobj hints hlen hg => by
    obtain ⟨K, fd, sp, kin, hb, hsp, hF⟩ := F w mg fa _ Y G.T.g hmg
    exact lawG kin G.T.g G.T.b G.T.builtins G.T.nolimit hg hobj hints (Nat.le_trans hlen hn2) hr hF hb (fun H hO hS => hsp H a ns hlen hO hS) fun H e s' => hCX H s1 e s'
end Ev

set_option Elab.async false
set_option linter.all false
set_option maxRecDepth 100000
set_option maxHeartbeats 1000000
set_option autoImplicit false
/-! EvD: statements, defs, calls. -/
namespace Ev
open PySem PySem.Spec PyProof.Rows L2
/-! ### statements -/
section
variable {X : Cx} {T : Tb}
theorem postS.ext_next {K : PySem.W.Frag} {M : Mem} {B L : Hs} {ρ : Sl} {σ : L2.St} {Dn : Ends} (h : postS K T M B (.next ρ L) Dn) (eA : M.A = B ++ L) (R : Rep K T M) (rs : RS K T M ρ σ) : Dn.nx σ M.H := h M σ eA R (Ext.refl M) rs
theorem js_nil : JSs X T [] sNil := PSs.weak pss_nil fun Dn σ H h => by
  obtain ⟨M, B, L, ρ, p, h⟩ := h
  have := h.ext_next p.eA p.rep p.rs
  rw [p.eH] at this
  exact this
theorem js_cons {st : Stmt} {rest : List Stmt} {f g : SS} (h1 : JS X T st f) (h2 : JSs X T rest g) : JSs X T (st :: rest) (sSeq f g) := PSs.weak (pss_cons h1 h2) fun Dn σ H h => by
  obtain ⟨M, B, L, ρ, p, h⟩ := h
  refine ⟨M, B, L, ρ, p, ?_⟩
  unfold sSeq at h
  cases e : f B ρ L with
  | next ρ1 L1 =>
    rw [e] at h
    intro M1 σ1 eA R x rs
    exact ⟨M1, B, L1, ρ1, ⟨rfl, eA, R, rs⟩, postS.later h x⟩
  | brk ρ1 L1 => rw [e] at h; exact h
  | cnt ρ1 L1 => rw [e] at h; exact h
  | ret w L1 => rw [e] at h; exact h
  | exc _ _ _ _ => rw [e] at h; exact h.elim
  | bad => rw [e] at h; exact h.elim
theorem js_one {st : Stmt} {f : SS} (h1 : JS X T st f) : JSs X T [st] f := pss_one h1
theorem js_ret {e : Expr} {f : SE} {pos : Pos} (he : JE X T e f) : JS X T (.Return (some e) pos) (sRet f) := PS.weak (ps_ret he) fun Dn σ H h => by
  obtain ⟨M, B, L, ρ, p, h⟩ := h
  exact ⟨M, B, L, ρ, p, (post.st h).mono fun w L1 M1 eA R x q v rv => q M1 v eA R (Ext.refl M1) rv⟩
def sRetN : SS := fun _ _ L => .ret (.d .non) L
theorem js_retN {pos : Pos} : JS X T (.Return none pos) sRetN := PS.weak ps_retN fun Dn σ H h => by
  obtain ⟨M, B, L, ρ, p, h⟩ := h
  have : Dn.rt .non M.H := h M .non p.eA p.rep (Ext.refl M) rfl
  rw [p.eH] at this
  exact this
theorem js_pass {pos : Pos} : JS X T (.Pass pos) sNil := PS.weak ps_pass fun Dn σ H h => by
  obtain ⟨M, B, L, ρ, p, h⟩ := h
  have := h.ext_next p.eA p.rep p.rs
  rw [p.eH] at this
  exact this
def sBrk : SS := fun _ ρ L => .brk ρ L
def sCnt : SS := fun _ ρ L => .cnt ρ L
theorem js_break {pos : Pos} : JS X T (.Break pos) sBrk := PS.weak ps_break fun Dn σ H h => by
  obtain ⟨M, B, L, ρ, p, h⟩ := h
  have : Dn.bk σ M.H := h M σ p.eA p.rep (Ext.refl M) p.rs
  rw [p.eH] at this
  exact this
theorem js_continue {pos : Pos} : JS X T (.Continue pos) sCnt := PS.weak ps_continue fun Dn σ H h => by
  obtain ⟨M, B, L, ρ, p, h⟩ := h
  have : Dn.ct σ M.H := h M σ p.eA p.rep (Ext.refl M) p.rs
  rw [p.eH] at this
  exact this
theorem js_expr {e : Expr} {f : SE} {pos : Pos} (he : JE X T e f) (hs : swapsWith e none pos.line X.env = pure false := by rfl) : JS X T (.Expr e pos) (sExpr f) := PS.weak (ps_expr he hs) fun Dn σ H h => by
  obtain ⟨M, B, L, ρ, p, h⟩ := h
  exact ⟨M, B, L, ρ, p, (post.st h).mono fun w L1 M1 eA R x q v rv => q.ext_next eA R (p.rs.ext p.rep x)⟩
theorem js_if {c : Expr} {a b : List Stmt} {f : ST} {fa fb : SS} {pos : Pos} (hc : JT X T c f) (ha : JSs X T a fa) (hb : JSs X T b fb) : JS X T (.If c a b pos) (sIf f fa fb) := PS.weak (ps_if hc ha hb) fun Dn σ H h => by
  obtain ⟨M, B, L, ρ, p, h⟩ := h
  refine ⟨M, B, L, ρ, p, (post.st h).mono fun c L1 M1 eA R x q => ?_⟩
  cases c with
  | true => rw [if_pos rfl] at q; rw [if_pos rfl]; exact ⟨M1, B, L1, ρ, p.next eA R x, q⟩
  | false => rw [if_neg Bool.false_ne_true] at q; rw [if_neg Bool.false_ne_true]; exact ⟨M1, B, L1, ρ, p.next eA R x, q⟩
theorem js_bad {st : Stmt} : JS X T st sBad := PS.weak ps_never fun Dn σ H h => by
  obtain ⟨M, B, L, ρ, p, h⟩ := h
  exact h
theorem jss_bad {sts : List Stmt} : JSs X T sts sBad := PSs.weak pss_never fun Dn σ H h => by
  obtain ⟨M, B, L, ρ, p, h⟩ := h
  exact h

/-! ### targets -/
theorem RS.set {K : PySem.W.Frag} {M : Mem} {ρ : Sl} {σ : L2.St} (h : RS K T M ρ σ) {w : W} {v : V} (r : RW K T M w v) (i : Nat) : RS K T M (ρ.set i (some w)) (σ.set i (some v)) := by
  refine ⟨by rw [List.length_set, List.length_set]; exact h.1, fun j u e => ?_⟩
  by_cases hj : i = j
  · subst hj
    have hl : i < ρ.length := by
      have := (List.getElem?_eq_some_iff.mp e).1
      rwa [List.length_set] at this
    rw [List.getElem?_set_self hl] at e
    cases e
    exact ⟨v, by rw [List.getElem?_set_self (by rw [← h.1]; exact hl)], r⟩
  · rw [List.getElem?_set_ne hj] at e
    obtain ⟨u', e1, r1⟩ := h.2 j u e
    exact ⟨u', by rw [List.getElem?_set_ne hj]; exact e1, r1⟩
/-- the slots but those of is stay -/
def Stay (is : List Nat) (σ σ' : L2.St) : Prop := σ'.length = σ.length ∧ ∀ j : Nat, j ∉ is → σ'[j]? = σ[j]?
theorem Stay.refl (is : List Nat) (σ : L2.St) : Stay is σ σ := ⟨rfl, fun _ _ => rfl⟩
def rG (K : PySem.W.Frag) (T : Tb) (g : SG) (is : List Nat) : TG := fun v σ H Q => ∃ M B L ρ w, Pt K T M B L ρ σ H ∧ RW K T M w v ∧ post K T M B (g w B ρ L) fun ρ' _ M' => ∀ σ', RS K T M' ρ' σ' → Stay is σ σ' → Q σ' M'.H
abbrev JG (X : Cx) (T : Tb) (e : Expr) (g : SG) (is : List Nat) : Prop := PG X e (rG X.K T g is)
theorem PG.weak {e : Expr} {t u : TG} (h : PG X e t) (w : ∀ v σ H Q, u v σ H Q → t v σ H Q) : PG X e u := ⟨fun pins s σ H v uu Q I r q => h.run pins s σ H v uu Q I r (w v σ H Q q)⟩
theorem PGs.weak {e : List Expr} {t u : TGs} (h : PGs X e t) (w : ∀ v σ H Q, u v σ H Q → t v σ H Q) : PGs X e u := ⟨fun pins s σ H v uu Q I r q => h.run pins s σ H v uu Q I r (w v σ H Q q)⟩
theorem jg_name {i : Nat} {x : Str} {pos : Pos} (hN : X.N.Nodup) (hi : X.N[i]? = some x := by rfl) (hx : Loc X.env.scope x := by first | exact .inl rfl | exact .inr rfl) (hf : X.fn x = true ∨ X.env.scope.names.lookup x = some .local := by first | exact .inl rfl | exact .inr rfl | assumption) : JG X T (.Name x pos) (gVar i) [i] :=
  PG.weak (pg_name hN hi hx hf) fun v σ H Q h => by
    obtain ⟨M, B, L, ρ, w, p, rw, h⟩ := h
    have : Q (σ.set i (some v)) M.H := h M p.eA p.rep (Ext.refl M) _ (p.rs.set rw i) ⟨List.length_set, fun j hj => List.getElem?_set_ne (fun e => hj (by simp [e]))⟩
    rw [p.eH] at this
    exact this
def rGs (K : PySem.W.Frag) (T : Tb) (gs : List SG) (is : List Nat) : TGs := fun vs σ H Q => ∃ M B L ρ xs, Pt K T M B L ρ σ H ∧ RVs K T M xs vs ∧ post K T M B (gAll gs xs B ρ L) fun ρ' _ M' => ∀ σ', RS K T M' ρ' σ' → Stay is σ σ' → Q σ' M'.H
abbrev JGs (X : Cx) (T : Tb) (es : List Expr) (gs : List SG) (is : List Nat) : Prop := PGs X es (rGs X.K T gs is)
theorem jgs_nil : JGs X T [] [] [] := PGs.weak pgs_nil fun vs σ H Q h => by
  obtain ⟨M, B, L, ρ, xs, p, rv, h⟩ := h
  cases xs with
  | nil =>
    have h : Q σ M.H := h M p.eA p.rep (Ext.refl M) σ p.rs (Stay.refl _ _)
    rw [p.eH] at h
    exact ⟨rv, h⟩
  | cons x xs => exact h.elim
theorem jgs_cons {e : Expr} {es : List Expr} {g : SG} {gs : List SG} {is js : List Nat} (h1 : JG X T e g is) (h2 : JGs X T es gs js) (hs : (assignEach (e :: es) X.env).map (·.2) = assign e X.env :: (assignEach es X.env).map (·.2) := by rfl) : JGs X T (e :: es) (g :: gs) (is ++ js) :=
  PGs.weak (pgs_cons h1 h2 hs) fun vs σ H Q h => by
    obtain ⟨M, B, L, ρ, xs, p, rv, h⟩ := h
    cases xs with
    | nil => exact h.elim
    | cons x xs =>
      obtain ⟨v, r, rfl, r1, r2⟩ := rv
      refine ⟨v, r, rfl, M, B, L, ρ, .d x, p, r1, (post.bind h).mono fun ρ1 L1 M1 eA R x' q σ1 rs st => ?_⟩
      refine ⟨M1, B, L1, ρ1, xs, ⟨rfl, eA, R, rs⟩, RVs.ext p.rep x' xs r r2, q.mono fun ρ2 L2 M2 _ _ _ k σ2 rs2 st2 => k σ2 rs2 ⟨st2.1.trans st.1, fun j hj => ?_⟩⟩
      rw [st2.2 j fun z => hj (List.mem_append_right _ z), st.2 j fun z => hj (List.mem_append_left _ z)]
theorem gAll_len : ∀ {gs : List SG} {xs : List D} {B : Hs} {ρ : Sl} {L : Hs} {ρ' : Sl} {L' : Hs}, gAll gs xs B ρ L = .ok ρ' L' → xs.length = gs.length
  | [], [], _, _, _, _, _, _ => rfl
  | [], _ :: _, _, _, _, _, _, h => by cases h
  | _ :: _, [], _, _, _, _, _, h => by cases h
  | g :: gs, x :: xs, B, ρ, L, ρ', L', h => by
    have h : (g (.d x) B ρ L).bind _ = _ := h
    cases e : g (.d x) B ρ L with
    | ok ρ1 L1 =>
      rw [e] at h
      rw [List.length_cons, List.length_cons, gAll_len h]
    | exc _ _ _ => rw [e] at h; cases h
    | bad => rw [e] at h; cases h
theorem jg_tup {es : List Expr} {k : Nat} {gs : List SG} {is : List Nat} {pos : Pos} (hc : X.calm = true) (h : JGs X T es gs is) (hn : (assignEach es X.env).length = gs.length := by rfl) (hst : (assignEach es X.env).findIdx? (·.1) = none := by rfl) : JG X T (.Tuple es k pos) (gTup gs) is :=
  PG.weak (pg_tup hc h hn hst) fun v σ H Q h => by
    obtain ⟨M, B, L, ρ, w, p, rw, h⟩ := h
    obtain ⟨pd, e1, d1, h⟩ := h.view p.rep p.eA rw
    obtain ⟨xs, ex, hg⟩ := h.opt
    clear h
    cases pd with
    | tup ys =>
      cases ex
      rcases d1 with ⟨a, vs, e1, e2, e3⟩ | ⟨_, _, _, e, _⟩ | ⟨_, _, _, _, e, _⟩
      · refine ⟨a, vs, e1, by rw [← p.eH]; exact e2.1, ?_, M, B, L, ρ, _, p, e3, hg⟩
        rw [← e3.length]
        cases e : gAll gs xs B ρ L with
        | ok ρ' L' => exact gAll_len e
        | exc _ _ _ => rw [e] at hg; exact hg.elim
        | bad => rw [e] at hg; exact hg.elim
      · cases e
      · cases e
    | _ => cases ex
theorem js_asg {tg e : Expr} {f : SE} {g : SG} {is : List Nat} {pos : Pos} (he : JE X T e f) (hg : JG X T tg g is) (hs : swapsWithSole [tg] e pos.line X.env = pure false := by rfl) (hw : swappedStores [tg] e X.env = pure none := by rfl)
    (h1 : (assignEach [tg] X.env).map (·.2) = [assign tg X.env] := by rfl) : JS X T (.Assign [tg] e pos) (sAsg f g) := PS.weak (ps_asg he hg hs hw h1) fun Dn σ H h => by
  obtain ⟨M, B, L, ρ, p, h⟩ := h
  refine ⟨M, B, L, ρ, p, (post.st h).mono fun w L1 M1 eA R x q v rv => ?_⟩
  exact ⟨M1, B, L1, ρ, w, p.next eA R x, rv, (post.st q).mono fun ρ' L2 M2 eA2 R2 x2 q2 σ' rs _ => q2.ext_next eA2 R2 rs⟩
theorem js_set {i : Nat} {x : Str} {e : Expr} {f : SE} {pos pos' : Pos} (hN : X.N.Nodup) (he : JE X T e f) (hi : X.N[i]? = some x := by rfl) (hx : Loc X.env.scope x := by first | exact .inl rfl | exact .inr rfl) (hs : swapsWith e (some (.Name x pos')) pos.line X.env = pure false := by rfl) (hf : X.fn x = true ∨ X.env.scope.names.lookup x = some .local := by first | exact .inl rfl | exact .inr rfl | assumption) :
    JS X T (.Assign [.Name x pos'] e pos) (sAsg f (gVar i)) := PS.weak (ps_set hN hi hx he hs hf) fun Dn σ H h => by
  obtain ⟨M, B, L, ρ, p, h⟩ := h
  refine ⟨M, B, L, ρ, p, (post.st h).mono fun w L1 M1 eA R x q v rv => ?_⟩
  have q2 := post.st q
  exact (q2.here eA R).ext_next eA R ((p.rs.ext p.rep x).set rv i)
theorem js_par {i j : Nat} {x y : Str} {a b : Expr} {f : SA} {px py pt pos : Pos} {kt k2 : Nat} {pt2 : Pos} (hc : X.calm = true) (hN : X.N.Nodup) (ha : JA X T [a, b] f) (hi : X.N[i]? = some x := by rfl) (hj : X.N[j]? = some y := by rfl) (hij : i ≠ j := by decide)
    (hx : X.env.scope.names.lookup x = some .local := by rfl) (hy : X.env.scope.names.lookup y = some .local := by rfl)
    (hw : swappedStores [.Tuple [.Name x px, .Name y py] kt pt] (.Tuple [a, b] k2 pt2) X.env = pure (some [x, y]) := by rfl)
    (hs : swapsWithSole [.Tuple [.Name x px, .Name y py] kt pt] (.Tuple [a, b] k2 pt2) pos.line X.env = pure false := by rfl) :
    JS X T (.Assign [.Tuple [.Name x px, .Name y py] kt pt] (.Tuple [a, b] k2 pt2) pos) (sPar i j f) := PS.weak (ps_par hc hN hi hj hij hx hy ha hw hs) fun Dn σ H h => by
  obtain ⟨M, B, L, ρ, p, h⟩ := h
  refine ⟨M, B, L, ρ, p, (post.st h).mono fun ws L1 M1 eA R x q vs rvs => ?_⟩
  cases ws with
  | nil => exact q.elim
  | cons w1 r1 =>
    cases r1 with
    | nil => exact q.elim
    | cons w2 r2 =>
      cases r2 with
      | cons _ _ => exact q.elim
      | nil =>
        obtain ⟨v1, s1, rfl, a1, v2, s2, rfl, a2, rfl⟩ := rvs
        exact ⟨v1, v2, rfl, q.ext_next eA R (((p.rs.ext p.rep x).set a1 i).set a2 j)⟩

/-! ### defs and calls -/
def spOf (K : PySem.W.Frag) (T : Tb) (np : Nat) (F : Fn) : Sp := fun vs H Q _ => vs.length = np ∧ ∃ M B L ws, M.H = H ∧ M.A = B ++ L ∧ Rep K T M ∧ RWs K T M ws vs ∧ post K T M B (F ws B L) fun w _ M' => ∀ v, RW K T M' w v → Q v M'.H
theorem je_call {F : Fn} {np k : Nat} {f : Addr} {fd : FuncData} {ps : List Str} {x : Str} {e : Expr} {es : List Expr} {a : SA} {p pos : Pos} (G : FnG X.prog X.w X.K X.mg X.base CX0 k f fd ps (spOf X.K T np F)) (hgu : X.A.guards = some []) (hr : Room k X.A)
    (hm : X.mg x = some (.ref f)) (hk : PySem.W.keepIn X.K (.ref f) = true) (hb : Binds X.K fd ps []) (ha : JA X T (e :: es) a) (hg : Gl X x := by rfl) (hdb : (x == ("__debug__" : Str)) = false := by decide)
    (he : starEach (e :: es) X.env = (false, eval e X.env) :: starEach es X.env := by rfl) (hpl : (backTo pos (starEach es X.env)).any (·.1) = false := by rfl) : JE X T (.Call (.Name x p) (e :: es) [] pos) (eCall np F a) :=
  PE.weak (pe_callG G hgu hr hg hm hk hb pass0 ha hdb he hpl) fun σ H Q h => by
    obtain ⟨M, B, L, ρ, p, h⟩ := h
    refine ⟨M, B, L, ρ, p, (post.bind h).mono fun ws L1 M1 eA R x q vs rvs => ?_⟩
    obtain ⟨hl, q⟩ := q.guard
    have hl := of_decide_eq_true hl
    exact ⟨by rw [← rvs.length]; exact hl, M1, B, L1, ws, rfl, eA, R, rvs, q⟩
theorem je_call0 {F : Fn} {k : Nat} {f : Addr} {fd : FuncData} {ps : List Str} {x : Str} {p pos : Pos} (G : FnG X.prog X.w X.K X.mg X.base CX0 k f fd ps (spOf X.K T 0 F)) (hgu : X.A.guards = some []) (hr : Room k X.A)
    (hm : X.mg x = some (.ref f)) (hk : PySem.W.keepIn X.K (.ref f) = true) (hb : Binds X.K fd ps []) (hg : Gl X x := by rfl) (hdb : (x == ("__debug__" : Str)) = false := by decide) : JE X T (.Call (.Name x p) [] [] pos) (eCall 0 F aNil) :=
  PE.weak (pe_callG0 G hgu hr hg hm hk hb pass0 hdb) fun σ H Q h => by
    obtain ⟨M, B, L, ρ, p, h⟩ := h
    have : spOf X.K T 0 F [] M.H Q E0 := ⟨rfl, M, B, L, [], rfl, p.eA, p.rep, rfl, h⟩
    rw [p.eH] at this
    exact this
/-- f(k = e, ..) -/
inductive JK (X : Cx) (T : Tb) : List Keyword → SA → Prop
  | nil : JK X T [] aNil
  | cons {nm : Option Str} {e : Expr} {kp : Pos} {ks : List Keyword} {f : SE} {g : SA} : JE X T e f → JK X T ks g → JK X T (⟨nm, e, kp⟩ :: ks) (aCons f g)
theorem JK.pk : ∀ {ks : List Keyword} {f : SA}, JK X T ks f → PK X ks (rA X.K T f)
  | _, _, .nil => ⟨fun pos pins s σ H Q I h => pk_nil.run pos pins s σ H Q I (by
    obtain ⟨M, B, L, ρ, p, h⟩ := h
    have := h M p.eA p.rep (Ext.refl M) [] rfl
    rw [p.eH] at this
    exact this)⟩
  | _, _, .cons h1 h2 => ⟨fun pos pins s σ H Q I h => (pk_cons h1 h2.pk).run pos pins s σ H Q I (by
    obtain ⟨M, B, L, ρ, p, h⟩ := h
    refine ⟨M, B, L, ρ, p, (post.bind h).mono fun w L1 M1 eA R x q v rv => ?_⟩
    refine ⟨M1, B, L1, ρ, p.next eA R x, (post.bind q).mono fun ws L2 M2 eA2 R2 x2 q2 vs rvs => ?_⟩
    exact q2.here eA2 R2 (v :: vs) ⟨v, vs, rfl, rv.ext R x2, rvs⟩)⟩
theorem je_callK {F : Fn} {np k : Nat} {f : Addr} {fd : FuncData} {ps ks : List Str} {x : Str} {kws : List Keyword} {a : SA} {p pos : Pos} (g : {α : Type} → List α → List α) (G : FnG X.prog X.w X.K X.mg X.base CX0 k f fd ps (spOf X.K T np F)) (hgu : X.A.guards = some []) (hr : Room k X.A)
    (hm : X.mg x = some (.ref f)) (hk : PySem.W.keepIn X.K (.ref f) = true) (hb : ∀ (s : Shared) (ws : List Value), ws.length = ks.length → BindsTo s fd ⟨[], ks.zip ws⟩ (ps.zip (g ws))) (hrel : ∀ {zs : List V} {ws : List Value}, Vals zs ws → Vals (g zs) (g ws))
    (hrw : ∀ {M : Mem} {ws : List W} {vs : List V}, RWs X.K T M ws vs → RWs X.K T M (g ws) (g vs)) (hn : ∀ {α : Type} (l : List α), l.length = ks.length → (g l).length = np)
    (ha : JK X T kws a) (hg : Gl X x := by rfl) (hdb : (x == ("__debug__" : Str)) = false := by decide) (hall : (backToKw pos (keywordEach kws X.env)).all (·.1.isSome) = true := by rfl) (hks : (backToKw pos (keywordEach kws X.env)).filterMap (·.1) = ks := by rfl)
    (hpl : ((backTo pos (starEach [] X.env)).any (·.1) || (backToKw pos (keywordEach kws X.env)).any (·.1.isNone)) = false := by rfl) : JE X T (.Call (.Name x p) [] kws pos) (eCallK ks.length np F (@g W) a) :=
  PE.weak (pe_callGK (g := g) G hgu hr hg hm hk hb hrel pass0 ha.pk hall hks hdb hpl) fun σ H Q h => by
    obtain ⟨M, B, L, ρ, p, h⟩ := h
    refine ⟨M, B, L, ρ, p, (post.bind h).mono fun ws L1 M1 eA R x q vs rvs => ?_⟩
    obtain ⟨hl, q⟩ := q.guard
    have hl := of_decide_eq_true hl
    have lv : vs.length = ks.length := by rw [← rvs.length]; exact hl
    exact ⟨lv, hn vs lv, M1, B, L1, g ws, rfl, eA, R, hrw rvs, q⟩
theorem rs_start {K : PySem.W.Frag} {M : Mem} {ws : List W} {vs : List V} (h : RWs K T M ws vs) (N : List Str) : RS K T M (ws.map some ++ List.replicate (N.length - ws.length) none) (start N vs) := by
  have hl := h.length
  refine ⟨by unfold L2.start; simp [hl], fun i w e => ?_⟩
  unfold L2.start
  have : ∀ {ws : List W} {vs : List V} {i : Nat} {w : W} {k j : Nat}, RWs K T M ws vs → (ws.map some ++ List.replicate k none)[i]? = some (some w) → ∃ v, (vs.map some ++ List.replicate j (none : Option V))[i]? = some (some v) ∧ RW K T M w v := by
    intro ws
    induction ws with
    | nil =>
      intro vs i w k j h e
      rw [List.map_nil, List.nil_append, List.getElem?_replicate] at e
      split at e <;> cases e
    | cons x xs ih =>
      intro vs i w k j h e
      obtain ⟨v, r, rfl, r1, r2⟩ := h
      cases i with
      | zero =>
        have e' : some (some x) = some (some w) := e
        cases e'
        exact ⟨v, rfl, r1⟩
      | succ i => exact ih (i := i) r2 e
  exact this h e
theorem spOf_body {K : PySem.W.Frag} {np : Nat} {N : List Str} {b : SS} {vs : List V} {H : Hp} {Q : VK} {E : XK} (h : spOf K T np (fnBody np N.length b) vs H Q E) : rS K T b { nx := fun _ H' => Q .non H', rt := Q } (start N vs) H := by
  obtain ⟨hl, M, B, L, ws, eH, eA, R, rv, h⟩ := h
  unfold fnBody at h
  rw [if_pos (by rw [rv.length]; exact hl)] at h
  refine ⟨M, B, L, _, ⟨eH, eA, R, rs_start rv N⟩, ?_⟩
  rw [show np = ws.length by rw [rv.length]; exact hl.symm] at h
  cases e : b B (ws.map some ++ List.replicate (N.length - ws.length) none) L with
  | next ρ' L' => rw [e] at h; exact fun M' σ' a' R' x' _ => h M' a' R' x' .non rfl
  | ret w L' => rw [e] at h; exact fun M' v a' R' x' rv => h M' a' R' x' v rv
  | brk _ _ => rw [e] at h; exact h.elim
  | cnt _ _ => rw [e] at h; exact h.elim
  | exc _ _ _ _ => rw [e] at h; exact h.elim
  | bad => rw [e] at h; exact h.elim
/-- the rule for a def, by its body -/
theorem fn_ok {P : Program} {w : World} {K : PySem.W.Frag} {mg : Str → Option Value} {base : Heap} {x qual : Str} {params : Arguments} {body : List Stmt} {scope : Scope} {dvs : List V} {kws : List (Str × V)} {f : Addr} {fd : FuncData} {N ps : List Str} {k : Nat} {b : SS}
    (F : FunD K x qual params body scope dvs kws f fd) (S : FnScope N ps scope)
    (hb : ∀ (cdv : Value) (A : Around) (outer : List Env) (s : Shared) (H : Hp) (E : XK), A.guards = some [] → Room k (A.deeper (envOfC qual scope s.heap.objs.size f cdv)) → JSs (cxOf CX0 P w K mg base N qual scope f cdv A outer s H E).nox T body b) :
    FnG P w K mg base CX0 (k + 1) f fd ps (spOf K T ps.length (fnBody ps.length N.length b)) :=
  fnG_of F S (fun vs H Q E h => h.1) fun cdv A outer s H vs Q E hg hr h => ⟨rS K T b, PSs.nox (hb cdv A outer s H E hg hr), spOf_body h⟩
/-! a call that changes nothing that stood before -/
theorem RW.out {K : PySem.W.Frag} {M' : Mem} {B L' : Hs} (R : Rep K T M') (eA : M'.A = B ++ L') {w w' : W} {v : V} (h : out B.length L' w = some w') (r : RW K T M' w v) : RW K T { M' with A := B } w' v := by
  have lv : ∀ n, liveAt B n → liveAt M'.A n := fun n ⟨o, e, l⟩ => ⟨o, by rw [eA, List.getElem?_append_left (List.getElem?_eq_some_iff.mp e).1]; exact e, l⟩
  cases w with
  | d x =>
    cases h
    exact RV.less (H := M'.H) (m := M'.m) lv x v r
  | ref k =>
    obtain ⟨hk, rfl⟩ := r
    unfold Ev.out at h
    dsimp only at h
    split at h
    · rename_i hlt
      cases h
      exact ⟨hlt, rfl⟩
    · rename_i hge
      have at_ : ∀ o, L'[k - B.length]? = some o → M'.A[k]? = some o := fun o e => by rw [eA, List.getElem?_append_right (by omega)]; exact e
      have sep : ∀ o, L'[k - B.length]? = some o → o.live = true → Sep { M' with A := B } (M'.m k) := fun o e l => ⟨fun n ln q => by
        have h1 : n = k := R.inj n k (lv n ln) ⟨o, at_ o e, l⟩ q
        obtain ⟨o', e', _⟩ := ln
        have h2 : n < B.length := (List.getElem?_eq_some_iff.mp e').1
        omega, fun hs => (R.sc _ hs).2 k ⟨o, at_ o e, l⟩ rfl⟩
      split at h
      · rename_i x e
        cases h
        exact RV.less (H := M'.H) (m := M'.m) lv x _ (R.at_ k _ (at_ _ e))
      · rename_i ws e
        obtain ⟨vs, q, rw⟩ := R.at_ k _ (at_ _ e)
        cases ea : allD ws with
        | none => rw [ea] at h; cases h
        | some xs =>
          rw [ea] at h
          cases h
          exact ⟨_, vs, rfl, sep _ e rfl, q, RVs.less (H := M'.H) (m := M'.m) lv xs vs (RWs.toD ea rw)⟩
      · rename_i ks ws e
        obtain ⟨kvs, q, kk, rw⟩ := R.at_ k _ (at_ _ e)
        cases ea : allD ws with
        | none => rw [ea] at h; cases h
        | some xs =>
          rw [ea] at h
          cases h
          exact ⟨_, kvs, rfl, sep _ e rfl, q, kk, RVs.less (H := M'.H) (m := M'.m) lv xs _ (RWs.toD ea rw)⟩
      · rename_i ks ws e
        obtain ⟨kvs, q, k1, k2, rk, rw⟩ := R.at_ k _ (at_ _ e)
        cases ea : allD ws with
        | none => rw [ea] at h; cases h
        | some xs =>
          rw [ea] at h
          cases h
          exact ⟨_, kvs, rfl, sep _ e rfl, q, k1, k2, RVs.less (H := M'.H) (m := M'.m) lv ks _ rk, RVs.less (H := M'.H) (m := M'.m) lv xs _ (RWs.toD ea rw)⟩
      · rename_i c fs e
        obtain ⟨dx, gs, q, kk, rw⟩ := R.at_ k _ (at_ _ e)
        cases ea : allD (fs.map (·.2)) with
        | none => rw [ea] at h; cases h
        | some xs =>
          rw [ea] at h
          cases h
          exact ⟨_, dx, gs, rfl, sep _ e rfl, q, by rw [kk, List.map_map]; rfl, RVs.less (H := M'.H) (m := M'.m) lv xs _ (RWs.toD ea rw)⟩
      · cases h
theorem RWs.back {K : PySem.W.Frag} {M M' : Mem} {A : Hs} (lv : ∀ n, liveAt A n → liveAt M'.A n) (hA : A = M.A) : ∀ {ws : List W} {vs us : List V}, RWs K T M ws vs → RWs K T M' ws us → RWs K T { M' with A := A } ws us
  | [], _, us, _, h => h
  | .d x :: ws, vs, us, h1, h2 => by
    obtain ⟨v, r, rfl, a1, a2⟩ := h1
    obtain ⟨u, r', rfl, b1, b2⟩ := h2
    exact ⟨u, r', rfl, RV.less (H := M'.H) (m := M'.m) lv x u b1, RWs.back lv hA a2 b2⟩
  | .ref k :: ws, vs, us, h1, h2 => by
    obtain ⟨v, r, rfl, a1, a2⟩ := h1
    obtain ⟨u, r', rfl, b1, b2⟩ := h2
    exact ⟨u, r', rfl, ⟨by rw [show ({ M' with A := A } : Mem).A = M.A from hA]; exact a1.1, b1.2⟩, RWs.back lv hA a2 b2⟩
theorem spOf_pure {K : PySem.W.Frag} {np : Nat} {F : Fn} {vs : List V} {H : Hp} {Q : VK} {E : XK} (h : spOf K T np (pureFn F) vs H Q E) : spOf K T np F vs H Q E := by
  obtain ⟨hl, M, B, L, ws, eH, eA, R, rv, h⟩ := h
  refine ⟨hl, M, B ++ L, [], ws, eH, by rw [List.append_nil]; exact eA, R, rv, ?_⟩
  unfold pureFn at h
  cases e : F ws (B ++ L) [] with
  | exc _ _ _ => rw [e] at h; exact h.elim
  | bad => rw [e] at h; exact h.elim
  | ok w L' =>
    rw [e] at h
    dsimp only at h
    intro M' eA' R' x' v rw'
    cases eo : out (B ++ L).length L' w with
    | none => rw [eo] at h; exact h.elim
    | some w' =>
      rw [eo] at h
      have lv : ∀ n, liveAt (B ++ L) n → liveAt M'.A n := fun n ⟨o, e, l⟩ => ⟨o, by rw [eA', List.getElem?_append_left (List.getElem?_eq_some_iff.mp e).1]; exact e, l⟩
      have R2 : Rep K T { M' with A := B ++ L } := by
        refine ⟨fun i j li lj q => R'.inj i j (lv i li) (lv j lj) q, fun n o q => ?_, fun a ha => ⟨(R'.sc a ha).1, fun n l => (R'.sc a ha).2 n (lv n l)⟩⟩
        have q : (B ++ L)[n]? = some o := q
        have hn := (List.getElem?_eq_some_iff.mp q).1
        have r' := R'.at_ n o (by rw [eA', List.getElem?_append_left hn]; exact q)
        have r := R.at_ n o (by rw [eA]; exact q)
        cases o with
        | frz x => exact RV.less (H := M'.H) (m := M'.m) lv x _ r'
        | lst ws => obtain ⟨vs, h1, h2⟩ := r; obtain ⟨us, g1, g2⟩ := r'; exact ⟨us, g1, RWs.back lv eA.symm h2 g2⟩
        | dct ks ws => obtain ⟨kvs, h1, k1, h2⟩ := r; obtain ⟨us, g1, k2, g2⟩ := r'; exact ⟨us, g1, k2, RWs.back lv eA.symm h2 g2⟩
        | ins c fs => obtain ⟨dx, gs, h1, k1, h2⟩ := r; obtain ⟨dx', us, g1, k2, g2⟩ := r'; exact ⟨dx', us, g1, k2, RWs.back lv eA.symm h2 g2⟩
        | dcn ks ws => obtain ⟨kvs, h1, i1, k1, j1, h2⟩ := r; obtain ⟨us, g1, i2, k2, j2, g2⟩ := r'; exact ⟨us, g1, i2, k2, RVs.less (H := M'.H) (m := M'.m) lv _ _ j2, RWs.back lv eA.symm h2 g2⟩
      have x2 : Ext M { M' with A := B ++ L } := ⟨⟨by rw [eA]; exact Nat.le_refl _, x'.same, fun n y q => by rw [← eA]; exact q, fun n hn l => by
        obtain ⟨o, e1, _⟩ := l
        rw [eA] at hn
        exact absurd (List.getElem?_eq_some_iff.mp e1).1 (Nat.not_lt.mpr hn), x'.keep, x'.there, x'.scr⟩, x'.sq, x'.ks⟩
      exact h { M' with A := B ++ L } rfl R2 x2 v (RW.out R' eA' eo rw')
theorem fn_pure {P : Program} {w : World} {K : PySem.W.Frag} {mg : Str → Option Value} {base : Heap} {f : Addr} {fd : FuncData} {ps : List Str} {k np : Nat} {F : Fn} (G : FnG P w K mg base CX0 k f fd ps (spOf K T np F)) : FnG P w K mg base CX0 k f fd ps (spOf K T np (pureFn F)) :=
  G.imp fun vs H Q E h => spOf_pure h
end
end Ev

set_option Elab.async false
set_option linter.all false
set_option maxRecDepth 100000
set_option maxHeartbeats 1000000
set_option autoImplicit false
/-! EvL: loops, comprehensions. -/
namespace Ev
open PySem PySem.Spec PyProof.Rows L2
/-! ### what is walked -/
section
variable {X : Cx} {T : Tb}
/-- at a later moment -/
def At (K : PySem.W.Frag) (T : Tb) (B : Hs) (M0 : Mem) (H : Hp) : Prop := ∃ M L', M.H = H ∧ M.A = B ++ L' ∧ Rep K T M ∧ Ext0 M0 M
/-- an iterator of the items xs -/
def Wk (K : PySem.W.Frag) (T : Tb) (J : It) (xs : List D) (B : Hs) (M0 : Mem) : Prop := ∃ Y, Walk J xs.length (At K T B M0) Y ∧
    ∀ (i : Nat) (v : V) (H' : Hp) (M : Mem) (L' : Hs) (x : D), Y i M.H v H' → M.A = B ++ L' → Rep K T M → Ext0 M0 M → xs[i]? = some x → ∃ M', M'.H = H' ∧ M'.A = M.A ∧ Rep K T M' ∧ Ext M M' ∧ RV K T M' x v
def rI (K : PySem.W.Frag) (T : Tb) (f : SI) : TI := fun σ H R => ∃ M B L ρ, Pt K T M B L ρ σ H ∧ post K T M B (f B ρ L) fun xs _ M' => ∀ J, Wk K T J xs B M' → R J M'.H
abbrev JI (X : Cx) (T : Tb) (tg iter : Expr) (f : SI) : Prop := PI X tg iter (rI X.K T f)
theorem PI.weak {tg e : Expr} {t u : TI} (h : PI X tg e t) (w : ∀ σ H R, u σ H R → t σ H R) : PI X tg e u := ⟨fun pins s σ H R I q => h.run pins s σ H R I (w σ H R q)⟩
theorem wk_at {K : PySem.W.Frag} {J : It} {xs : List D} {vs : List V} {B : Hs} {M0 : Mem} (R0 : Rep K T M0) (hv : RVs K T M0 xs vs) (w : Walk J vs.length (At K T B M0) (YAt vs)) : Wk K T J xs B M0 := by
  refine ⟨YAt vs, by rw [hv.length]; exact w, fun i v H' M L' x y eA R e hx => ?_⟩
  obtain ⟨rfl, hvi⟩ := y
  obtain ⟨u, e1, r1⟩ := hv.get hx
  rw [hvi] at e1
  cases e1
  exact ⟨M, rfl, rfl, R, Ext.refl M, RV.ext0 R0 e x v r1⟩
/-- a list of the callers, that may not be changed here -/
theorem wk_base {K : PySem.W.Frag} {xs : List D} {B : Hs} {M0 : Mem} {n : Nat} {ws : List W} (R0 : Rep K T M0) (hl : M0.A.length > n) (hn : B[n]? = some (.lst ws)) (ha : allD ws = some xs) : Wk K T (Itl K (M0.m n)) xs B M0 := by
  have at_ : ∀ {M : Mem} {L' : Hs}, M.A = B ++ L' → Rep K T M → Ext0 M0 M → ∃ vs, M.H (M0.m n) = some (.lst vs) ∧ RVs K T M xs vs := fun {M L'} eA R e => by
    have q := R.at_ n (.lst ws) (by rw [eA, List.getElem?_append_left (List.getElem?_eq_some_iff.mp hn).1]; exact hn)
    obtain ⟨vs, h1, h2⟩ := q
    rw [e.same n hl] at h1
    exact ⟨vs, h1, RWs.toD ha h2⟩
  refine ⟨fun i H v H' => H' = H ∧ ∀ us, SqL K H (M0.m n) us → us[i]? = some v, ⟨fun i H hi g => ?_, fun H g => ?_, fun i H v H' hi g y => y⟩, fun i v H' M L' x y eA R e hx => ?_⟩
  · obtain ⟨M, L', rfl, eA, R, e⟩ := g
    obtain ⟨vs, h1, h2⟩ := at_ eA R e
    have hi' : i < vs.length := by rw [← h2.length]; exact hi
    exact ⟨vs, vs[i], .inl (.inl h1), by simp [hi']⟩
  · obtain ⟨M, L', rfl, eA, R, e⟩ := g
    obtain ⟨vs, h1, h2⟩ := at_ eA R e
    exact ⟨vs, .inl (.inl h1), by rw [← h2.length]; exact Nat.le_refl _⟩
  · obtain ⟨rfl, y⟩ := y
    obtain ⟨vs, h1, h2⟩ := at_ eA R e
    obtain ⟨u, e1, r1⟩ := h2.get hx
    have := y vs (.inl (.inl h1))
    rw [e1] at this
    cases this
    exact ⟨M, rfl, rfl, R, Ext.refl M, r1⟩
/-- what a value that is walked may be -/
theorem still_cases {K : PySem.W.Frag} {M : Mem} {B L : Hs} (R : Rep K T M) (eA : M.A = B ++ L) {w : W} {v : V} {p : D} (h : still B L w = some p) (r : RW K T M w v) : RV K T M p v ∨ ∃ n ws xs, n < M.A.length ∧ B[n]? = some (.lst ws) ∧ p = .lst xs ∧ v = .ref (M.m n) ∧ allD ws = some xs := by
  cases w with
  | d x => cases h; exact .inl r
  | ref n =>
    obtain ⟨hn, rfl⟩ := r
    unfold still look at h
    rw [← eA] at h
    dsimp only at h
    split at h
    · rename_i x e
      cases h
      exact .inl (R.at_ n _ e)
    · rename_i ws e
      split at h
      · rename_i hb
        cases ea : allD ws with
        | none => rw [ea] at h; cases h
        | some xs =>
          rw [ea] at h
          cases h
          refine .inr ⟨n, ws, xs, hn, ?_, rfl, rfl, ea⟩
          rw [eA, List.getElem?_append_left hb] at e
          exact e
      · cases h
    · cases h
theorem still_sq {K : PySem.W.Frag} {M : Mem} {B L : Hs} (R : Rep K T M) (eA : M.A = B ++ L) {w : W} {v : V} {xs : List D} (h : still B L w = some (.lst xs)) (r : RW K T M w v) : ∃ a, v = .ref a ∧ (∃ vs, SqL K M.H a vs) ∧ Wk K T (Itl K a) xs B M := by
  rcases still_cases R eA h r with ⟨a, vs, rfl, sp, l, rv⟩ | ⟨n, ws, xs', hn, hb, e, rfl, ea⟩
  · refine ⟨a, rfl, ⟨vs, .inl (.inl l)⟩, wk_at R rv ?_⟩
    exact walk_list.mono (fun H ⟨M', L', eH, _, R', e'⟩ => eH ▸ .inl (.inl (e'.keep _ _ l sp))) fun i H x H' _ _ y => y
  · cases e
    obtain ⟨vs, h1, h2⟩ := R.at_ n (.lst ws) (by rw [eA, List.getElem?_append_left (List.getElem?_eq_some_iff.mp hb).1]; exact hb)
    exact ⟨_, rfl, ⟨vs, .inl (.inl h1)⟩, wk_base R hn hb ea⟩
theorem still_scr {K : PySem.W.Frag} {M : Mem} {B L : Hs} (R : Rep K T M) (eA : M.A = B ++ L) {w : W} {v : V} {xs : List D} (h : still B L w = some (.scr xs)) (r : RW K T M w v) : ∃ a, v = .ref a ∧ (∃ vs, SqL K M.H a vs) ∧ Wk K T (Itl K a) xs B M := by
  rcases still_cases R eA h r with ⟨a, vs, rfl, s, rv⟩ | ⟨n, ws, xs', hn, hb, e, rfl, ea⟩
  · rcases s with ⟨sp, l⟩ | k
    · refine ⟨a, rfl, ⟨vs, .inl l⟩, wk_at R rv ?_⟩
      exact walk_list.mono (fun H ⟨M', L', eH, _, R', e'⟩ => eH ▸ .inl (e'.rd l sp)) fun i H x H' _ _ y => y
    · refine ⟨a, rfl, ⟨vs, .inr k⟩, wk_at R rv ?_⟩
      exact walk_list.mono (fun H _ => .inr k) fun i H x H' _ _ y => y
  · cases e
/-! the iterators of lists, tuples, texts: which one it is shows when the value has come -/
theorem pi_seq {tg e : Expr} {te : TE} (he : PE X e te) : PI X tg e (fun σ H R => te σ H fun x H1 => (∃ a xs, x = .ref a ∧ SqL X.K H1 a xs ∧ R (Itl X.K a) H1) ∨ (∃ a xs, x = .ref a ∧ SqT X.K H1 a xs ∧ R (Itt X.K a) H1) ∨ ∃ z, x = .str z ∧ R (Its z) H1) := by
  refine ⟨fun pins s σ H R I h => thn (he.run pins s σ H _ I h) fun v s1 hv => ?_⟩
  obtain ⟨x, H1, I1, rx, q⟩ := hv
  rcases q with ⟨a, xs, rfl, hq, q⟩ | ⟨a, xs, rfl, hq, q⟩ | ⟨z, rfl, q⟩
  · obtain rfl : v = Value.ref a := rx
    obtain ⟨its, _, pl, _⟩ := I1.list hq
    exact wpAny_pyIter_list pl.isList (pi_one (tk := s1.toks) I1 _ (turn_list a _) ⟨_, Heap.get?_push_size _ rfl, rfl, rfl⟩ q)
  · obtain rfl : v = Value.ref a := rx
    obtain ⟨its, _, pl, _⟩ := I1.tuple hq
    exact wpAny_pyIter_tuple (show s1.heap.IsTuple a its.toArray from pl) (pi_one (tk := s1.toks) I1 _ (turn_tuple a _) ⟨_, Heap.get?_push_size _ rfl, rfl, rfl⟩ q)
  · obtain ⟨t, rfl⟩ := rx
    by_cases hz : z.cps.all (· < 128) = true
    · exact wpAny_pyIter_ascii hz (pi_one (tk := s1.toks) I1 _ (turn_str _ z t "str_ascii_iterator" (.inl rfl)) ⟨_, Heap.get?_push_size _ rfl, rfl, rfl⟩ q)
    · exact wpAny_pyIter_wide (Bool.not_eq_true _ ▸ hz) (pi_one (tk := s1.toks) I1 _ (turn_str _ z t "str_iterator" (.inr rfl)) ⟨_, Heap.get?_push_size _ rfl, rfl, rfl⟩ q)
theorem wk_str {K : PySem.W.Frag} {B : Hs} {M0 : Mem} (s : List Nat) : Wk K T (Its ⟨s.toArray⟩) (s.map fun c => .str [c]) B M0 := by
  refine ⟨_, (walk_str (z := ⟨s.toArray⟩)).mono (G' := At K T B M0) (fun _ _ => trivial) (fun i H x H' _ _ y => y) |> fun w => by
    have e : (s.map fun c => D.str [c]).length = (⟨s.toArray⟩ : Str).cps.size := by simp
    rw [e]; exact w, fun i v H' M L' x y eA R e hx => ?_⟩
  obtain ⟨rfl, c, hc, rfl⟩ := y
  refine ⟨M, rfl, rfl, R, Ext.refl M, ?_⟩
  have hc : s.toArray[i]? = some c := hc
  rw [List.getElem?_map] at hx
  have hs : s[i]? = some c := by simpa using hc
  rw [hs] at hx
  cases hx
  rfl
theorem ji_seq {tg e : Expr} {f : SE} (he : JE X T e f) : JI X T tg e (iE f) := PI.weak (pi_seq he) fun σ H R h => by
  obtain ⟨M, B, L, ρ, p, h⟩ := h
  refine ⟨M, B, L, ρ, p, (post.bind h).mono fun w L1 M1 eA Rp x q v rv => ?_⟩
  obtain ⟨pd, ep, q⟩ := q.opt
  obtain ⟨xs, ex, q⟩ := q.opt1
  cases pd with
  | lst ys =>
    cases ex
    obtain ⟨a, rfl, ⟨vs, hs⟩, wk⟩ := still_sq Rp eA ep rv
    exact .inl ⟨a, vs, rfl, hs, q.here eA Rp _ wk⟩
  | scr ys =>
    cases ex
    obtain ⟨a, rfl, ⟨vs, hs⟩, wk⟩ := still_scr Rp eA ep rv
    exact .inl ⟨a, vs, rfl, hs, q.here eA Rp _ wk⟩
  | tup ys =>
    cases ex
    rcases still_cases Rp eA ep rv with ⟨a, vs, rfl, s, rv⟩ | ⟨n, ws, xs', hn, hb, e, rfl, ea⟩
    · exact .inr (.inl ⟨a, vs, rfl, s.1, q.here eA Rp _ (wk_at Rp rv (walk_tup.mono (fun H ⟨M', L', eH, _, R', e'⟩ => eH ▸ e'.sqT Rp s.1) fun i H x H' _ _ y => y))⟩)
    · cases e
  | str s =>
    cases ex
    rcases still_cases Rp eA ep rv with e | ⟨n, ws, xs', hn, hb, e, _⟩
    · exact .inr (.inr ⟨_, e, q.here eA Rp _ (wk_str s)⟩)
    · cases e
  | _ => cases ex
theorem wk_range {K : PySem.W.Frag} {B : Hs} {M0 : Mem} (n : Nat) : Wk K T (Itr 0 n) ((List.range n).map fun (i : Nat) => .int i) B M0 := by
  refine ⟨_, (walk_range (lo := 0) (n := n)).mono (G' := At K T B M0) (fun _ _ => trivial) (fun i H x H' _ _ y => y) |> fun w => by
    have e : ((List.range n).map fun (i : Nat) => D.int i).length = n := by simp
    rw [e]; exact w, fun i v H' M L' x y eA R e hx => ?_⟩
  obtain ⟨rfl, rfl⟩ := y
  refine ⟨M, rfl, rfl, R, Ext.refl M, ?_⟩
  rw [List.getElem?_map] at hx
  cases hr : (List.range n)[i]? with
  | none => rw [hr] at hx; cases hx
  | some j =>
    rw [hr] at hx
    have hj : j = i := by
      have := List.getElem?_eq_some_iff.mp hr
      obtain ⟨h1, h2⟩ := this
      rw [List.getElem_range] at h2
      exact h2.symm
    cases hx
    subst hj
    show V.int (0 + (j : Int)) = V.int j
    rw [Int.zero_add]
theorem ji_range {tg a : Expr} {f : SE} {p pos : Pos} (hm : X.mg "range" = none) (ha : JE X T a f) (hg : Gl X "range" := by rfl) (hs : starEach [a] X.env = [(false, eval a X.env)] := by rfl) : JI X T tg (.Call (.Name "range" p) [a] [] pos) (iRange f) :=
  PI.weak (pi_range1 hg hm (pa_cons ha pa_nil hs) hs) fun σ H R h => by
    obtain ⟨M, B, L, ρ, p, h⟩ := h
    refine ⟨M, B, L, ρ, p, (post.bind h).mono fun w L1 M1 eA Rp x q v rv => ?_⟩
    obtain ⟨pd, ev, dv, q⟩ := q.view Rp eA rv
    obtain ⟨j, ej, q1⟩ := q.opt
    obtain ⟨hj, q9⟩ := q1.guard
    have hj := of_decide_eq_true hj
    clear q q1
    cases pd with
    | int i =>
      cases ej
      rcases dv with rfl | ⟨_, _, _, e, _⟩ | ⟨_, _, _, _, e, _⟩
      · exact ⟨j, rfl, hj.1, hj.2, q9.here eA Rp _ (wk_range _)⟩
      · cases e
      · cases e
    | _ => cases ej

/-! ### for, while -/
theorem js_for {tg iter : Expr} {body : List Stmt} {f : SI} {g : SG} {is : List Nat} {b : SS} {pos : Pos} (hp : PassesOwn (model X.prog X.w) X.A X.env X.xe) (hc : X.calm = true) (hi : JI X T tg iter f) (hg : JG X T tg g is) (hb : JSs X T body b)
    (hs : ∀ x, foldedSetIterable iter X.env x = pure x := by intro _; rfl) : JS X T (.For tg iter body [] pos) (sFor f g b) := PS.weak (ps_for hp hc hi hg hb hs) fun Dn σ H h => by
  obtain ⟨M, B, L, ρ, p, h⟩ := h
  refine ⟨M, B, L, ρ, p, (post.st h).mono fun xs L1 M1 eA R x q J wk => ?_⟩
  obtain ⟨Y, w, hy⟩ := wk
  refine for_it w (fun i σ' H' => ∃ M' L' ρ', M'.H = H' ∧ M'.A = B ++ L' ∧ Rep X.K T M' ∧ Ext M1 M' ∧ RS X.K T M' ρ' σ' ∧ postS X.K T M' B (forGo g b B (xs.drop i) ρ' L') Dn) ?_ ?_ ?_ ?_
  · exact ⟨M1, L1, ρ, rfl, eA, R, Ext.refl M1, p.rs.ext p.rep x, q⟩
  · rintro i σ' H' _ ⟨M', L', ρ', e1, e2, e3, e4, _⟩
    exact ⟨M', L', e1, e2, e3, e4.toExt0⟩
  · rintro i v σ' H' H'' hlt ⟨M', L', ρ', rfl, e2, R', e4, rs, q⟩ y
    have hx : xs[i]? = some xs[i] := List.getElem?_eq_getElem hlt
    obtain ⟨M2, rfl, a2, R2, x2, rv⟩ := hy i v H'' M' L' _ y e2 R' e4.toExt0 hx
    rw [List.drop_eq_getElem_cons hlt] at q
    refine ⟨M2, B, L', ρ', .d xs[i], ⟨rfl, a2.trans e2, R2, rs.ext R' x2⟩, rv, (post.st (postS.later q x2)).mono fun ρ1 L2 M3 a3 R3 x3 q σ2 rs2 _ => ?_⟩
    refine ⟨M3, B, L2, ρ1, ⟨rfl, a3, R3, rs2⟩, ?_⟩
    have base : Ext M1 M3 := (e4.trans x2).trans x3
    cases e : b B ρ1 L2 with
    | next ρ2 L3 =>
      rw [e] at q
      exact fun M4 σ4 a4 R4 x4 rs4 => ⟨M4, L3, ρ2, rfl, a4, R4, base.trans x4, rs4, postS.later q x4⟩
    | cnt ρ2 L3 =>
      rw [e] at q
      exact fun M4 σ4 a4 R4 x4 rs4 => ⟨M4, L3, ρ2, rfl, a4, R4, base.trans x4, rs4, postS.later q x4⟩
    | brk ρ2 L3 => rw [e] at q; exact q
    | ret w L3 => rw [e] at q; exact q
    | exc _ _ _ _ => rw [e] at q; exact q.elim
    | bad => rw [e] at q; exact q.elim
  · rintro σ' H' ⟨M', L', ρ', rfl, e2, R', e4, rs, q⟩
    rw [List.drop_length] at q
    exact q.ext_next e2 R' rs
theorem js_while {c : Expr} {body : List Stmt} {f : ST} {b : SS} {n : Nat} {pos : Pos} (hp : PassesOwn (model X.prog X.w) X.A X.env X.xe) (hc : JT X T c f) (hb : JSs X T body b) : JS X T (.While c body [] pos) (sWhile n f b) := PS.weak (ps_while hp hc hb) fun Dn σ H h => by
  obtain ⟨M, B, L, ρ, p, h⟩ := h
  refine ⟨fun m σ H => ∃ M B L ρ, Pt X.K T M B L ρ σ H ∧ postS X.K T M B (whileGo f b B m ρ L) Dn, ⟨n, M, B, L, ρ, p, h⟩, fun m σ H hW => ?_⟩
  obtain ⟨M, B, L, ρ, p, h⟩ := hW
  cases m with
  | zero => exact (h : False).elim
  | succ m =>
    refine ⟨M, B, L, ρ, p, (post.st h).mono fun k L1 M1 eA R x q => ?_⟩
    cases k with
    | false => rw [if_neg Bool.false_ne_true] at q; rw [if_neg Bool.false_ne_true]; exact q.ext_next eA R (p.rs.ext p.rep x)
    | true =>
      rw [if_pos rfl] at q
      rw [if_pos rfl]
      refine ⟨fun σ' H' => ∃ M B L ρ, Pt X.K T M B L ρ σ' H' ∧ postS X.K T M B (whileGo f b B m ρ L) Dn, fun σ' H' hN => ⟨m, Nat.lt_succ_self m, hN⟩, M1, B, L1, ρ, p.next eA R x, ?_⟩
      cases e : b B ρ L1 with
      | next ρ2 L3 =>
        rw [e] at q
        exact fun M4 σ4 a4 R4 x4 rs4 => ⟨M4, B, L3, ρ2, ⟨rfl, a4, R4, rs4⟩, postS.later q x4⟩
      | cnt ρ2 L3 =>
        rw [e] at q
        exact fun M4 σ4 a4 R4 x4 rs4 => ⟨M4, B, L3, ρ2, ⟨rfl, a4, R4, rs4⟩, postS.later q x4⟩
      | brk ρ2 L3 => rw [e] at q; exact q
      | ret w L3 => rw [e] at q; exact q
      | exc _ _ _ _ => rw [e] at q; exact q.elim
      | bad => rw [e] at q; exact q.elim

/-! ### comprehensions -/
theorem wipe_get (σ : L2.St) : ∀ (vs : List Nat) (j : Nat), j ∉ vs → (L2.wipe σ vs)[j]? = σ[j]?
  | [], _, _ => rfl
  | v :: vs, j, h => by
    unfold L2.wipe
    rw [List.getElem?_set_ne (fun e => h (by simp [e])), wipe_get σ vs j fun z => h (List.mem_cons_of_mem _ z)]
theorem wipe_in (σ : L2.St) : ∀ (vs : List Nat) (j : Nat), j ∈ vs → j < σ.length → (L2.wipe σ vs)[j]? = some none
  | v :: vs, j, h, hl => by
    unfold L2.wipe
    by_cases e : v = j
    · subst e
      rw [List.getElem?_set_self (by rw [wipe_length]; exact hl)]
    · rw [List.getElem?_set_ne e]
      exact wipe_in σ vs j ((List.mem_cons.mp h).resolve_left fun z => e z.symm) hl
theorem wipe_stay {σ σ' : L2.St} {is vs : List Nat} (h : Stay is (L2.wipe σ vs) σ') (hi : ∀ i ∈ is, i ∈ vs) : L2.wipe σ' vs = L2.wipe σ vs := by
  apply List.ext_getElem?
  intro j
  have hl : σ'.length = σ.length := by rw [h.1, wipe_length]
  by_cases hj : j ∈ vs
  · by_cases hjl : j < σ.length
    · rw [wipe_in σ' vs j hj (by rw [hl]; exact hjl), wipe_in σ vs j hj hjl]
    · rw [List.getElem?_eq_none (by rw [wipe_length, hl]; omega), List.getElem?_eq_none (by rw [wipe_length]; omega)]
  · rw [wipe_get σ' vs j hj, h.2 j fun z => hj (hi j z)]
theorem wipeE_length (ρ : Sl) : ∀ vs : List Nat, (Ev.wipe ρ vs).length = ρ.length
  | [] => rfl
  | v :: vs => by unfold Ev.wipe; rw [List.length_set, wipeE_length ρ vs]
theorem wipeE_in (ρ : Sl) : ∀ (vs : List Nat) (j : Nat) (w : W), (Ev.wipe ρ vs)[j]? = some (some w) → j ∉ vs ∧ ρ[j]? = some (some w)
  | [], j, w, h => ⟨by simp, h⟩
  | v :: vs, j, w, h => by
    unfold Ev.wipe at h
    by_cases e : v = j
    · subst e
      rw [List.getElem?_set_self'] at h
      cases q : (Ev.wipe ρ vs)[v]? with
      | none => rw [q] at h; cases h
      | some o => rw [q] at h; cases h
    · rw [List.getElem?_set_ne e] at h
      obtain ⟨h1, h2⟩ := wipeE_in ρ vs j w h
      exact ⟨fun z => (List.mem_cons.mp z).elim (fun q => e q.symm) h1, h2⟩
theorem RS.wipe {K : PySem.W.Frag} {M : Mem} {ρ : Sl} {σ : L2.St} (h : RS K T M ρ σ) (vs : List Nat) : RS K T M (Ev.wipe ρ vs) (L2.wipe σ vs) := by
  refine ⟨by rw [wipeE_length, wipe_length]; exact h.1, fun j w e => ?_⟩
  obtain ⟨h1, h2⟩ := wipeE_in ρ vs j w e
  obtain ⟨v, e1, r⟩ := h.2 j w h2
  exact ⟨v, by rw [wipe_get σ vs j h1]; exact e1, r⟩
abbrev JTs (X : Cx) (T : Tb) (es : List Expr) (f : ST) : Prop := PTs X es (rT X.K T f)
theorem PTs.weak {es : List Expr} {t u : TT} (h : PTs X es t) (w : ∀ σ H Q, u σ H Q → t σ H Q) : PTs X es u := ⟨fun pins s σ H Q I q => h.run pins s σ H Q I (w σ H Q q)⟩
theorem jts_nil : JTs X T [] Ev.tYes := PTs.weak pts_nil fun σ H Q h => by
  obtain ⟨M, B, L, ρ, p, h⟩ := h
  have : Q true M.H := h M p.eA p.rep (Ext.refl M)
  rw [p.eH] at this
  exact this
theorem jts_one {c : Expr} {f : ST} (h : JT X T c f) : JTs X T [c] f := pts_one h
/-- an object in the making at d -/
def Mem.open (M : Mem) (d : Addr) (o : HO) : Mem := { M with H := upd M.H d o, S := d :: M.S }
def Mem.close (M : Mem) (S : List Addr) : Mem := { M with S := S }
def Mem.put (M : Mem) (d : Addr) (o : HO) : Mem := { M with H := upd M.H d o }
def Plain (o : HO) : Prop := (∀ xs, o ≠ .tup xs) ∧ (∀ q u, o ≠ .frz q u)
section
variable {K : PySem.W.Frag} {M M' M0 : Mem} {d : Addr} {o o' : HO} {S : List Addr}
/-- M' keeps what stands for data in M -/
structure Keeps (M M' : Mem) : Prop where
  tup : ∀ a xs, SqT K M.H a xs → SqT K M'.H a xs
  sep : ∀ a, Sep M a → M.H a ≠ none → Sep M' a
  obj : ∀ a o, M.H a = some o → Sep M a → M'.H a = some o
  A : M.A.length ≤ M'.A.length
  m : ∀ n, n < M.A.length → M'.m n = M.m n
  plt : ∀ a, PlT K M.H a → PlT K M'.H a
theorem Keeps.sqP (k : Keeps (K := K) M M') {ds : List D} {a : Addr} {vs : List V} (h : SqP K M.H ds a vs) : SqP K M'.H ds a vs := ⟨k.tup a vs h.1, fun r => k.plt a (h.2 r)⟩
mutual
theorem RV.keeps (k : Keeps (K := K) M M') : ∀ (x : D) (v : V), RV K T M x v → RV K T M' x v
  | .non, v, h => h
  | .bl b, v, h => h
  | .int i, v, h => h
  | .str s, v, h => h
  | .tup xs, v, h => by
    obtain ⟨a, vs, q, s, r⟩ := h
    exact ⟨a, vs, q, k.sqP s, RVs.keeps k xs vs r⟩
  | .lst xs, v, h => by
    obtain ⟨a, vs, q, s, l, r⟩ := h
    exact ⟨a, vs, q, k.sep a s (by rw [l]; intro z; cases z), k.obj _ _ l s, RVs.keeps k xs vs r⟩
  | .scr xs, v, h => by
    obtain ⟨a, vs, q, s, r⟩ := h
    refine ⟨a, vs, q, ?_, RVs.keeps k xs vs r⟩
    rcases s with ⟨s, l⟩ | z
    · refine .inl ⟨k.sep a s (rd_ne l), ?_⟩
      rcases l with l | ⟨u, l⟩
      · exact .inl (k.obj _ _ l s)
      · exact .inr ⟨u, k.obj _ _ l s⟩
    · exact .inr z
  | .dct ks xs, v, h => by
    obtain ⟨a, kvs, q, s, l, kk, r⟩ := h
    exact ⟨a, kvs, q, k.sep a s (by rw [l]; intro z; cases z), k.obj _ _ l s, kk, RVs.keeps k xs _ r⟩
  | .set xs, v, h => by
    obtain ⟨a, ss, q, s, kk, l⟩ := h
    exact ⟨a, ss, q, k.sep a s (by rw [l]; intro z; cases z), kk, k.obj _ _ l s⟩
  | .obj c ns fs, v, h => by
    obtain ⟨a, dx, gs, q, s, l, kk, r⟩ := h
    exact ⟨a, dx, gs, q, k.sep a s (by rw [l]; intro z; cases z), k.obj _ _ l s, kk, RVs.keeps k fs _ r⟩
  | .dcn ks xs, v, h => by
    obtain ⟨a, kvs, q, s, l, k1, k2, r1, r2⟩ := h
    exact ⟨a, kvs, q, k.sep a s (by rw [l]; intro z; cases z), k.obj _ _ l s, k1, k2, RVs.keeps k ks _ r1, RVs.keeps k xs _ r2⟩
  | .exn c ns fs, v, h => by
    obtain ⟨a, gs, q, ⟨s, x⟩, kk, r⟩ := h
    rcases x with ⟨h1, h2⟩ | ⟨d, sd, h2, h3⟩
    · exact ⟨a, gs, q, ⟨k.sep a s (by rw [h2]; intro z; cases z), .inl ⟨h1, k.obj _ _ h2 s⟩⟩, kk, RVs.keeps k fs _ r⟩
    · exact ⟨a, gs, q, ⟨k.sep a s (by rw [h2]; intro z; cases z), .inr ⟨d, k.sep d sd (by rw [h3]; intro z; cases z), k.obj _ _ h2 s, k.obj _ _ h3 sd⟩⟩, kk, RVs.keeps k fs _ r⟩
  | .fn i, v, h => h
theorem RVs.keeps (k : Keeps (K := K) M M') : ∀ (ds : List D) (vs : List V), RVs K T M ds vs → RVs K T M' ds vs
  | [], vs, h => h
  | x :: xs, vs, h => by
    obtain ⟨v, r, q, h1, h2⟩ := h
    exact ⟨v, r, q, RV.keeps k x v h1, RVs.keeps k xs r h2⟩
end
theorem RW.keeps (k : Keeps (K := K) M M') : ∀ {w : W} {v : V}, RW K T M w v → RW K T M' w v
  | .d x, v, h => RV.keeps k x v h
  | .ref n, v, h => ⟨Nat.lt_of_lt_of_le h.1 k.A, by rw [k.m n h.1]; exact h.2⟩
theorem RWs.keeps (k : Keeps (K := K) M M') : ∀ {ws : List W} {vs : List V}, RWs K T M ws vs → RWs K T M' ws vs
  | [], vs, h => h
  | w :: ws, vs, h => by
    obtain ⟨v, r, q, h1, h2⟩ := h
    exact ⟨v, r, q, h1.keeps k, RWs.keeps k h2⟩
theorem RS.keeps (k : Keeps (K := K) M M') {ρ : Sl} {σ : L2.St} (h : RS K T M ρ σ) : RS K T M' ρ σ := ⟨h.1, fun i w q => let ⟨v, e1, r⟩ := h.2 i w q; ⟨v, e1, r.keeps k⟩⟩
theorem Rep.keeps (R : Rep K T M) (k : Keeps (K := K) M M') (kA : M'.A = M.A) (km : M'.m = M.m) (hp : ∀ n o, liveAt M.A n → M.H (M.m n) = some o → M'.H (M.m n) = some o) (sc : ∀ a ∈ M'.S, (∃ o, M'.H a = some o ∧ (∀ xs, o ≠ .tup xs) ∧ (∀ q u, o ≠ .frz q u)) ∧ ∀ n, liveAt M'.A n → M'.m n ≠ a) : Rep K T M' := by
  refine ⟨fun i j li lj q => ?_, fun n ob q => ?_, sc⟩
  · rw [kA] at li lj
    rw [km] at q
    exact R.inj i j li lj q
  · rw [kA] at q
    have r := R.at_ n ob q
    rw [km]
    cases ob with
    | frz x => exact RV.keeps k x _ r
    | lst ws => obtain ⟨vs, h1, h2⟩ := r; exact ⟨vs, hp n _ ⟨_, q, rfl⟩ h1, h2.keeps k⟩
    | dct ks ws => obtain ⟨kvs, h1, h2, h3⟩ := r; exact ⟨kvs, hp n _ ⟨_, q, rfl⟩ h1, h2, h3.keeps k⟩
    | ins c fs => obtain ⟨dx, gs, h1, h2, h3⟩ := r; exact ⟨dx, gs, hp n _ ⟨_, q, rfl⟩ h1, h2, h3.keeps k⟩
    | dcn ks ws => obtain ⟨kvs, h1, h2, h3, h4, h5⟩ := r; exact ⟨kvs, hp n _ ⟨_, q, rfl⟩ h1, h2, h3, RVs.keeps k _ _ h4, h5.keeps k⟩
theorem np_fresh (R : Rep K T M) (hd : M.H d = none) : NP M d := fun n l q => by
  obtain ⟨u, e, _⟩ := R.live_kind l
  rw [q, hd] at e
  cases e
theorem opened (R : Rep K T M) (hd : M.H d = none) (ho : Plain o) : Rep K T (M.open d o) ∧ Ext0 M (M.open d o) ∧ Keeps (K := K) M (M.open d o) := by
  have e0 : Ext0 M (M.open d o) := ⟨Nat.le_refl _, fun _ _ => rfl, fun _ _ h => h, fun n h ⟨o, e, _⟩ => absurd (List.getElem?_eq_some_iff.mp e).1 (Nat.not_lt.mpr h),
    fun a u h _ => (upd_ne (ne_of_none h hd)).trans h, fun a h => by
      show upd M.H d o a ≠ none
      unfold upd
      split
      · intro z; cases z
      · exact h, fun a h => (List.mem_cons.mp h).elim (fun z => .inr (z ▸ hd)) .inl⟩
  have k : Keeps (K := K) M (M.open d o) := ⟨fun a xs h => e0.sqT R h, fun a s h => s.ext e0 h, fun a u h s => e0.keep a u h s, Nat.le_refl _, fun _ _ => rfl, fun a h => e0.plT R h⟩
  refine ⟨R.keeps k rfl rfl (fun n u _ h => (upd_ne (ne_of_none h hd)).trans h) fun a ha => ?_, e0, k⟩
  rcases List.mem_cons.mp ha with e | ha
  · subst e
    exact ⟨⟨o, upd_same, ho.1, ho.2⟩, fun n l => np_fresh R hd n l⟩
  · obtain ⟨⟨u, h1, h2⟩, h3⟩ := R.sc a ha
    exact ⟨⟨u, (upd_ne (ne_of_none h1 hd)).trans h1, h2⟩, h3⟩
/-- what is in the making is changed -/
theorem written (R : Rep K T M) (hd : d ∈ M.S) (ho : Plain o) : Rep K T (M.put d o) ∧ Keeps (K := K) M (M.put d o) := by
  obtain ⟨⟨u, hu, n1, n2⟩, np⟩ := R.sc d hd
  have k : Keeps (K := K) M (M.put d o) := by
    refine ⟨fun a xs h => ?_, fun a s h => s, fun a u h s => (upd_ne (fun z : a = d => s.2 (by rw [z]; exact hd))).trans h, Nat.le_refl _, fun _ _ => rfl, fun a h => ?_⟩
    rotate_left
    · rcases h with ⟨q, vs, h, hd'⟩ | h
      · exact .inl ⟨q, vs, (upd_ne (fun z => by subst z; exact rd_tup (.inr ⟨q, h⟩) hu n1 n2)).trans h, hd'⟩
      · exact .inr h
    rcases h with h | h
    · have hne : a ≠ d := fun z => by
        subst z
        exact rd_tup h hu n1 n2
      rcases h with h | ⟨q, h⟩
      · exact .inl (.inl ((upd_ne hne).trans h))
      · exact .inl (.inr ⟨q, (upd_ne hne).trans h⟩)
    · exact .inr h
  refine ⟨R.keeps k rfl rfl (fun n u l h => (upd_ne (np n l)).trans h) fun a ha => ?_, k⟩
  obtain ⟨⟨u, h1, h2⟩, h3⟩ := R.sc a ha
  by_cases q : a = d
  · subst q
    exact ⟨⟨o, upd_same, ho.1, ho.2⟩, h3⟩
  · exact ⟨⟨u, (upd_ne q).trans h1, h2⟩, h3⟩
theorem put_ext0 (e : Ext0 M0 M) (hd : d ∈ M0.S ∨ M0.H d = none) : Ext0 M0 (M.put d o) := ⟨e.len, e.same, e.fz, e.new, fun a u h s => (upd_ne (fun z : a = d => hd.elim (fun y => s.2 (by rw [z]; exact y)) (ne_of_none h · z))).trans (e.keep a u h s), fun a h => by
  show upd M.H d o a ≠ none
  unfold upd
  split
  · intro z; cases z
  · exact e.there a h, e.scr⟩
/-- when it is made -/
theorem closed (R0 : Rep K T M0) (hd : M0.H d = none) (R : Rep K T M) (e : Ext0 M0 M) (hS : M.S = d :: M0.S) (ks : ∀ a, a ∈ M0.S → M.H a = M0.H a) : Rep K T (M.close M0.S) ∧ Ext M0 (M.close M0.S) ∧ Keeps (K := K) M (M.close M0.S) ∧ Sep (M.close M0.S) d := by
  have nd : d ∉ M0.S := fun z => by
    obtain ⟨⟨u, h, _⟩, _⟩ := R0.sc d z
    rw [hd] at h
    cases h
  have k : Keeps (K := K) M (M.close M0.S) := ⟨fun a xs h => h, fun a s h => ⟨s.1, fun z => s.2 (by rw [hS]; exact List.mem_cons_of_mem _ z)⟩, fun a u h s => h, Nat.le_refl _, fun _ _ => rfl, fun a h => h⟩
  exact ⟨R.keeps k rfl rfl (fun n u _ h => h) fun a ha => R.sc a (by rw [hS]; exact List.mem_cons_of_mem _ ha), ⟨⟨e.len, e.same, e.fz, e.new, e.keep, e.there, fun a h => .inl h⟩, rfl, ks⟩, k, ⟨(R.sc d (by rw [hS]; simp)).2, nd⟩⟩
/-- a comprehension that makes the list at d: Mb ahead of it, M' at a moment -/
structure CI (K : PySem.W.Frag) (T : Tb) (Mb : Mem) (d : Addr) (B : Hs) (M' : Mem) (L' : Hs) (acc : List D) (us : List V) : Prop where
  eA : M'.A = B ++ L'
  rep : Rep K T M'
  sS : M'.S = d :: Mb.S
  e0 : Ext0 Mb M'
  at_ : M'.H d = some (.lst us)
  rv : RVs K T M' acc us
  ks : ∀ a, a ∈ Mb.S → M'.H a = Mb.H a
theorem CI.next {Mb M' : Mem} {B L' L2 : Hs} {acc : List D} {us : List V} (c : CI K T Mb d B M' L' acc us) {M2 : Mem} (eA : M2.A = B ++ L2) (R : Rep K T M2) (e : Ext M' M2) : CI K T Mb d B M2 L2 acc us :=
  ⟨eA, R, e.sq.trans c.sS, c.e0.trans e.toExt0, (e.ks d (by rw [c.sS]; simp)).trans c.at_, RVs.ext c.rep e acc us c.rv, fun a h => (e.ks a (by rw [c.sS]; exact List.mem_cons_of_mem _ h)).trans (c.ks a h)⟩
theorem plain_lst (us : List V) : Plain (.lst us) := ⟨(fun _ z => by cases z), (fun _ _ z => by cases z)⟩
theorem CI.put {Mb M' : Mem} {B L' : Hs} {acc : List D} {us : List V} (c : CI K T Mb d B M' L' acc us) (R0 : Rep K T Mb) (hd : Mb.H d = none) {y : D} {v : V} (r : RV K T M' y v) : CI K T Mb d B (M'.put d (.lst (us ++ [v]))) L' (acc ++ [y]) (us ++ [v]) ∧ Keeps (K := K) M' (M'.put d (.lst (us ++ [v]))) := by
  obtain ⟨R, k⟩ := written c.rep (d := d) (by rw [c.sS]; simp) (plain_lst (us ++ [v]))
  refine ⟨⟨c.eA, R, c.sS, put_ext0 c.e0 (.inr hd), upd_same, ?_, fun a h => ?_⟩, k⟩
  · exact (RVs.keeps k acc us c.rv).append ⟨v, [], rfl, RV.keeps k y v r, rfl⟩
  · have : a ≠ d := fun z => by
      subst z
      obtain ⟨⟨u, e, _⟩, _⟩ := R0.sc a h
      rw [hd] at e
      cases e
    exact (upd_ne this).trans (c.ks a h)
/-- THE TURNS of a comprehension -/
theorem comp_loop {J : It} {xs : List D} {B : Hs} {Mw Mb : Mem} (wk : Wk K T J xs B Mw) (R0 : Rep K T Mb) (hd : Mb.H d = none) {g : SG} {is vs : List Nat} {c : ST} {e : SE} {ρw : Sl} {σw : L2.St} {Qd : Hp → Prop}
    (hw : ∀ σ2, Stay is σw σ2 → L2.wipe σ2 vs = σw) (hMw : d ∈ Mw.S ∨ Mw.H d = none) (P : List D → Hs → Prop) {acc0 : List D} {L0 : Hs} {us0 : List V} {M0 : Mem} (c0 : CI K T Mb d B M0 L0 acc0 us0) (w0 : Ext0 Mw M0) (rs0 : RS K T M0 ρw σw)
    (hok : ∃ ys L9, compGo g c e B ρw xs acc0 L0 = .ok ys L9 ∧ P ys L9) (fin : ∀ M' L' acc us, CI K T Mb d B M' L' acc us → Ext0 Mw M' → P acc L' → Qd M'.H) :
    ∃ W : Nat → Nat → Hp → Prop, (∃ m, W 0 m M0.H) ∧ ∀ i m H, W i m H → (J.stop i H ∧ Qd H) ∨ (J.go i H ∧ ∃ Nx : Hp → Prop, (∀ H', Nx H' → ∃ m', m' < m ∧ W (i + 1) m' H') ∧
      ∀ x H', J.yld i H x H' → rG K T g is x σw H' fun σ2 H2 => L2.wipe σ2 vs = σw ∧ rT K T c σ2 H2 fun b H3 => if b = true then rE K T e σ2 H3 fun y H4 => ∃ acc, H4 d = some (.lst acc) ∧ acc.length < sizeLine ∧ Nx (upd H4 d (.lst (acc ++ [y]))) else Nx H3) := by
  obtain ⟨Y, w, hy⟩ := wk
  let Pv : Nat → Hp → Prop := fun i H => ∃ M' L' acc us, M'.H = H ∧ CI K T Mb d B M' L' acc us ∧ Ext0 Mw M' ∧ RS K T M' ρw σw ∧ ∃ ys L9, compGo g c e B ρw (xs.drop i) acc L' = .ok ys L9 ∧ P ys L9
  refine ⟨fun i m H => m = xs.length - i ∧ i ≤ xs.length ∧ Pv i H, ⟨xs.length, by simp, Nat.zero_le _, M0, L0, acc0, us0, rfl, c0, w0, rs0, hok⟩, ?_⟩
  rintro i m H ⟨rfl, hi, M', L', acc, us, rfl, ci, ew, rs, ys, L9, q, hP⟩
  have gAt : At K T B Mw M'.H := ⟨M', L', rfl, ci.eA, ci.rep, ew⟩
  by_cases hlt : i < xs.length
  · refine .inr ⟨w.goes i M'.H hlt gAt, Pv (i + 1), fun H' p' => ⟨xs.length - (i + 1), by omega, rfl, hlt, p'⟩, fun v H' y => ?_⟩
    obtain ⟨M2, rfl, a2, R2, x2, rv⟩ := hy i v H' M' L' _ (w.yields i M'.H v H' hlt gAt y) ci.eA ci.rep ew (List.getElem?_eq_getElem hlt)
    rw [List.drop_eq_getElem_cons hlt] at q
    have c2 := ci.next (a2.trans ci.eA) R2 x2
    refine ⟨M2, B, L', ρw, .d xs[i], ⟨rfl, c2.eA, R2, rs.ext ci.rep x2⟩, rv, ?_⟩
    have q : (g (.d xs[i]) B ρw L').bind _ = _ := q
    cases eg : g (.d xs[i]) B ρw L' with
    | exc _ _ _ => rw [eg] at q; cases q
    | bad => rw [eg] at q; cases q
    | ok ρ1 L3 =>
      rw [eg] at q
      intro M3 a3 R3 x3 σ2 rs2 st
      refine ⟨hw σ2 st, M3, B, L3, ρ1, ⟨rfl, a3, R3, rs2⟩, ?_⟩
      have q : (c B ρ1 L3).bind _ = _ := q
      cases ec : c B ρ1 L3 with
      | exc _ _ _ => rw [ec] at q; cases q
      | bad => rw [ec] at q; cases q
      | ok k L4 =>
        rw [ec] at q
        intro M4 a4 R4 x4
        have c4 := (c2.next a3 R3 x3).next a4 R4 x4
        have x24 := (x2.trans x3).trans x4
        cases k with
        | false =>
          refine iteF ?_
          exact ⟨M4, L4, acc, us, rfl, c4, ew.trans x24.toExt0, rs.ext ci.rep x24, ys, L9, q, hP⟩
        | true =>
          refine iteT ?_
          refine ⟨M4, B, L4, ρ1, ⟨rfl, a4, R4, rs2.ext R3 x4⟩, ?_⟩
          have q : (e B ρ1 L4).bind _ = _ := q
          cases ee : e B ρ1 L4 with
          | exc _ _ _ => rw [ee] at q; cases q
          | bad => rw [ee] at q; cases q
          | ok w5 L5 =>
            rw [ee] at q
            intro M5 a5 R5 x5 v5 rw5
            have q : (ownR B L5 w5).bind _ = _ := q
            unfold ownR at q
            cases eo : own B L5 w5 with
            | none => rw [eo] at q; cases q
            | some z =>
              obtain ⟨y6, L6⟩ := z
              rw [eo] at q
              obtain ⟨M6, a6, h6, R6, x6, rv6⟩ := own_ok R5 a5 eo rw5
              have c6 := (c4.next a5 R5 x5).next a6 R6 x6
              have x26 := (x24.trans x5).trans x6
              have q : (guardR (decide (acc.length < sizeL)) L6).bind _ = _ := q
              cases eg2 : decide (acc.length < sizeL) with
              | false => rw [eg2] at q; cases q
              | true =>
                rw [eg2] at q
                obtain ⟨c7, k7⟩ := c6.put R0 hd rv6
                refine ⟨us, by rw [← h6]; exact c6.at_, by rw [← c6.rv.length, ← sizeL_eq]; exact of_decide_eq_true eg2, _, L6, _, _, ?_, c7, ?_, (rs.ext ci.rep x26).keeps k7, ys, L9, q, hP⟩
                · show upd M6.H d _ = upd M5.H d _
                  rw [h6]
                · exact put_ext0 (ew.trans x26.toExt0) hMw
  · have e : i = xs.length := by omega
    subst e
    rw [List.drop_length] at q
    cases q
    exact .inl ⟨w.stops M'.H gAt, fin M' _ _ us ci ew hP⟩
end
theorem je_comp {elt tg iter : Expr} {ifs : List Expr} {scope : Scope} {own : List (Str × Nat)} {pos : Pos} {it : SI} {g : SG} {is : List Nat} {c : ST} {e : SE} (hc : X.calm = true) (hN : X.N.Nodup) (hi : JI X T tg iter it) (ok : BlkOk X.N X.env.scope scope own)
    (hg : ∀ (s : Shared) (H : Hp) (C : Addr) (cl : List (Str × Addr)) (fp : List Addr), JG (X.blk s H scope (compEnvC scope cl C X.env) fp) T tg g is) (ht : ∀ (s : Shared) (H : Hp) (C : Addr) (cl : List (Str × Addr)) (fp : List Addr), JTs (X.blk s H scope (compEnvC scope cl C X.env) fp) T ifs c)
    (he : ∀ (s : Shared) (H : Hp) (C : Addr) (cl : List (Str × Addr)) (fp : List Addr), JE (X.blk s H scope (compEnvC scope cl C X.env) fp) T elt e) (his : ∀ i ∈ is, i ∈ own.map (·.2) := by decide) (hs : ∀ x, foldedSetIterable iter X.env x = pure x := by intro _; rfl) :
    JE X T (.ListComp elt [⟨tg, iter, ifs, 0⟩] scope pos) (eComp it g c e (own.map (·.2))) := PE.weak (pe_lc hc hN hi ok hg ht he hs) fun σ H Q h => by
  obtain ⟨M, B, L, ρ, p, h⟩ := h
  refine ⟨M, B, L, ρ, p, (post.bind h).mono fun xs L1 M1 eA R x q J wk d hd => ?_⟩
  obtain ⟨R2, e2, k2⟩ := opened R hd (plain_lst [])
  cases ec : compGo g c e B (Ev.wipe ρ (own.map (·.2))) xs [] L1 with
  | exc _ _ _ => rw [ec] at q; exact q.elim
  | bad => rw [ec] at q; exact q.elim
  | ok ys L9 =>
    rw [ec] at q
    refine comp_loop (Mb := M1) (M0 := M1.open d (.lst [])) wk R hd (fun σ2 st => wipe_stay st his) (.inr hd) (fun ys' L' => ys' = ys ∧ L' = L9) (acc0 := []) (us0 := []) ⟨eA, R2, rfl, e2, upd_same, rfl, fun a ha => ?_⟩ e2 (((p.rs.ext p.rep x).keeps k2).wipe _) ⟨ys, L9, ec, rfl, rfl⟩ ?_
    · obtain ⟨⟨u, e1, _⟩, _⟩ := R.sc a ha
      exact upd_ne (ne_of_none e1 hd)
    · rintro M' L' acc us ci _ ⟨rfl, rfl⟩
      obtain ⟨R', E', k', s'⟩ := closed R hd ci.rep ci.e0 ci.sS ci.ks
      exact q (M'.close M1.S) ci.eA R' E' (.ref d) ⟨d, us, rfl, s', ci.at_, RVs.keeps k' _ _ ci.rv⟩
theorem js_setComp {i : Nat} {y : Str} {py : Pos} {elt tg iter : Expr} {ifs : List Expr} {scope : Scope} {own : List (Str × Nat)} {pos spos : Pos} {it : SI} {g : SG} {is : List Nat} {c : ST} {e : SE} (hc : X.calm = true) (hN : X.N.Nodup)
    (hsw : swapsWith (.ListComp elt [⟨tg, iter, ifs, 0⟩] scope pos) (some (.Name y py)) spos.line X.env = pure true) (hi : JI X T tg iter it) (ok : BlkOk X.N X.env.scope scope own)
    (hg : ∀ (s : Shared) (H : Hp) (C : Addr) (cl : List (Str × Addr)) (fp : List Addr), JG (X.blk s H scope (compEnvC scope cl C X.env) fp) T tg g is) (ht : ∀ (s : Shared) (H : Hp) (C : Addr) (cl : List (Str × Addr)) (fp : List Addr), JTs (X.blk s H scope (compEnvC scope cl C X.env) fp) T ifs c)
    (he : ∀ (s : Shared) (H : Hp) (C : Addr) (cl : List (Str × Addr)) (fp : List Addr), JE (X.blk s H scope (compEnvC scope cl C X.env) fp) T elt e) (his : ∀ i ∈ is, i ∈ own.map (·.2) := by decide) (hy : X.N[i]? = some y := by rfl) (hyl : X.env.scope.names.lookup y = some .local := by rfl) (hs : ∀ x, foldedSetIterable iter X.env x = pure x := by intro _; rfl) :
    JS X T (.Assign [.Name y py] (.ListComp elt [⟨tg, iter, ifs, 0⟩] scope pos) spos) (sAsg (eComp it g c e (own.map (·.2))) (gVar i)) := PS.weak (ps_setLc hc hN hy hyl hsw hi ok hg ht he hs) fun Dn σ H h => by
  obtain ⟨M, B, L, ρ, p, h⟩ := h
  have h := post.st h
  unfold eComp at h
  refine ⟨M, B, L, ρ, p, (post.bind h).mono fun xs L1 M1 eA R x q J wk d hd => ?_⟩
  obtain ⟨R2, e2, k2⟩ := opened R hd (plain_lst [])
  cases ec : compGo g c e B (Ev.wipe ρ (own.map (·.2))) xs [] L1 with
  | exc _ _ _ => rw [ec] at q; exact q.elim
  | bad => rw [ec] at q; exact q.elim
  | ok ys L9 =>
    rw [ec] at q
    refine comp_loop (Mb := M1) (M0 := M1.open d (.lst [])) wk R hd (fun σ2 st => wipe_stay st his) (.inr hd) (fun ys' L' => ys' = ys ∧ L' = L9) (acc0 := []) (us0 := []) ⟨eA, R2, rfl, e2, upd_same, rfl, fun a ha => ?_⟩ e2 (((p.rs.ext p.rep x).keeps k2).wipe _) ⟨ys, L9, ec, rfl, rfl⟩ ?_
    · obtain ⟨⟨u, e1, _⟩, _⟩ := R.sc a ha
      exact upd_ne (ne_of_none e1 hd)
    · rintro M' L' acc us ci _ ⟨rfl, rfl⟩
      obtain ⟨R', E', k', s'⟩ := closed R hd ci.rep ci.e0 ci.sS ci.ks
      have rl : RW X.K T (M'.close M1.S) (.d (.lst acc)) (.ref d) := ⟨d, us, rfl, s', ci.at_, RVs.keeps k' _ _ ci.rv⟩
      have q2 := q (M'.close M1.S) ci.eA R' E'
      exact (((post.st q2).here ci.eA R').ext_next ci.eA R' ((p.rs.ext p.rep (x.trans E')).set rl i) : Dn.nx _ _)
/-- two fors -/
theorem comp_loop2 {K : PySem.W.Frag} {d : Addr} {J : It} {xs : List D} {B : Hs} {Mb : Mem} (wk : Wk K T J xs B Mb) (R0 : Rep K T Mb) (hd : Mb.H d = none) {g g1 : SG} {is is1 vs vs1 : List Nat} {c c1 : ST} {it1 : SI} {e : SE} {ρw : Sl} {σw : L2.St} {Qd : Hp → Prop}
    (hw : ∀ σ2, Stay is σw σ2 → L2.wipe σ2 vs = σw) (hw1 : ∀ i ∈ is1, i ∈ vs1) (P : List D → Hs → Prop) {acc0 : List D} {L0 : Hs} {us0 : List V} {M0 : Mem} (c0 : CI K T Mb d B M0 L0 acc0 us0) (rs0 : RS K T M0 ρw σw)
    (hok : ∃ ys L9, compGo2 g c it1 g1 c1 e B ρw vs1 xs acc0 L0 = .ok ys L9 ∧ P ys L9) (fin : ∀ M' L' acc us, CI K T Mb d B M' L' acc us → P acc L' → Qd M'.H) :
    ∃ W : Nat → Nat → Hp → Prop, (∃ m, W 0 m M0.H) ∧ ∀ i m H, W i m H → (J.stop i H ∧ Qd H) ∨ (J.go i H ∧ ∃ Nx : Hp → Prop, (∀ H', Nx H' → ∃ m', m' < m ∧ W (i + 1) m' H') ∧
      ∀ x H', J.yld i H x H' → rG K T g is x σw H' fun σ2 H2 => L2.wipe σ2 vs = σw ∧ rT K T c σ2 H2 fun b H3 => if b = true then rI K T it1 σ2 H3 fun J1 H4 => ∃ W1 : Nat → Nat → Hp → Prop, (∃ m, W1 0 m H4) ∧ ∀ j k H, W1 j k H →
        (J1.stop j H ∧ Nx H) ∨ (J1.go j H ∧ ∃ Nx1 : Hp → Prop, (∀ H', Nx1 H' → ∃ k', k' < k ∧ W1 (j + 1) k' H') ∧ ∀ x H', J1.yld j H x H' → rG K T g1 is1 x (L2.wipe σ2 vs1) H' fun σ3 H5 => L2.wipe σ3 vs1 = L2.wipe σ2 vs1 ∧ rT K T c1 σ3 H5 fun b H6 =>
          if b = true then rE K T e σ3 H6 fun y H7 => ∃ acc, H7 d = some (.lst acc) ∧ acc.length < sizeLine ∧ Nx1 (upd H7 d (.lst (acc ++ [y]))) else Nx1 H6) else Nx H3) := by
  obtain ⟨Y, w, hy⟩ := wk
  let Pv : Nat → Hp → Prop := fun i H => ∃ M' L' acc us, M'.H = H ∧ CI K T Mb d B M' L' acc us ∧ RS K T M' ρw σw ∧ ∃ ys L9, compGo2 g c it1 g1 c1 e B ρw vs1 (xs.drop i) acc L' = .ok ys L9 ∧ P ys L9
  refine ⟨fun i m H => m = xs.length - i ∧ i ≤ xs.length ∧ Pv i H, ⟨xs.length, by simp, Nat.zero_le _, M0, L0, acc0, us0, rfl, c0, rs0, hok⟩, ?_⟩
  rintro i m H ⟨rfl, hi, M', L', acc, us, rfl, ci, rs, ys, L9, q, hP⟩
  have gAt : At K T B Mb M'.H := ⟨M', L', rfl, ci.eA, ci.rep, ci.e0⟩
  by_cases hlt : i < xs.length
  · refine .inr ⟨w.goes i M'.H hlt gAt, Pv (i + 1), fun H' p' => ⟨xs.length - (i + 1), by omega, rfl, hlt, p'⟩, fun v H' y => ?_⟩
    obtain ⟨M2, rfl, a2, R2, x2, rv⟩ := hy i v H' M' L' _ (w.yields i M'.H v H' hlt gAt y) ci.eA ci.rep ci.e0 (List.getElem?_eq_getElem hlt)
    rw [List.drop_eq_getElem_cons hlt] at q
    have c2 := ci.next (a2.trans ci.eA) R2 x2
    refine ⟨M2, B, L', ρw, .d xs[i], ⟨rfl, c2.eA, R2, rs.ext ci.rep x2⟩, rv, ?_⟩
    have q : (g (.d xs[i]) B ρw L').bind _ = _ := q
    cases eg : g (.d xs[i]) B ρw L' with
    | exc _ _ _ => rw [eg] at q; cases q
    | bad => rw [eg] at q; cases q
    | ok ρ1 L3 =>
      rw [eg] at q
      intro M3 a3 R3 x3 σ2 rs2 st
      refine ⟨hw σ2 st, M3, B, L3, ρ1, ⟨rfl, a3, R3, rs2⟩, ?_⟩
      have q : (c B ρ1 L3).bind _ = _ := q
      cases ec : c B ρ1 L3 with
      | exc _ _ _ => rw [ec] at q; cases q
      | bad => rw [ec] at q; cases q
      | ok k L4 =>
        rw [ec] at q
        intro M4 a4 R4 x4
        have c4 := (c2.next a3 R3 x3).next a4 R4 x4
        have x24 := (x2.trans x3).trans x4
        cases k with
        | false =>
          refine iteF ?_
          exact ⟨M4, L4, acc, us, rfl, c4, rs.ext ci.rep x24, ys, L9, q, hP⟩
        | true =>
          refine iteT ?_
          refine ⟨M4, B, L4, ρ1, ⟨rfl, a4, R4, rs2.ext R3 x4⟩, ?_⟩
          have q : (it1 B ρ1 L4).bind _ = _ := q
          cases ei : it1 B ρ1 L4 with
          | exc _ _ _ => rw [ei] at q; cases q
          | bad => rw [ei] at q; cases q
          | ok zs L5 =>
            rw [ei] at q
            intro M5 a5 R5 x5 J1 wk1
            have c5 := c4.next a5 R5 x5
            have x25 := x24.trans x5
            have q : (compGo g1 c1 e B (Ev.wipe ρ1 vs1) zs acc L5).bind _ = _ := q
            cases eq : compGo g1 c1 e B (Ev.wipe ρ1 vs1) zs acc L5 with
            | exc _ _ _ => rw [eq] at q; cases q
            | bad => rw [eq] at q; cases q
            | ok acc6 L6 =>
              rw [eq] at q
              have rsI : RS K T M5 ρ1 σ2 := rs2.ext R3 (x4.trans x5)
              -- the outer slots are kept by a copy of them through the inner turns
              exact comp_loop (Mb := Mb) (Mw := M5) (M0 := M5) wk1 R0 hd (fun σ3 st => wipe_stay st hw1) (.inl (by rw [c5.sS]; simp)) (fun a L' => a = acc6 ∧ L' = L6) c5 (Ext0.refl M5) (rsI.wipe vs1) ⟨acc6, L6, eq, rfl, rfl⟩
                fun M7 L7 acc7 us7 c7 e7 hp7 => by
                  obtain ⟨rfl, rfl⟩ := hp7
                  exact ⟨M7, L7, acc7, us7, rfl, c7, (rs.ext ci.rep x25).ext0 R5 e7, ys, L9, q, hP⟩
  · have e : i = xs.length := by omega
    subst e
    rw [List.drop_length] at q
    cases q
    exact .inl ⟨w.stops M'.H gAt, fin M' _ _ us ci hP⟩
theorem je_comp2 {elt tg iter tg1 iter1 : Expr} {ifs ifs1 : List Expr} {scope : Scope} {own : List (Str × Nat)} {vs1 : List Nat} {pos : Pos} {it it1 : SI} {g g1 : SG} {is is1 : List Nat} {c c1 : ST} {e : SE} (hc : X.calm = true) (hN : X.N.Nodup) (hi : JI X T tg iter it) (ok : BlkOk X.N X.env.scope scope own)
    (hg : ∀ (s : Shared) (H : Hp) (C : Addr) (cl : List (Str × Addr)) (fp : List Addr), JG (X.blk s H scope (compEnvC scope cl C X.env) fp) T tg g is) (ht : ∀ (s : Shared) (H : Hp) (C : Addr) (cl : List (Str × Addr)) (fp : List Addr), JTs (X.blk s H scope (compEnvC scope cl C X.env) fp) T ifs c)
    (hi1 : ∀ (s : Shared) (H : Hp) (C : Addr) (cl : List (Str × Addr)) (fp : List Addr), JI (X.blk s H scope (compEnvC scope cl C X.env) fp) T tg1 iter1 it1)
    (hg1 : ∀ (s : Shared) (H : Hp) (C : Addr) (cl : List (Str × Addr)) (fp : List Addr), JG (X.blk s H scope (compEnvC scope cl C X.env) fp) T tg1 g1 is1) (ht1 : ∀ (s : Shared) (H : Hp) (C : Addr) (cl : List (Str × Addr)) (fp : List Addr), JTs (X.blk s H scope (compEnvC scope cl C X.env) fp) T ifs1 c1)
    (he : ∀ (s : Shared) (H : Hp) (C : Addr) (cl : List (Str × Addr)) (fp : List Addr), JE (X.blk s H scope (compEnvC scope cl C X.env) fp) T elt e) (hv : ∀ i ∈ vs1, i ∈ own.map (·.2) := by decide) (his : ∀ i ∈ is, i ∈ own.map (·.2) := by decide) (his1 : ∀ i ∈ is1, i ∈ vs1 := by decide)
    (hs : ∀ x, foldedSetIterable iter X.env x = pure x := by intro _; rfl) (hs1 : ∀ env x, foldedSetIterable iter1 env x = pure x := by intro _ _; rfl) :
    JE X T (.ListComp elt [⟨tg, iter, ifs, 0⟩, ⟨tg1, iter1, ifs1, 0⟩] scope pos) (eComp2 it g c it1 g1 c1 e (own.map (·.2)) vs1) := PE.weak (pe_lc2 hc hN hi ok hv hg ht hi1 hg1 ht1 he hs hs1) fun σ H Q h => by
  obtain ⟨M, B, L, ρ, p, h⟩ := h
  refine ⟨M, B, L, ρ, p, (post.bind h).mono fun xs L1 M1 eA R x q J wk d hd => ?_⟩
  obtain ⟨R2, e2, k2⟩ := opened R hd (plain_lst [])
  cases ec : compGo2 g c it1 g1 c1 e B (Ev.wipe ρ (own.map (·.2))) vs1 xs [] L1 with
  | exc _ _ _ => rw [ec] at q; exact q.elim
  | bad => rw [ec] at q; exact q.elim
  | ok ys L9 =>
    rw [ec] at q
    refine comp_loop2 (Mb := M1) (M0 := M1.open d (.lst [])) wk R hd (fun σ2 st => wipe_stay st his) his1 (fun ys' L' => ys' = ys ∧ L' = L9) (acc0 := []) (us0 := []) ⟨eA, R2, rfl, e2, upd_same, rfl, fun a ha => ?_⟩ (((p.rs.ext p.rep x).keeps k2).wipe _) ⟨ys, L9, ec, rfl, rfl⟩ ?_
    · obtain ⟨⟨u, e1, _⟩, _⟩ := R.sc a ha
      exact upd_ne (ne_of_none e1 hd)
    · rintro M' L' acc us ci ⟨rfl, rfl⟩
      obtain ⟨R', E', k', s'⟩ := closed R hd ci.rep ci.e0 ci.sS ci.ks
      exact q (M'.close M1.S) ci.eA R' E' (.ref d) ⟨d, us, rfl, s', ci.at_, RVs.keeps k' _ _ ci.rv⟩
theorem js_setComp2 {i : Nat} {y : Str} {py : Pos} {elt tg iter tg1 iter1 : Expr} {ifs ifs1 : List Expr} {scope : Scope} {own : List (Str × Nat)} {vs1 : List Nat} {pos spos : Pos} {it it1 : SI} {g g1 : SG} {is is1 : List Nat} {c c1 : ST} {e : SE} (hc : X.calm = true) (hN : X.N.Nodup)
    (hsw : swapsWith (.ListComp elt [⟨tg, iter, ifs, 0⟩, ⟨tg1, iter1, ifs1, 0⟩] scope pos) (some (.Name y py)) spos.line X.env = pure true) (hi : JI X T tg iter it) (ok : BlkOk X.N X.env.scope scope own)
    (hg : ∀ (s : Shared) (H : Hp) (C : Addr) (cl : List (Str × Addr)) (fp : List Addr), JG (X.blk s H scope (compEnvC scope cl C X.env) fp) T tg g is) (ht : ∀ (s : Shared) (H : Hp) (C : Addr) (cl : List (Str × Addr)) (fp : List Addr), JTs (X.blk s H scope (compEnvC scope cl C X.env) fp) T ifs c)
    (hi1 : ∀ (s : Shared) (H : Hp) (C : Addr) (cl : List (Str × Addr)) (fp : List Addr), JI (X.blk s H scope (compEnvC scope cl C X.env) fp) T tg1 iter1 it1)
    (hg1 : ∀ (s : Shared) (H : Hp) (C : Addr) (cl : List (Str × Addr)) (fp : List Addr), JG (X.blk s H scope (compEnvC scope cl C X.env) fp) T tg1 g1 is1) (ht1 : ∀ (s : Shared) (H : Hp) (C : Addr) (cl : List (Str × Addr)) (fp : List Addr), JTs (X.blk s H scope (compEnvC scope cl C X.env) fp) T ifs1 c1)
    (he : ∀ (s : Shared) (H : Hp) (C : Addr) (cl : List (Str × Addr)) (fp : List Addr), JE (X.blk s H scope (compEnvC scope cl C X.env) fp) T elt e) (hv : ∀ i ∈ vs1, i ∈ own.map (·.2) := by decide) (his : ∀ i ∈ is, i ∈ own.map (·.2) := by decide) (his1 : ∀ i ∈ is1, i ∈ vs1 := by decide) (hy : X.N[i]? = some y := by rfl) (hyl : X.env.scope.names.lookup y = some .local := by rfl)
    (hs : ∀ x, foldedSetIterable iter X.env x = pure x := by intro _; rfl) (hs1 : ∀ env x, foldedSetIterable iter1 env x = pure x := by intro _ _; rfl) :
    JS X T (.Assign [.Name y py] (.ListComp elt [⟨tg, iter, ifs, 0⟩, ⟨tg1, iter1, ifs1, 0⟩] scope pos) spos) (sAsg (eComp2 it g c it1 g1 c1 e (own.map (·.2)) vs1) (gVar i)) := PS.weak (ps_setLc2 hc hN hy hyl hsw hi ok hv hg ht hi1 hg1 ht1 he hs hs1) fun Dn σ H h => by
  obtain ⟨M, B, L, ρ, p, h⟩ := h
  have h := post.st h
  unfold eComp2 at h
  refine ⟨M, B, L, ρ, p, (post.bind h).mono fun xs L1 M1 eA R x q J wk d hd => ?_⟩
  obtain ⟨R2, e2, k2⟩ := opened R hd (plain_lst [])
  cases ec : compGo2 g c it1 g1 c1 e B (Ev.wipe ρ (own.map (·.2))) vs1 xs [] L1 with
  | exc _ _ _ => rw [ec] at q; exact q.elim
  | bad => rw [ec] at q; exact q.elim
  | ok ys L9 =>
    rw [ec] at q
    refine comp_loop2 (Mb := M1) (M0 := M1.open d (.lst [])) wk R hd (fun σ2 st => wipe_stay st his) his1 (fun ys' L' => ys' = ys ∧ L' = L9) (acc0 := []) (us0 := []) ⟨eA, R2, rfl, e2, upd_same, rfl, fun a ha => ?_⟩ (((p.rs.ext p.rep x).keeps k2).wipe _) ⟨ys, L9, ec, rfl, rfl⟩ ?_
    · obtain ⟨⟨u, e1, _⟩, _⟩ := R.sc a ha
      exact upd_ne (ne_of_none e1 hd)
    · rintro M' L' acc us ci ⟨rfl, rfl⟩
      obtain ⟨R', E', k', s'⟩ := closed R hd ci.rep ci.e0 ci.sS ci.ks
      have rl : RW X.K T (M'.close M1.S) (.d (.lst acc)) (.ref d) := ⟨d, us, rfl, s', ci.at_, RVs.keeps k' _ _ ci.rv⟩
      have q2 := q (M'.close M1.S) ci.eA R' E'
      exact (((post.st q2).here ci.eA R').ext_next ci.eA R' ((p.rs.ext p.rep (x.trans E')).set rl i) : Dn.nx _ _)
end
end Ev

set_option Elab.async false
set_option linter.all false
set_option maxRecDepth 100000
set_option maxHeartbeats 4000000
set_option autoImplicit false
/-! EvT: tuple * 0, tuple * 1. -/
namespace Ev
open PySem PySem.Spec PyProof.Rows L2
theorem tuple_mulOne (l : Addr) (items : Array Value) (n : Nat) (dd : Option Addr) (sl : Array (Option Value)) (u : Tok) :
    Meets (Builtin.«tuple.__mul__» ⟨[.ref l, .int 1 u], []⟩) (fun _ R s => s.heap.get? l = some { cls := .type "tuple", dict := dd, data := .seq items n, slots := sl } ∧ R (.ok (.ret (Value.ref l))) s) :=
  .of_wp fun prog w A R s h => by
    obtain ⟨hp, g, d, tk, os⟩ := s
    obtain ⟨hl, h⟩ := h
    have f1 := AutoSeq1.idx_int
    have c1 : (items.isEmpty || ((1 : Int) == 1)) = true := by simp
    wp_walk using wpAny_loadPart' hl
    repeat (first
      | (refine wpAny_ite_false (decide_eq_false (by decide)) ?_; wp_walk using wpAny_loadPart' hl)
      | (refine wpAny_ite_true (decide_eq_true c1) ?_; wp_walk using wpAny_loadPart' hl))
    exact ⟨_, rfl, h⟩
theorem tuple_mulNul (l : Addr) (items : Array Value) (n : Nat) (dd : Option Addr) (sl : Array (Option Value)) (u : Tok) (hi : items.isEmpty = false) :
    Meets (Builtin.«tuple.__mul__» ⟨[.ref l, .int 0 u], []⟩) (fun _ R s => s.heap.get? l = some { cls := .type "tuple", dict := dd, data := .seq items n, slots := sl } ∧
      R (.ok (.ret (Value.ref s.heap.objs.size))) { s with heap := s.heap.push { cls := Value.type "tuple", data := Data.seq #[] }, toks := s.toks }) :=
  .of_wp fun prog w A R s h => by
    obtain ⟨hp, g, d, tk, os⟩ := s
    obtain ⟨hl, h⟩ := h
    have f1 := AutoSeq1.idx_int
    have c1 : (items.isEmpty || ((0 : Int) == 1)) = false := by rw [hi]; rfl
    wp_walk using wpAny_loadPart' hl
    repeat (first
      | (refine wpAny_ite_false (decide_eq_false (by decide)) ?_; wp_walk using wpAny_loadPart' hl)
      | (refine wpAny_ite_false (decide_eq_false (by rw [c1]; exact Bool.false_ne_true)) ?_; wp_walk using wpAny_loadPart' hl)
      | (refine wpAny_ite_true (decide_eq_true (by rfl)) ?_; wp_walk using wpAny_loadPart' hl))
    exact ⟨_, rfl, h⟩
/-- tuple * 0, tuple * 1 -/
def rRep01 (K : PySem.W.Frag) : R2 := fun x y H Q => ∃ l k xs, x = .ref l ∧ y = .int k ∧ SqT K H l xs ∧ xs ≠ [] ∧ ((k = 1 ∧ Q (.ref l) H) ∨ (k = 0 ∧ ∀ p, H p = none → Q (.ref p) (upd H p (.tup []))))
theorem op_rep01 {X : Cx} : OpR X (binaryOp .Mult) (rRep01 X.K) := by
  intro pins s σ H x y v u Q I rx ry h
  obtain ⟨l, k, xs, rfl, rfl, hT, hne, q⟩ := h
  cases rx
  obtain ⟨t, rfl⟩ := ry
  obtain ⟨its, r, ⟨⟨cls, dd, data, sl⟩, ho, hc, n, hd⟩, hs⟩ := I.tuple hT
  simp only at hc hd
  subst hc hd
  have hle : its.length = xs.length := r.length.symm
  have hn : its ≠ [] := fun e => hne (by
    rw [e] at hle
    exact List.eq_nil_of_length_eq_zero hle.symm)
  have hi : its.toArray.isEmpty = false := by
    cases its with
    | nil => exact absurd rfl hn
    | cons a b => rfl
  rcases q with ⟨rfl, q⟩ | ⟨rfl, q⟩
  · refine wpAny_binaryOp_repeat_ref (T := "tuple") (U := "int") (by decide) ⟨_, ho, rfl⟩ (fun s' => typeIs_int s' 1 t) noFill_tuple_mul F.fills_int_mul F.slot_int_rmul repeat_tuple F.slot_int_index.lookup
      (call_meets F.slot_int_rmul (typeIs_int s 1 t) F.entry_int_rmul (F.args_int_rmul_2 _ _) (int_rmul_tuple 1 t l its.toArray n dd sl)
        ⟨ho, rfl, ⟨_, ho, rfl⟩, call_meets F.slot_tuple_mul ⟨_, ho, rfl⟩ F.entry_tuple_mul (F.args_tuple_mul_2 _ _) (tuple_mulOne l its.toArray n dd sl t) ⟨ho, ?_⟩⟩)
    exact ⟨.ref l, H, I, rfl, q⟩
  · refine wpAny_binaryOp_repeat_ref (T := "tuple") (U := "int") (by decide) ⟨_, ho, rfl⟩ (fun s' => typeIs_int s' 0 t) noFill_tuple_mul F.fills_int_mul F.slot_int_rmul repeat_tuple F.slot_int_index.lookup
      (call_meets F.slot_int_rmul (typeIs_int s 0 t) F.entry_int_rmul (F.args_int_rmul_2 _ _) (int_rmul_tuple 0 t l its.toArray n dd sl)
        ⟨ho, rfl, ⟨_, ho, rfl⟩, call_meets F.slot_tuple_mul ⟨_, ho, rfl⟩ F.entry_tuple_mul (F.args_tuple_mul_2 _ _) (tuple_mulNul l its.toArray n dd sl t hi) ⟨ho, ?_⟩⟩)
    refine ⟨.ref s.heap.objs.size, _, I.laid (t' := s.toks) (o := .tup []) (fun b ob q => Heap.get?_push_of_some _ q) (Nat.le_refl _) ?_, rfl, q _ (I.hok.fresh (Nat.le_refl _))⟩
    exact ⟨Nat.zero_le _, [], .nil, IsTup.new _ _⟩
end Ev

set_option Elab.async false
set_option linter.all false
set_option maxRecDepth 100000
set_option maxHeartbeats 4000000
set_option autoImplicit false
/-! EvT2: t[::-1], text * int, repr(bool). -/
namespace Ev
open PySem PySem.Spec PyProof.Rows L2
theorem range_pick {α : Type} : ∀ l : List α, (List.range l.length).filterMap (fun k => l[k]?) = l
  | [] => rfl
  | x :: l => by
    rw [List.length_cons, List.range_succ_eq_map, List.filterMap_cons, List.filterMap_map]
    show x :: (List.range l.length).filterMap (fun k => l[k]?) = x :: l
    rw [range_pick l]
theorem fm_congr {α β : Type} {f g : α → Option β} : ∀ l : List α, (∀ x ∈ l, f x = g x) → l.filterMap f = l.filterMap g
  | [], _ => rfl
  | x :: l, h => by
    rw [List.filterMap_cons, List.filterMap_cons, h x List.mem_cons_self, fm_congr l fun y hy => h y (List.mem_cons_of_mem _ hy)]
theorem rev_pick (xs : Array Value) : ((List.range xs.size).filterMap fun (k : Nat) => xs[((xs.size : Int) - 1 + (k : Int) * (-1)).toNat]?) = xs.toList.reverse := by
  have h := range_pick xs.toList.reverse
  rw [List.length_reverse, Array.length_toList] at h
  refine (fm_congr _ fun k hk => ?_).trans h
  have hk := List.mem_range.mp hk
  rw [List.getElem?_reverse (by rw [Array.length_toList]; exact hk), Array.length_toList, Array.getElem?_toList]
  congr 1
  omega
section
variable {prog : Program} {w : World} {A : Around} {E : Value → Shared → Prop} {s : Shared}
theorem sliceApplied_rev {sl : Addr} {u : Tok} {n : Nat} {Q : Int × Int × Nat → Shared → Prop} (hs : s.heap.IsSliceOf sl .none .none (.int (-1) u)) (h : Q ((n : Int) - 1, -1, n) s) : wpAny (model prog w) A (Builtin.Slice.sliceApplied (.ref sl) (pure (n : Int))) Q E s := by
  obtain ⟨os, hos, hcs, hds⟩ := id hs
  unfold Builtin.Slice.sliceApplied Builtin.Slice.sliceFields
  refine wpAny_bind (wpAny_bind (wpAny_field hos hds (x := .none) rfl (wpAny_bind (wpAny_field hos hds (x := .none) rfl (wpAny_bind (wpAny_field hos hds (x := .int (-1) u) rfl (wpAny_pure ?_)))))))
  refine wpAny_bind (slicePart_int ?_)
  show wpAny _ _ (if ((-1 : Int) == 0) = true then _ else _) _ _ s
  rw [if_neg (by decide)]
  refine wpAny_bind (slicePart_none (wpAny_bind (slicePart_none (wpAny_bind (wpAny_pure ?_)))))
  show wpAny _ _ (match Builtin.Slice.sliceAdjust none none (-1) (n : Int) with | (lo, hi) => pure (lo, (-1 : Int), Builtin.Slice.slicePlaces lo hi (-1))) _ _ s
  have e1 : Builtin.Slice.sliceAdjust none none (-1) (n : Int) = ((n : Int) - 1, -1) := rfl
  rw [e1]
  have e2 : Builtin.Slice.slicePlaces ((n : Int) - 1) (-1) (-1) = n := by
    unfold Builtin.Slice.slicePlaces
    simp
    split <;> omega
  show wpAny _ _ (pure ((n : Int) - 1, (-1 : Int), Builtin.Slice.slicePlaces ((n : Int) - 1) (-1) (-1))) _ _ s
  rw [e2]
  exact wpAny_pure h
theorem getItem_tuple_rev {t sl : Addr} {items : Array Value} {u : Tok} {Q : Value → Shared → Prop} (ht : IsTup s.heap t items) (hs : s.heap.IsSliceOf sl .none .none (.int (-1) u))
    (h : Q (.ref s.heap.objs.size) { s with heap := s.heap.push { cls := .type "tuple", data := .seq items.toList.reverse.toArray } }) (hsz : items.size ≤ sizeLine) : wpAny (model prog w) A (getItem (.ref t) (.ref sl)) Q E s := by
  have htake : sizeOk (.seq items.toList.reverse.toArray) := by
    show items.toList.reverse.toArray.size ≤ sizeLine
    rw [List.size_toArray, List.length_reverse, Array.length_toList]
    exact hsz
  obtain ⟨os, hos, hcs, hds⟩ := id hs
  have hTs : s.TypeIs (.ref sl) "slice" := ⟨os, hos, hcs⟩
  unfold getItem
  try with_reducible refine wpAny_holding ?_
  first | refine wpAny_bind (wpAny_pure ?_) | skip
  refine wpAny_bind (wpAny_sequenceKey ht.typeIs (by decide) ?_)
  refine wpAny_bind (wpAny_callSpecial?_slot (name := Str.ofString "__getitem__") ht.typeIs PyProof.Rows.slot_tuple_getitem
    (wpAny_call_entry PyProof.Rows.slot_tuple_getitem ht.typeIs entry_tuple_getitem ?_ (args_tuple_getitem _ _)))
  show wpAny _ _ (Builtin.Tuple.tupleItemsOf (.ref t) >>= _) _ _ s
  refine wpAny_bind (tupleItemsOf_ ht ?_)
  refine wpAny_bind (wpAny_typeOf hTs ?_)
  rw [if_pos (by decide)]
  refine wpAny_bind (sliceApplied_rev hs ?_)
  show wpAny _ _ (if (((items.size : Int) - 1) == 0 && (-1 : Int) == 1 && items.size == items.size) = true then _ else _) _ _ s
  rw [if_neg (by rw [show ((-1 : Int) == 1) = false from rfl, Bool.and_false, Bool.false_and]; exact Bool.false_ne_true), rev_pick]
  first
    | exact wpAny_bind (m := Builtin.Tuple.tupleExact _) (wpAny_newObj_type (wpAny_pure ⟨_, rfl, wpAny_pure h⟩) htake)
    | exact wpAny_bind (m := Builtin.Tuple.tupleExact _) (wpAny_newObj_type (wpAny_bind (wpAny_pure (wpAny_pure ⟨_, rfl, wpAny_pure h⟩))) htake)
    | exact wpAny_bind (wpAny_bind (m := Builtin.Tuple.tupleExact _) (wpAny_newObj_type (wpAny_pure (wpAny_pure ⟨_, rfl, wpAny_pure h⟩)) htake))
    | exact wpAny_bind (wpAny_bind (m := Builtin.Tuple.tupleExact _) (wpAny_newObj_type (wpAny_pure ⟨_, rfl, wpAny_pure h⟩) htake))
end
section
variable {X : Cx}
/-- xs[::-1], a list or a tuple -/
def tRevA (K : PySem.W.Frag) (te : TE) : TE := fun σ H Q => te σ H fun x H1 => (∃ a xs, x = .ref a ∧ SqL K H1 a xs ∧ ∀ p, H1 p = none → Q (.ref p) (upd H1 p (.lst xs.reverse))) ∨ (∃ a xs, x = .ref a ∧ SqT K H1 a xs ∧ ∀ p, H1 p = none → Q (.ref p) (upd H1 p (.tup xs.reverse)))
theorem pe_revA {e : Expr} {te : TE} {k : Nat} {p1 p2 p3 pos : Pos} (he : PE X e te) : PE X (.Subscript e (.Slice none none (some (.UnaryOp .USub (.Constant (.int 1) k p1) p2)) p3) pos) (tRevA X.K te) := by
  refine ⟨fun pins s σ H Q I h => ?_⟩
  refine Subscript_ (thn (he.run pins s σ H _ I h) fun v s1 ⟨x, H1, I1, r1, q1⟩ => ?_)
  have hst : PO X (some (.UnaryOp .USub (.Constant (.int 1) k p1) p2)) (tPart (tUn (rU fun i => .int (-i)) (tC (.int 1)))) := po_some (pe_un un_neg pe_int)
  refine wpAny_Slice (thn (po_none.run pins s1 σ H1 (fun o H2 => o = none ∧ H2 = H1) I1 ⟨rfl, rfl⟩) fun vl s2 ⟨l, H2, I2, pl, el, e2⟩ => ?_)
  subst el e2
  refine thn (po_none.run pins s2 σ H2 (fun o H3 => o = none ∧ H3 = H2) I2 ⟨rfl, rfl⟩) fun vu s3 ⟨u, H3, I3, pu, eu, e3⟩ => ?_
  subst eu e3
  refine thn (hst.run pins s3 σ H3 (fun o H4 => o = some (-1) ∧ H4 = H3) I3 ⟨1, rfl, -1, rfl, rfl, rfl⟩) fun vs s4 ⟨o, H4, I4, ps, eo, e4⟩ => ?_
  subst eo e4
  have I5 : Inv X pins σ H4 { s4 with heap := s4.heap.push { cls := .type "slice", data := .fields #[vl, vu, vs] } } := I4.kept (t' := s4.toks) fun b ob q => Heap.get?_push_of_some _ q
  rcases q1 with ⟨a, xs, ex, hx, q⟩ | ⟨a, xs, ex, hx, q⟩
  · subst ex
    cases r1
    obtain ⟨its, r, ht, hz⟩ := I5.list hx
    have hlen := r.length
    show wpAny (model X.prog X.w) X.A (subscriptTail e (.Slice none none (some (.UnaryOp .USub (.Constant (.int 1) k p1) p2)) p3) (.ref a) (.ref s4.heap.objs.size)) (EP X pins σ Q) X.xe { s4 with heap := s4.heap.push { cls := .type "slice", data := .fields #[vl, vu, vs] } }
    refine tail_any (ops := [.ref a, .ref s4.heap.objs.size]) ht.isList.typeIs (PySem.slot_list_getitem.lookup) ?_ (by with_unfolding_all rfl)
    refine wpAny_getItem_list_slice ht.isList (Heap.IsSliceOf.new _ vl vu vs) pl pu ps (by decide) ?_ (by rw [List.size_toArray]; omega)
    rw [PySem.W.krv_pick]
    refine ⟨.ref _, _, I5.laid (t' := s4.toks) (o := .lst xs.reverse) (fun b ob q => Heap.get?_push_of_some _ q) (Nat.le_refl _) ?_, rfl, q _ (I5.hok.fresh (Nat.le_refl _))⟩
    exact ⟨by rw [List.length_reverse]; exact hz, _, 0, r.reverse, Heap.get?_push_size _ rfl⟩
  · subst ex
    cases r1
    obtain ⟨its, r, ht, hz⟩ := I5.tuple hx
    have hlen := r.length
    show wpAny (model X.prog X.w) X.A (subscriptTail e (.Slice none none (some (.UnaryOp .USub (.Constant (.int 1) k p1) p2)) p3) (.ref a) (.ref s4.heap.objs.size)) (EP X pins σ Q) X.xe { s4 with heap := s4.heap.push { cls := .type "slice", data := .fields #[vl, vu, vs] } }
    refine tail_any (ops := [.ref a, .ref s4.heap.objs.size]) ht.typeIs (PyProof.Rows.slot_tuple_getitem.lookup) ?_ (by with_unfolding_all rfl)
    cases pl
    cases pu
    cases ps with
    | int _ u =>
      refine getItem_tuple_rev ht (Heap.IsSliceOf.new _ _ _ _) ?_ (by rw [List.size_toArray]; omega)
      refine ⟨.ref _, _, I5.laid (t' := s4.toks) (o := .tup xs.reverse) (fun b ob q => Heap.get?_push_of_some _ q) (Nat.le_refl _) ?_, rfl, q _ (I5.hok.fresh (Nat.le_refl _))⟩
      exact ⟨by rw [List.length_reverse]; exact hz, _, r.reverse, IsTup.new _ _⟩
/-- text * int -/
theorem foldl_cps (s : List Nat) : ∀ (n : Nat) (acc : List Nat), (List.replicate n s.toArray).foldl (· ++ ·) acc.toArray = (acc ++ (List.replicate n s).flatten).toArray
  | 0, acc => by simp
  | n + 1, acc => by
    rw [List.replicate_succ, List.foldl_cons, List.replicate_succ, List.flatten_cons, ← List.append_assoc, ← foldl_cps s n (acc ++ s)]
    congr 1
    simp
theorem op_strmul : OpR X (binaryOp .Mult) (fun x y H Q => ∃ (s : List Nat) (k : Int), x = .str ⟨s.toArray⟩ ∧ y = .int k ∧ 0 ≤ k ∧ k ≤ 1000 ∧ s.length ≤ 1000 ∧ Q (.str ⟨(List.replicate k.toNat s).flatten.toArray⟩) H) := by
  intro pins st σ H x y v u Q I rx ry h
  obtain ⟨s, k, rfl, rfl, h0, h1, h2, q⟩ := h
  obtain ⟨t, rfl⟩ := rx
  obtain ⟨t', rfl⟩ := ry
  have hl : (⟨s.toArray⟩ : Str).length = s.length := by show s.toArray.size = _; simp
  have hm : s.length * k.toNat ≤ 1000 * 1000 := Nat.mul_le_mul h2 (by omega)
  refine P.mul_str (by rw [decide_eq_false (by omega), decide_eq_false (by omega)]; rfl) (fun h3 _ => ?_) (fun _ _ => ?_) ?_
  · rw [hl]
    have : (1000 : Int) ≤ (2 ^ 63 - 1) / k := by
      rw [Int.le_ediv_iff_mul_le (by omega)]
      omega
    omega
  · rw [hl]
    unfold Builtin.Str.tooLong
    exact decide_eq_false (by rw [sizeLine_eq]; omega)
  · by_cases k0 : k < 1
    · rw [if_pos k0]
      have : k = 0 := by omega
      subst this
      exact ⟨by decide, .str ⟨#[]⟩, H, I.tok _, ⟨_, rfl⟩, q⟩
    · rw [if_neg k0]
      by_cases k1 : (k == 1 || (⟨s.toArray⟩ : Str).length == 0) = true
      · rw [if_pos k1]
        have e : (List.replicate k.toNat s).flatten = s := by
          rw [Bool.or_eq_true, beq_iff_eq, beq_iff_eq, hl] at k1
          rcases k1 with k1 | k1
          · subst k1
            show (List.replicate 1 s).flatten = s
            rw [List.replicate_succ, List.replicate_zero, List.flatten_cons, List.flatten_nil, List.append_nil]
          · have : s = [] := List.eq_nil_of_length_eq_zero k1
            subst this
            induction k.toNat with
            | zero => rfl
            | succ n ih => rw [List.replicate_succ, List.flatten_cons, ih]; rfl
        rw [e] at q
        exact ⟨.str _, H, I, ⟨t, rfl⟩, q⟩
      · rw [if_neg k1]
        have e := foldl_cps s k.toNat []
        rw [List.nil_append] at e
        refine ⟨?_, .str _, H, I.tok _, ⟨_, rfl⟩, ?_⟩
        · show (List.foldl (· ++ ·) #[] (List.replicate k.toNat s.toArray)).size ≤ sizeLine
          rw [e, List.size_toArray, PyProof.Rows.lm_len_rep_flat, sizeLine_eq]
          have : k.toNat * s.length ≤ 1000 * 1000 := Nat.mul_le_mul (by omega) h2
          omega
        · show Q (.str ⟨List.foldl (· ++ ·) #[] (List.replicate k.toNat s.toArray)⟩) H
          rw [e]
          exact q
def trueS : List Nat := [84, 114, 117, 101]
def falseS : List Nat := [70, 97, 108, 115, 101]
theorem call_repr_bool : CallR X (.builtin "repr") (fun xs H Q => ∃ b : Bool, xs = [.bl b] ∧ Q (.str ⟨(if b = true then trueS else falseS).toArray⟩) H) := by
  intro pins s σ H xs us Q I r h
  obtain ⟨b, rfl, q⟩ := h
  obtain ⟨u, rfl, hu⟩ := r.one
  rw [show u = Value.bool b from hu]
  cases b with
  | true => exact P.repr_of_bool ⟨.str ⟨trueS.toArray⟩, H, I.tok _, ⟨s.toks, by rw [show (Str.ofString "True") = (⟨trueS.toArray⟩ : Str) by decide]; rfl⟩, q⟩
  | false => exact P.repr_of_bool ⟨.str ⟨falseS.toArray⟩, H, I.tok _, ⟨s.toks, by rw [show (Str.ofString "False") = (⟨falseS.toArray⟩ : Str) by decide]; rfl⟩, q⟩
end
end Ev

set_option Elab.async false
set_option linter.all false
set_option maxRecDepth 100000
set_option maxHeartbeats 1000000
set_option autoImplicit false
/-! EvLt: t < u of two tuples of texts. -/
namespace Ev
open PySem PySem.Spec PyProof.Rows L2
theorem lexS_at : ∀ (k : Nat) (ss ts : List (List Nat)) (i : Nat), min ss.length ts.length = i + k →
    Ob.lexAt (fun j => decide (ss.getD j [] = ts.getD j [])) (fun j => decide (ss.getD j [] < ts.getD j [])) (decide (ss.length < ts.length)) i k = lexS (ss.drop i) (ts.drop i)
  | 0, ss, ts, i, h => by
    rw [Ob.lexAt_zero]
    by_cases h1 : ss.length ≤ i
    · rw [List.drop_of_length_le h1]
      by_cases h2 : ts.length ≤ i
      · rw [List.drop_of_length_le h2]
        exact decide_eq_false (by omega)
      · cases e : ts.drop i with
        | nil => exact absurd (List.drop_eq_nil_iff.mp e) h2
        | cons y ys => exact decide_eq_true (by omega)
    · have h2 : ts.length ≤ i := by omega
      rw [List.drop_of_length_le h2]
      cases e : ss.drop i with
      | nil => exact absurd (List.drop_eq_nil_iff.mp e) h1
      | cons y ys => exact decide_eq_false (by omega)
  | k + 1, ss, ts, i, h => by
    rw [Ob.lexAt_succ]
    have h1 : i < ss.length := by omega
    have h2 : i < ts.length := by omega
    rw [List.drop_eq_getElem_cons h1, List.drop_eq_getElem_cons h2]
    have g1 : ss.getD i [] = ss[i] := by simp [h1]
    have g2 : ts.getD i [] = ts[i] := by simp [h2]
    rw [g1, g2, lexS_at k ss ts (i + 1) (by omega)]
    unfold lexS
    by_cases q : ss[i] = ts[i]
    · rw [if_pos (decide_eq_true q), if_pos q]
      cases ss.drop (i + 1) <;> cases ts.drop (i + 1) <;> rfl
    · rw [if_neg (by rw [decide_eq_false q]; exact Bool.false_ne_true), if_neg q]
theorem strs_at : ∀ {ss : List (List Nat)} {us : List Value} (j : Nat) (h : j < us.length), Vals (ss.map fun s => V.str ⟨s.toArray⟩) us → ∃ t, us[j] = .str ⟨(ss.getD j []).toArray⟩ t
  | [], us, j, h, r => by
    cases r
    cases h
  | s :: ss, us, j, h, r => by
    cases r with
    | cons r1 r2 =>
      cases j with
      | zero =>
        obtain ⟨t, e⟩ := r1
        exact ⟨t, e⟩
      | succ j =>
        obtain ⟨t, e⟩ := strs_at (ss := ss) j (Nat.lt_of_succ_lt_succ h) r2
        exact ⟨t, e⟩
def rLtS (K : PySem.W.Frag) : R2 := fun x y H Q => ∃ (a b : Addr) (ss ts : List (List Nat)), x = .ref a ∧ y = .ref b ∧ SqT K H a (ss.map fun s => V.str ⟨s.toArray⟩) ∧ SqT K H b (ts.map fun s => V.str ⟨s.toArray⟩) ∧ Q (.bl (lexS ss ts)) H
theorem op_ltS {X : Cx} (hu : X.A.units < cLine) : OpR X (compareOp .Lt) (rLtS X.K) := by
  intro pins s σ H x y v u Q I rx ry h
  obtain ⟨a, b, ss, ts, rfl, rfl, ha, hb, q⟩ := h
  cases rx
  cases ry
  obtain ⟨its, r1, p1, _⟩ := I.tuple ha
  obtain ⟨its2, r2, p2, _⟩ := I.tuple hb
  have e1 : its.toArray.size = ss.length := by rw [List.size_toArray, ← r1.length, List.length_map]
  have e2 : its2.toArray.size = ts.length := by rw [List.size_toArray, ← r2.length, List.length_map]
  have R := Ob.RcOp.tuples_lt (A := X.A) (s := s) (e := fun j => decide (ss.getD j [] = ts.getD j [])) (r := fun j => decide (ss.getD j [] < ts.getD j [])) p1 p2 hu (fun j h1 h2 => by
    obtain ⟨t, et⟩ := strs_at (ss := ss) j (by simpa using h1) r1
    obtain ⟨t', et'⟩ := strs_at (ss := ts) j (by simpa using h2) r2
    have et : its.toArray[j] = .str ⟨(ss.getD j []).toArray⟩ t := by simpa using et
    have et' : its2.toArray[j] = .str ⟨(ts.getD j []).toArray⟩ t' := by simpa using et'
    rw [et, et']
    have z : ((⟨(ss.getD j []).toArray⟩ : Str) == ⟨(ts.getD j []).toArray⟩) = decide (ss.getD j [] = ts.getD j []) := by
      by_cases q : ss.getD j [] = ts.getD j []
      · rw [decide_eq_true q, q]; exact beq_self_eq_true _
      · rw [decide_eq_false q]
        refine beq_eq_false_iff_ne.mpr fun z => q ?_
        have := congrArg (fun x : Str => x.cps.toList) z
        simpa using this
    rw [← z]
    exact SeqAt.EqAt.str_str _ _ _ _) (fun j h1 h2 _ => by
    obtain ⟨t, et⟩ := strs_at (ss := ss) j (by simpa using h1) r1
    obtain ⟨t', et'⟩ := strs_at (ss := ts) j (by simpa using h2) r2
    have et : its.toArray[j] = .str ⟨(ss.getD j []).toArray⟩ t := by simpa using et
    have et' : its2.toArray[j] = .str ⟨(ts.getD j []).toArray⟩ t' := by simpa using et'
    rw [et, et']
    exact fun _ _ _ _ h => PyProof.Rows.lt_str (by simpa using h))
  rw [e1, e2, lexS_at _ ss ts 0 (by omega)] at R
  exact R X.prog X.w X.xe (EP X pins σ Q) ⟨.bl _, H, I, rfl, q⟩
end Ev

set_option Elab.async false
set_option linter.all false
set_option maxRecDepth 100000
set_option maxHeartbeats 1000000
set_option autoImplicit false
/-! EvO: operators and calls by data. -/
namespace Ev
open PySem PySem.Spec PyProof.Rows L2
section
variable {X : Cx} {T : Tb} {K : PySem.W.Frag} {M : Mem} {x : V}
/-- only lists and dicts are views of what may change -/
theorem DV.rv {p : D} (h : DV K T M p x) (h1 : ∀ xs, p ≠ .lst xs) (h2 : ∀ ks xs, p ≠ .dct ks xs) : RV K T M p x := by
  rcases h with h | ⟨xs, _, _, e, _⟩ | ⟨ks, xs, _, _, e, _⟩
  · exact h
  · exact absurd e (h1 xs)
  · exact absurd e (h2 ks xs)
theorem DV.int {i : Int} (h : DV K T M (.int i) x) : x = .int i := h.rv (fun _ z => by cases z) (fun _ _ z => by cases z)
theorem DV.str {s : List Nat} (h : DV K T M (.str s) x) : x = .str ⟨s.toArray⟩ := h.rv (fun _ z => by cases z) (fun _ _ z => by cases z)
theorem DV.bl {b : Bool} (h : DV K T M (.bl b) x) : x = .bl b := h.rv (fun _ z => by cases z) (fun _ _ z => by cases z)
theorem DV.non (h : DV K T M .non x) : x = .non := h.rv (fun _ z => by cases z) (fun _ _ z => by cases z)
theorem DV.tupP {xs : List D} (h : DV K T M (.tup xs) x) : ∃ a vs, x = .ref a ∧ SqP K M.H xs a vs ∧ RVs K T M xs vs := h.rv (fun _ z => by cases z) (fun _ _ z => by cases z)
theorem DV.tup {xs : List D} (h : DV K T M (.tup xs) x) : ∃ a vs, x = .ref a ∧ SqT K M.H a vs ∧ RVs K T M xs vs := let ⟨a, vs, e, s, r⟩ := h.tupP; ⟨a, vs, e, s.1, r⟩
theorem DV.scr {xs : List D} (h : DV K T M (.scr xs) x) : ∃ a vs, x = .ref a ∧ SqL K M.H a vs ∧ RVs K T M xs vs := by
  obtain ⟨a, vs, e, s, r⟩ : RV K T M (.scr xs) x := h.rv (fun _ z => by cases z) (fun _ _ z => by cases z)
  rcases s with ⟨_, l⟩ | k
  · exact ⟨a, vs, e, .inl l, r⟩
  · exact ⟨a, vs, e, .inr k, r⟩
theorem DV.lst {xs : List D} (h : DV K T M (.lst xs) x) : ∃ a vs, x = .ref a ∧ M.H a = some (.lst vs) ∧ RVs K T M xs vs := by
  rcases h with ⟨a, vs, e, _, l, r⟩ | ⟨ys, a, vs, e, e1, e2, e3⟩ | ⟨_, _, _, _, e, _⟩
  · exact ⟨a, vs, e, l, r⟩
  · cases e
    exact ⟨a, vs, e1, e2, e3⟩
  · cases e
theorem DV.dct {ks xs : List D} (h : DV K T M (.dct ks xs) x) : ∃ a kvs, x = .ref a ∧ M.H a = some (.dK kvs) ∧ ks.map keyD = kvs.map (fun p => some p.1) ∧ RVs K T M xs (kvs.map (·.2)) := by
  rcases h with ⟨a, vs, e, _, l, r⟩ | ⟨_, _, _, e, _⟩ | ⟨ks', ys, a, vs, e, e1, e2, e3⟩
  · exact ⟨a, vs, e, l, r⟩
  · cases e
  · cases e
    exact ⟨a, vs, e1, e2, e3⟩
/-- the reading of an operator by data -/
def rD (K : PySem.W.Frag) (T : Tb) (g : D → D → Option D) : R2 := fun x y H Q => ∃ M p q z, M.H = H ∧ Rep K T M ∧ DV K T M p x ∧ DV K T M q y ∧ g p q = some z ∧ ∀ M' v, M'.A = M.A → Rep K T M' → Ext M M' → RV K T M' z v → Q v M'.H
theorem ok_rD (g : D → D → Option D) : Ok2 K T g (rD K T g) := fun M p q z x y Q R d1 d2 e k => ⟨M, p, q, z, rfl, R, d1, d2, e, k⟩
abbrev OpD (X : Cx) (T : Tb) (f : Value → Value → Sem Value) (g : D → D → Option D) : Prop := OpR X f (rD X.K T g)
theorem je_bin {op : Operator} {g : D → D → Option D} {a b : Expr} {fa fb : SE} {pos : Pos} (ho : OpD X T (binaryOp op) g) (ha : JE X T a fa) (hb : JE X T b fb) : JE X T (.BinOp a op b pos) (e2 g fa fb) := je_op ho (ok_rD g) ha hb
theorem je_cmpD {op : CmpOp} {g : D → D → Option D} {a b : Expr} {fa fb : SE} {pos : Pos} (ho : OpD X T (compareOp op) g) (ha : JE X T a fa) (hb : JE X T b fb) (hm : behindInMarks op b = false := by first | exact nomark _ | rfl) : JE X T (.Compare a [op] [b] pos) (e2 g fa fb) := je_cmp ho (ok_rD g) ha hb hm
theorem jt_cmpD {op : CmpOp} {g : D → D → Option D} {a b : Expr} {fa fb : SE} {pos : Pos} (ho : OpD X T (compareOp op) g) (hg : ∀ p q z, g p q = some z → ∃ k, z = .bl k) (ha : JE X T a fa) (hb : JE X T b fb) (hm : behindInMarks op b = false := by first | exact nomark _ | rfl) : JT X T (.Compare a [op] [b] pos) (tE (e2 g fa fb)) := jt_cmp ho (ok_rD g) hg ha hb hm
theorem str_len (s : List Nat) : (⟨s.toArray⟩ : Str).length = s.length := by show s.toArray.size = _; simp
theorem str_app (s t : List Nat) : (⟨s.toArray⟩ : Str) ++ (⟨t.toArray⟩ : Str) = ⟨(s ++ t).toArray⟩ := by
  show (⟨s.toArray ++ t.toArray⟩ : Str) = _
  simp
/-- a new object, and what it stands for -/
theorem new_tup (R : Rep K T M) {xs : List D} {vs : List V} (nr : rowy xs = false) (r : RVs K T M xs vs) {Q : VK} (k : ∀ M' v, M'.A = M.A → Rep K T M' → Ext M M' → RV K T M' (.tup xs) v → Q v M'.H) : ∀ p, M.H p = none → Q (.ref p) (upd M.H p (.tup vs)) := fun p hp => by
  obtain ⟨R', E'⟩ := garb (o := .tup vs) R hp
  exact k { M with H := upd M.H p (.tup vs) } (.ref p) rfl R' E' ⟨p, vs, rfl, ⟨.inl (.inl upd_same), fun z => by rw [nr] at z; cases z⟩, RVs.ext R E' xs vs r⟩
theorem new_tupF (R : Rep K T M) {xs : List D} {vs : List V} (r : RVs K T M xs vs) {Q : VK} (k : ∀ M' v, M'.A = M.A → Rep K T M' → Ext M M' → RV K T M' (.tup xs) v → Q v M'.H) : ∀ (p : Addr) (o : Obj), M.H p = none → o.dict = none → Q (.ref p) (upd M.H p (.frz o (.tup vs))) := fun p o hp ho => by
  obtain ⟨R', E'⟩ := garb (o := .frz o (.tup vs)) R hp
  exact k { M with H := upd M.H p (.frz o (.tup vs)) } (.ref p) rfl R' E' ⟨p, vs, rfl, ⟨.inl (.inr ⟨o, upd_same⟩), fun _ => .inl ⟨o, vs, upd_same, ho⟩⟩, RVs.ext R E' xs vs r⟩
theorem new_lst (R : Rep K T M) {xs : List D} {vs : List V} (r : RVs K T M xs vs) {Q : VK} (k : ∀ M' v, M'.A = M.A → Rep K T M' → Ext M M' → RV K T M' (.lst xs) v → Q v M'.H) : ∀ p, M.H p = none → Q (.ref p) (upd M.H p (.lst vs)) := fun p hp => by
  obtain ⟨R', E'⟩ := garb (o := .lst vs) R hp
  exact k { M with H := upd M.H p (.lst vs) } (.ref p) rfl R' E' ⟨p, vs, rfl, sep_new R hp, upd_same, RVs.ext R E' xs vs r⟩
theorem opD_add : OpD X T (binaryOp .Add) opAdd := by
  intro pins s σ H x y v u Q I rx ry h
  obtain ⟨M, p, q, z, rfl, R, d1, d2, e, k⟩ := h
  cases p with
  | int i =>
    cases q with
    | int j => cases e; exact op_add pins s σ _ x y v u Q I rx ry ⟨i, j, d1.int, d2.int, k M _ rfl R (Ext.refl M) rfl⟩
    | _ => cases e
  | str a =>
    cases q with
    | str b =>
      have e : (if a.length + b.length ≤ sizeL then some (D.str (a ++ b)) else none) = some z := e
      split at e
      · rename_i hl
        cases e
        exact op_add_str pins s σ _ x y v u Q I rx ry ⟨_, _, d1.str, d2.str, by rw [str_len, str_len, ← sizeL_eq]; exact hl, k M _ rfl R (Ext.refl M) (by rw [str_app]; exact rfl)⟩
      · cases e
    | _ => cases e
  | tup xs =>
    cases q with
    | tup ys =>
      have e : (if xs.length + ys.length ≤ sizeL ∧ (xs.isEmpty || ys.isEmpty || !rowy (xs ++ ys)) = true then some (D.tup (xs ++ ys)) else none) = some z := e
      split at e
      · rename_i hl
        obtain ⟨hl, hr⟩ := hl
        cases e
        obtain ⟨a, vs, rfl, s1', r1⟩ := d1.tupP
        obtain ⟨b, us, rfl, s2', r2⟩ := d2.tupP
        have s1 := s1'.1
        have s2 := s2'.1
        have n1 := r1.length
        have n2 := r2.length
        refine op_catA pins s σ _ _ _ v u Q I rx ry ⟨a, b, vs, us, rfl, rfl, s1, s2, by rw [← n1, ← n2, ← sizeL_eq]; exact hl, fun h0 => ?_, fun h0 h1 => ?_, fun h0 h1 => new_tup R ?_ (r1.append r2) k⟩
        · subst h0
          have : xs = [] := by cases xs <;> simp_all
          subst this
          exact k M _ rfl R (Ext.refl M) ⟨b, us, rfl, s2', r2⟩
        · subst h1
          have : ys = [] := by cases ys <;> simp_all
          subst this
          exact k M _ rfl R (Ext.refl M) ⟨a, vs, rfl, by rw [List.append_nil]; exact s1', by rw [List.append_nil]; exact r1⟩
        · cases xs with
          | nil => exact absurd (show vs = [] from r1) h0
          | cons x xs =>
            cases ys with
            | nil => exact absurd (show us = [] from r2) h1
            | cons y ys =>
              have hr : (!rowy (x :: xs ++ y :: ys)) = true := hr
              rw [Bool.not_eq_true'] at hr
              exact hr
      · cases e
    | _ => cases e
  | lst xs =>
    cases q with
    | lst ys =>
      have e : (if xs.length + ys.length ≤ sizeL then some (D.lst (xs ++ ys)) else none) = some z := e
      split at e
      · rename_i hl
        cases e
        obtain ⟨a, vs, rfl, s1, r1⟩ := d1.lst
        obtain ⟨b, us, rfl, s2, r2⟩ := d2.lst
        exact op_cat pins s σ _ _ _ v u Q I rx ry ⟨a, b, vs, us, rfl, rfl, s1, s2, by rw [← r1.length, ← r2.length, ← sizeL_eq]; exact hl, new_lst R (r1.append r2) k⟩
      · cases e
    | _ => cases e
  | _ => cases q <;> cases e
/-- an operator of two ints -/
theorem opD_int {f : Value → Value → Sem Value} {g : D → D → Option D} {C : Int → Int → Prop} {h : Int → Int → D} {hv : Int → Int → V} (hh : ∀ M i j, RV K T M (h i j) (hv i j)) (ho : OpR X f (L2.rI C hv)) (hK : X.K = K)
    (hg : ∀ p q z, g p q = some z → ∃ i j, p = .int i ∧ q = .int j ∧ C i j ∧ z = h i j) : OpD X T f g := by
  intro pins s σ H x y v u Q I rx ry hq
  obtain ⟨M, p, q, z, rfl, R, d1, d2, e, k⟩ := hq
  obtain ⟨i, j, rfl, rfl, hc, rfl⟩ := hg p q z e
  subst hK
  exact ho pins s σ _ x y v u Q I rx ry ⟨i, j, d1.int, d2.int, hc, k M _ rfl R (Ext.refl M) (hh M i j)⟩
theorem opD_sub : OpD X T (binaryOp .Sub) opSub := by
  intro pins s σ H x y v u Q I rx ry h
  obtain ⟨M, p, q, z, rfl, R, d1, d2, e, k⟩ := h
  cases p with
  | int i =>
    cases q with
    | int j => cases e; exact op_sub pins s σ _ x y v u Q I rx ry ⟨i, j, d1.int, d2.int, k M _ rfl R (Ext.refl M) rfl⟩
    | _ => cases e
  | _ => cases q <;> cases e
theorem mulOk_ok {i j : Int} (h : mulOk i j = true) : CMul i j ∨ CMulW i j := by
  unfold mulOk at h
  rw [Bool.or_eq_true, Bool.or_eq_true, decide_eq_true_eq, decide_eq_true_eq, decide_eq_true_eq] at h
  have p : ((2 : Int) ^ 64).natAbs = 2 ^ 64 := by decide
  rcases h with (h | h) | h
  · exact .inl (.inl ⟨by omega, by omega⟩)
  · exact .inl (.inr ⟨by omega, by omega⟩)
  · exact .inr h
theorem RVs.rep {xs : List D} {vs : List V} (h : RVs K T M xs vs) : ∀ n : Nat, RVs K T M (List.replicate n xs).flatten (List.replicate n vs).flatten
  | 0 => rfl
  | n + 1 => by
    rw [List.replicate_succ, List.replicate_succ, List.flatten_cons, List.flatten_cons]
    exact h.append (RVs.rep h n)
theorem opD_mul : OpD X T (binaryOp .Mult) opMul := by
  intro pins s σ H x y v u Q I rx ry h
  obtain ⟨M, p, q, z, rfl, R, d1, d2, e, k⟩ := h
  cases p with
  | int i =>
    cases q with
    | int j =>
      have e : (if mulOk i j = true then some (D.int (i * j)) else none) = some z := e
      split at e
      · rename_i hc
        cases e
        rcases mulOk_ok hc with hc | hc
        · exact op_mul pins s σ _ x y v u Q I rx ry ⟨i, j, d1.int, d2.int, hc, k M _ rfl R (Ext.refl M) rfl⟩
        · exact op_mulW pins s σ _ x y v u Q I rx ry ⟨i, j, d1.int, d2.int, hc, k M _ rfl R (Ext.refl M) rfl⟩
      · cases e
    | _ => cases e
  | lst xs =>
    cases q with
    | int j =>
      have e : (if -(2 ^ 63) ≤ j ∧ j < 2 ^ 63 ∧ xs.length * j.toNat ≤ sizeL then some (D.lst (List.replicate j.toNat xs).flatten) else none) = some z := e
      split at e
      · rename_i hc
        cases e
        obtain ⟨a, vs, rfl, s1, r1⟩ := d1.lst
        exact op_rep pins s σ _ _ y v u Q I rx ry ⟨a, j, vs, rfl, d2.int, s1, hc.1, hc.2.1, by rw [← r1.length, ← sizeL_eq]; exact hc.2.2, new_lst R (r1.rep _) k⟩
      · cases e
    | _ => cases e
  | tup xs =>
    cases q with
    | int j =>
      have e : (if xs.isEmpty = false ∧ 0 ≤ j ∧ j ≤ 1000 ∧ xs.length ≤ 1000 ∧ rowy (List.replicate j.toNat xs).flatten = false then some (D.tup (List.replicate j.toNat xs).flatten) else none) = some z := e
      split at e
      · rename_i hc
        obtain ⟨h0, h1, h2, h3, h4⟩ := hc
        cases e
        obtain ⟨a, vs, rfl, s1', r1⟩ := d1.tupP
        have s1 := s1'.1
        have hv : vs ≠ [] := fun z => by
          subst z
          have := r1.length
          cases xs with
          | nil => cases h0
          | cons _ _ => cases this
        by_cases j0 : j = 0
        · subst j0
          cases h4
        · by_cases j1 : j = 1
          · subst j1
            refine op_rep01 pins s σ _ _ y v u Q I rx ry ⟨a, 1, vs, rfl, d2.int, s1, hv, .inl ⟨rfl, k M _ rfl R (Ext.refl M) ⟨a, vs, rfl, ?_, ?_⟩⟩⟩
            · show SqP X.K M.H (List.replicate 1 xs).flatten a vs
              rw [List.replicate_succ, List.replicate_zero, List.flatten_cons, List.flatten_nil, List.append_nil]
              exact s1'
            · show RVs X.K T M (List.replicate 1 xs).flatten vs
              rw [List.replicate_succ, List.replicate_zero, List.flatten_cons, List.flatten_nil, List.append_nil]
              exact r1
          · exact op_repT pins s σ _ _ y v u Q I rx ry ⟨a, j, vs, rfl, d2.int, s1, hv, by omega, h2, by rw [← r1.length]; exact h3, new_tup R h4 (r1.rep _) k⟩
      · cases e
    | _ => cases e
  | str t =>
    cases q with
    | int j =>
      have e : (if 0 ≤ j ∧ j ≤ 1000 ∧ t.length ≤ 1000 then some (D.str (List.replicate j.toNat t).flatten) else none) = some z := e
      split at e
      · rename_i hc
        cases e
        exact op_strmul pins s σ _ x y v u Q I rx ry ⟨t, j, d1.str, d2.int, hc.1, hc.2.1, hc.2.2, k M _ rfl R (Ext.refl M) rfl⟩
      · cases e
    | _ => cases e
  | _ => cases q <;> cases e
theorem opD_fdiv : OpD X T (binaryOp .FloorDiv) opFdiv := opD_int (K := X.K) (h := fun i j => .int (i / j)) (fun _ _ _ => rfl) op_fdivW rfl fun p q z e => by
  cases p with
  | int i =>
    cases q with
    | int j =>
      have e : (if 0 < j ∧ j.natAbs.log2 < 9000 then some (D.int (i / j)) else none) = some z := e
      split at e
      · rename_i hc
        cases e
        exact ⟨i, j, rfl, rfl, hc, rfl⟩
      · cases e
    | _ => cases e
  | _ => cases q <;> cases e
theorem opD_mod : OpD X T (binaryOp .Mod) opMod := opD_int (K := X.K) (h := fun i j => .int (i % j)) (fun _ _ _ => rfl) op_mod rfl fun p q z e => by
  cases p with
  | int i =>
    cases q with
    | int j =>
      have e : (if 0 < j then some (D.int (i % j)) else none) = some z := e
      split at e
      · rename_i hc
        cases e
        exact ⟨i, j, rfl, rfl, hc, rfl⟩
      · cases e
    | _ => cases e
  | _ => cases q <;> cases e
theorem opD_pow : OpD X T (binaryOp .Pow) opPow := opD_int (K := X.K) (h := fun i j => .int (i ^ j.toNat)) (fun _ _ _ => rfl) op_pow rfl fun p q z e => by
  cases p with
  | int i =>
    cases q with
    | int j =>
      have e : (if 0 ≤ j ∧ j ≤ 1000000 ∧ i.natAbs < 2 ^ 64 then some (D.int (i ^ j.toNat)) else none) = some z := e
      split at e
      · rename_i hc
        cases e
        exact ⟨i, j, rfl, rfl, hc, rfl⟩
      · cases e
    | _ => cases e
  | _ => cases q <;> cases e

/-! ### comparisons -/
theorem strs_rv {K : PySem.W.Frag} {T : Tb} {M : Mem} : ∀ {xs : List D} {ss : List (List Nat)} {vs : List V}, strsD xs = some ss → RVs K T M xs vs → vs = ss.map fun s => V.str ⟨s.toArray⟩
  | [], ss, vs, e, h => by
    cases e
    exact h
  | .str s :: xs, ss, vs, e, h => by
    obtain ⟨v, r, rfl, h1, h2⟩ := h
    unfold strsD at e
    cases q : strsD xs with
    | none => rw [q] at e; cases e
    | some ts =>
      rw [q] at e
      cases e
      rw [strs_rv q h2, show v = V.str ⟨s.toArray⟩ from h1]
      rfl
  | .non :: _, _, _, e, _ => by cases e
  | .bl _ :: _, _, _, e, _ => by cases e
  | .int _ :: _, _, _, e, _ => by cases e
  | .tup _ :: _, _, _, e, _ => by cases e
  | .lst _ :: _, _, _, e, _ => by cases e
  | .dct _ _ :: _, _, _, e, _ => by cases e
  | .set _ :: _, _, _, e, _ => by cases e
  | .obj _ _ _ :: _, _, _, e, _ => by cases e
  | .exn _ _ _ :: _, _, _, e, _ => by cases e
  | .dcn _ _ :: _, _, _, e, _ => by cases e
  | .fn _ :: _, _, _, e, _ => by cases e
  | .scr _ :: _, _, _, e, _ => by cases e
theorem opD_lt (hu : X.A.units < cLine) : OpD X T (compareOp .Lt) opLt := by
  intro pins s σ H x y v u Q I rx ry h
  obtain ⟨M, p, q, z, rfl, R, d1, d2, e, k⟩ := h
  cases p with
  | int i =>
    cases q with
    | int j => cases e; exact op_lt pins s σ _ x y v u Q I rx ry ⟨i, j, d1.int, d2.int, k M _ rfl R (Ext.refl M) rfl⟩
    | _ => cases e
  | str a =>
    cases q with
    | str b => cases e; exact op_lt_str pins s σ _ x y v u Q I rx ry ⟨_, _, d1.str, d2.str, k M _ rfl R (Ext.refl M) rfl⟩
    | _ => cases e
  | tup xs =>
    cases q with
    | tup ys =>
      unfold opLt at e
      dsimp only at e
      split at e
      · rename_i ss ts e1 e2
        cases e
        obtain ⟨a, vs, rfl, s1, r1⟩ := d1.tup
        obtain ⟨b, us, rfl, s2, r2⟩ := d2.tup
        rw [strs_rv e1 r1] at s1
        rw [strs_rv e2 r2] at s2
        exact op_ltS hu pins s σ _ _ _ v u Q I rx ry ⟨a, b, ss, ts, rfl, rfl, s1, s2, k M _ rfl R (Ext.refl M) rfl⟩
      · cases e
    | _ => cases e
  | _ => cases q <;> cases e
theorem opD_le : OpD X T (compareOp .LtE) opLe := by
  intro pins s σ H x y v u Q I rx ry h
  obtain ⟨M, p, q, z, rfl, R, d1, d2, e, k⟩ := h
  cases p with
  | int i =>
    cases q with
    | int j => cases e; exact op_le pins s σ _ x y v u Q I rx ry ⟨i, j, d1.int, d2.int, k M _ rfl R (Ext.refl M) rfl⟩
    | _ => cases e
  | _ => cases q <;> cases e
theorem opD_gt : OpD X T (compareOp .Gt) opGt := by
  intro pins s σ H x y v u Q I rx ry h
  obtain ⟨M, p, q, z, rfl, R, d1, d2, e, k⟩ := h
  cases p with
  | int i =>
    cases q with
    | int j => cases e; exact op_gt pins s σ _ x y v u Q I rx ry ⟨i, j, d1.int, d2.int, k M _ rfl R (Ext.refl M) rfl⟩
    | _ => cases e
  | _ => cases q <;> cases e
theorem opD_ge : OpD X T (compareOp .GtE) opGe := by
  intro pins s σ H x y v u Q I rx ry h
  obtain ⟨M, p, q, z, rfl, R, d1, d2, e, k⟩ := h
  cases p with
  | int i =>
    cases q with
    | int j => cases e; exact op_ge pins s σ _ x y v u Q I rx ry ⟨i, j, d1.int, d2.int, k M _ rfl R (Ext.refl M) rfl⟩
    | _ => cases e
  | _ => cases q <;> cases e
/-! data as the library's data -/
mutual
def toPy : D → PyData
  | .bl b => .bool b
  | .int i => .int i
  | .str s => .str ⟨s.toArray⟩
  | .tup xs => .tuple (toPys xs)
  | .lst xs => .list (toPys xs)
  | _ => .none
def toPys : List D → List PyData
  | [] => []
  | x :: xs => toPy x :: toPys xs
end
theorem str_all (s : List Nat) : (⟨s.toArray⟩ : Str).cps.all (· < 0x110000) = s.all (· < 0x110000) := by simp
mutual
theorem lay_of : ∀ d : D, dOk d = true → (toPy d).canLay0 = true
  | .non, _ => rfl
  | .bl _, _ => rfl
  | .int _, _ => rfl
  | .str s, h => by
    show (⟨s.toArray⟩ : Str).cps.all (· < 0x110000) = true
    rw [str_all]
    exact h
  | .tup xs, h => by
    show PyData.canLay0 (.tuple (toPys xs)) = true
    rw [PyData.canLay0]
    exact lays_of xs h
  | .lst xs, h => by
    show PyData.canLay0 (.list (toPys xs)) = true
    rw [PyData.canLay0]
    exact lays_of xs h
  | .dct _ _, h => by cases h
  | .set _, h => by cases h
  | .obj _ _ _, h => by cases h
  | .exn _ _ _, h => by cases h
  | .dcn _ _, h => by cases h
  | .fn _, h => by cases h
  | .scr _, h => by cases h
theorem lays_of : ∀ ds : List D, dOks ds = true → PyData.canLayAll0 (toPys ds) = true
  | [], _ => rfl
  | x :: xs, h => by
    have h : (dOk x && dOks xs) = true := h
    rw [Bool.and_eq_true] at h
    show (PyData.canLay0 (toPy x) && PyData.canLayAll0 (toPys xs)) = true
    rw [lay_of x h.1, lays_of xs h.2]
    rfl
end
mutual
theorem dep_of : ∀ d : D, (toPy d).depth = dep d
  | .non => rfl
  | .bl _ => rfl
  | .int _ => rfl
  | .str s => rfl
  | .tup xs => by
    show PyData.depthAll (toPys xs) + 1 = deps xs + 1
    rw [deps_of xs]
  | .lst xs => by
    show PyData.depthAll (toPys xs) + 1 = deps xs + 1
    rw [deps_of xs]
  | .dct _ _ => rfl
  | .set _ => rfl
  | .obj _ _ _ => rfl
  | .exn _ _ _ => rfl
  | .dcn _ _ => rfl
  | .fn _ => rfl
  | .scr _ => rfl
theorem deps_of : ∀ ds : List D, PyData.depthAll (toPys ds) = deps ds
  | [] => rfl
  | x :: xs => by
    show max (PyData.depth (toPy x)) (PyData.depthAll (toPys xs)) = max (dep x) (deps xs)
    rw [dep_of x, deps_of xs]
end
theorem shaped_of {d : D} (h : okD d = true) : SeqAt.shaped (toPy d) = true := by
  unfold okD at h
  rw [Bool.and_eq_true] at h
  unfold SeqAt.shaped
  rw [lay_of d h.1, dep_of d, h.2]
  rfl
mutual
theorem dp_of : ∀ (d : D) (v : V), dOk d = true → RV K T M d v → Dp K M.H v (toPy d)
  | .non, v, _, h => by rw [show v = .non from h]; exact .non
  | .bl b, v, _, h => by rw [show v = .bl b from h]; exact .bl b
  | .int i, v, _, h => by rw [show v = .int i from h]; exact .int i
  | .str s, v, _, h => by rw [show v = .str ⟨s.toArray⟩ from h]; exact .str _
  | .tup xs, v, o, h => by
    obtain ⟨a, vs, rfl, s, r⟩ := h
    exact .tup s.1 (dps_of xs vs o r)
  | .lst xs, v, o, h => by
    obtain ⟨a, vs, rfl, _, l, r⟩ := h
    exact .lst (.inl (.inl l)) (dps_of xs vs o r)
  | .dct _ _, _, h, _ => by cases h
  | .set _, _, h, _ => by cases h
  | .obj _ _ _, _, h, _ => by cases h
  | .exn _ _ _, _, h, _ => by cases h
  | .dcn _ _, _, h, _ => by cases h
  | .fn _, _, h, _ => by cases h
  | .scr _, _, h, _ => by cases h
theorem dps_of : ∀ (ds : List D) (vs : List V), dOks ds = true → RVs K T M ds vs → DpAll K M.H vs (toPys ds)
  | [], vs, _, h => by rw [show vs = [] from h]; exact .nil
  | x :: xs, vs, o, h => by
    obtain ⟨v, r, rfl, h1, h2⟩ := h
    have o : (dOk x && dOks xs) = true := o
    rw [Bool.and_eq_true] at o
    exact .cons (dp_of x v o.1 h1) (dps_of xs r o.2 h2)
end
theorem dv_dp {d : D} {v : V} (o : okD d = true) (h : DV K T M d v) : Dp K M.H v (toPy d) := by
  have o1 : dOk d = true := by
    unfold okD at o
    rw [Bool.and_eq_true] at o
    exact o.1
  rcases h with h | ⟨xs, a, vs, rfl, rfl, e2, e3⟩ | ⟨_, _, _, _, rfl, _⟩
  · exact dp_of d v o1 h
  · exact .lst (.inl (.inl e2)) (dps_of xs vs o1 e3)
  · cases o1
theorem str_eq (s t : List Nat) : ((⟨s.toArray⟩ : Str) = ⟨t.toArray⟩) ↔ s = t := by
  constructor
  · intro h
    injection h with h
    simpa using congrArg Array.toList h
  · rintro rfl; rfl
mutual
theorem eqv_of : ∀ (d e : D), dOk d = true → dOk e = true → PyData.eqv (toPy d) (toPy e) = eqD d e
  | .str s, .str t, _, _ => by
    show ((⟨s.toArray⟩ : Str) == ⟨t.toArray⟩) = decide (s = t)
    by_cases h : s = t
    · subst h; simp
    · rw [decide_eq_false h]
      exact beq_eq_false_iff_ne.mpr fun z => h ((str_eq s t).mp z)
  | .tup xs, .tup ys, h1, h2 => by
    show PyData.eqvAll (toPys xs) (toPys ys) = eqDs xs ys
    exact eqvs_of xs ys h1 h2
  | .lst xs, .lst ys, h1, h2 => by
    show PyData.eqvAll (toPys xs) (toPys ys) = eqDs xs ys
    exact eqvs_of xs ys h1 h2
  | .non, e, _, h => by cases e <;> first | rfl | cases h
  | .bl _, e, _, h => by cases e <;> first | rfl | cases h
  | .int _, e, _, h => by cases e <;> first | rfl | cases h
  | .str _, .non, _, h => rfl
  | .str _, .bl _, _, h => rfl
  | .str _, .int _, _, h => rfl
  | .str _, .tup _, _, h => rfl
  | .str _, .lst _, _, h => rfl
  | .tup _, .non, _, h => rfl
  | .tup _, .bl _, _, h => rfl
  | .tup _, .int _, _, h => rfl
  | .tup _, .str _, _, h => rfl
  | .tup _, .lst _, _, h => rfl
  | .lst _, .non, _, h => rfl
  | .lst _, .bl _, _, h => rfl
  | .lst _, .int _, _, h => rfl
  | .lst _, .str _, _, h => rfl
  | .lst _, .tup _, _, h => rfl
  | .dct _ _, _, h, _ => by cases h
  | .set _, _, h, _ => by cases h
  | .obj _ _ _, _, h, _ => by cases h
  | .exn _ _ _, _, h, _ => by cases h
  | .dcn _ _, _, h, _ => by cases h
  | .fn _, _, h, _ => by cases h
  | .scr _, _, h, _ => by cases h
  | _, .dct _ _, _, h => by cases h
  | _, .set _, _, h => by cases h
  | _, .obj _ _ _, _, h => by cases h
  | _, .exn _ _ _, _, h => by cases h
  | _, .dcn _ _, _, h => by cases h
  | _, .fn _, _, h => by cases h
  | _, .scr _, _, h => by cases h
theorem eqvs_of : ∀ (ds es : List D), dOks ds = true → dOks es = true → PyData.eqvAll (toPys ds) (toPys es) = eqDs ds es
  | [], [], _, _ => rfl
  | [], _ :: _, _, _ => rfl
  | _ :: _, [], _, _ => rfl
  | x :: xs, y :: ys, h1, h2 => by
    have h1 : (dOk x && dOks xs) = true := h1
    have h2 : (dOk y && dOks ys) = true := h2
    rw [Bool.and_eq_true] at h1 h2
    show (PyData.eqv (toPy x) (toPy y) && PyData.eqvAll (toPys xs) (toPys ys)) = (eqD x y && eqDs xs ys)
    rw [eqv_of x y h1.1 h2.1, eqvs_of xs ys h1.2 h2.2]
end
theorem okD_dOk {d : D} (h : okD d = true) : dOk d = true := by
  unfold okD at h
  rw [Bool.and_eq_true] at h
  exact h.1
theorem eq_nilV (hu : X.A.units + 64 < cLine) {pins : List (Addr × Obj)} {s : Shared} {σ : L2.St} {H : Hp} {Q : VK} {a b : Addr} {xs : List V} (I : Inv X pins σ H s) (ha : SqL X.K H a xs) (hb : SqL X.K H b []) (q : Q (.bl xs.isEmpty) H) :
    wpAny (model X.prog X.w) X.A (compareOp .Eq (.ref a) (.ref b)) (EP X pins σ Q) X.xe s := by
  obtain ⟨its, r1, l1, _⟩ := I.list ha
  obtain ⟨its2, r2, l2, _⟩ := I.list hb
  cases r2
  show wpAny _ _ (richCompare .Eq (.ref a) (.ref b)) _ _ _
  cases xs with
  | nil =>
    cases r1
    exact SeqAt.RcAt.lists (e := fun _ => true) l1.isList l2.isList rfl (by omega) (fun j h1 _ => absurd h1 (Nat.not_lt_zero _)) _ _ _ _ ⟨.bl true, H, I, rfl, q⟩
  | cons x xs =>
    cases r1 with
    | cons c1 c2 => exact SeqAt.RcAt.lists_lengths l1.isList l2.isList rfl (by omega) _ _ _ _ ⟨.bl false, H, I, rfl, q⟩
theorem ne_nilV (hu : X.A.units + 64 < cLine) {pins : List (Addr × Obj)} {s : Shared} {σ : L2.St} {H : Hp} {Q : VK} {a b : Addr} {xs : List V} (I : Inv X pins σ H s) (ha : SqL X.K H a xs) (hb : SqL X.K H b []) (q : Q (.bl (!xs.isEmpty)) H) :
    wpAny (model X.prog X.w) X.A (compareOp .NotEq (.ref a) (.ref b)) (EP X pins σ Q) X.xe s := by
  obtain ⟨its, r1, l1, _⟩ := I.list ha
  obtain ⟨its2, r2, l2, _⟩ := I.list hb
  cases r2
  show wpAny _ _ (richCompare .NotEq (.ref a) (.ref b)) _ _ _
  cases xs with
  | nil =>
    cases r1
    exact SeqAt.RcNeAt.lists (e := fun _ => true) l1.isList l2.isList rfl (by omega) (fun j h1 _ => absurd h1 (Nat.not_lt_zero _)) _ _ _ _ ⟨.bl false, H, I, rfl, q⟩
  | cons x xs =>
    cases r1 with
    | cons c1 c2 => exact SeqAt.RcNeAt.lists_lengths l1.isList l2.isList rfl (by omega) _ _ _ _ ⟨.bl true, H, I, rfl, q⟩
theorem opD_eq (hu : X.A.units + 64 < cLine) : OpD X T (compareOp .Eq) opEq := by
  intro pins s σ H x y v u Q I rx ry h
  obtain ⟨M, p, q, z, rfl, R, d1, d2, e, k⟩ := h
  have gen : (if (okD p && okD q) = true then some (D.bl (eqD p q)) else none) = some z → wpAny (model X.prog X.w) X.A (compareOp .Eq v u) (EP X pins σ Q) X.xe s := fun e => by
    split at e
    · rename_i hc
      rw [Bool.and_eq_true] at hc
      cases e
      exact op_eqD hu pins s σ _ x y v u Q I rx ry ⟨_, _, dv_dp hc.1 d1, dv_dp hc.2 d2, shaped_of hc.1, shaped_of hc.2, by rw [eqv_of p q (okD_dOk hc.1) (okD_dOk hc.2)]; exact k M _ rfl R (Ext.refl M) rfl⟩
    · cases e
  cases p with
  | str a =>
    cases q with
    | str b =>
      cases e
      refine L2.op_eq pins s σ _ x y v u Q I rx ry ⟨by rw [d1.str, d2.str]; rfl, ?_⟩
      rw [d1.str, d2.str]
      have : decide (V.str ⟨a.toArray⟩ = V.str ⟨b.toArray⟩) = decide (a = b) := by
        by_cases h : a = b
        · subst h; simp
        · rw [decide_eq_false h]
          exact decide_eq_false fun z => h ((str_eq a b).mp (V.str.inj z))
      rw [this]
      exact k M _ rfl R (Ext.refl M) rfl
    | _ => exact gen e
  | int i =>
    cases q with
    | int j =>
      cases e
      refine L2.op_eq pins s σ _ x y v u Q I rx ry ⟨by rw [d1.int, d2.int]; rfl, ?_⟩
      rw [d1.int, d2.int]
      have : decide (V.int i = V.int j) = decide (i = j) := by simp
      rw [this]
      exact k M _ rfl R (Ext.refl M) rfl
    | _ => exact gen e
  | lst xs =>
    cases q with
    | lst ys =>
      cases ys with
      | nil =>
        cases e
        obtain ⟨a, vs, rfl, s1, r1⟩ := d1.lst
        obtain ⟨b, us, rfl, s2, r2⟩ := d2.lst
        cases (show us = [] from r2)
        obtain rfl : v = Value.ref a := rx
        obtain rfl : u = Value.ref b := ry
        refine eq_nilV hu I (SqL.of s1) (SqL.of s2) ?_
        have : vs.isEmpty = xs.isEmpty := by
          have := r1.length
          cases xs <;> cases vs <;> first | rfl | cases this
        rw [this]
        exact k M _ rfl R (Ext.refl M) rfl
      | cons _ _ => exact gen e
    | _ => exact gen e
  | _ => exact gen e
theorem opD_ne (hu : X.A.units + 64 < cLine) : OpD X T (compareOp .NotEq) opNe := by
  intro pins s σ H x y v u Q I rx ry h
  obtain ⟨M, p, q, z, rfl, R, d1, d2, e, k⟩ := h
  have gen : (if (okD p && okD q) = true then some (D.bl (!eqD p q)) else none) = some z → wpAny (model X.prog X.w) X.A (compareOp .NotEq v u) (EP X pins σ Q) X.xe s := fun e => by
    split at e
    · rename_i hc
      rw [Bool.and_eq_true] at hc
      cases e
      exact op_neD hu pins s σ _ x y v u Q I rx ry ⟨_, _, dv_dp hc.1 d1, dv_dp hc.2 d2, shaped_of hc.1, shaped_of hc.2, by rw [eqv_of p q (okD_dOk hc.1) (okD_dOk hc.2)]; exact k M _ rfl R (Ext.refl M) rfl⟩
    · cases e
  cases p with
  | str a =>
    cases q with
    | str b =>
      cases e
      refine L2.op_ne pins s σ _ x y v u Q I rx ry ⟨by rw [d1.str, d2.str]; rfl, ?_⟩
      rw [d1.str, d2.str]
      have : decide (V.str ⟨a.toArray⟩ = V.str ⟨b.toArray⟩) = decide (a = b) := by
        by_cases h : a = b
        · subst h; simp
        · rw [decide_eq_false h]
          exact decide_eq_false fun z => h ((str_eq a b).mp (V.str.inj z))
      rw [this]
      exact k M _ rfl R (Ext.refl M) rfl
    | _ => exact gen e
  | int i =>
    cases q with
    | int j =>
      cases e
      refine L2.op_ne pins s σ _ x y v u Q I rx ry ⟨by rw [d1.int, d2.int]; rfl, ?_⟩
      rw [d1.int, d2.int]
      have : decide (V.int i = V.int j) = decide (i = j) := by simp
      rw [this]
      exact k M _ rfl R (Ext.refl M) rfl
    | _ => exact gen e
  | lst xs =>
    cases q with
    | lst ys =>
      cases ys with
      | nil =>
        cases e
        obtain ⟨a, vs, rfl, s1, r1⟩ := d1.lst
        obtain ⟨b, us, rfl, s2, r2⟩ := d2.lst
        cases (show us = [] from r2)
        obtain rfl : v = Value.ref a := rx
        obtain rfl : u = Value.ref b := ry
        refine ne_nilV hu I (SqL.of s1) (SqL.of s2) ?_
        have : vs.isEmpty = xs.isEmpty := by
          have := r1.length
          cases xs <;> cases vs <;> first | rfl | cases this
        rw [this]
        exact k M _ rfl R (Ext.refl M) rfl
      | cons _ _ => exact gen e
    | _ => exact gen e
  | _ => exact gen e
end
end Ev

set_option Elab.async false
set_option linter.all false
set_option maxRecDepth 100000
set_option maxHeartbeats 1000000
set_option autoImplicit false
/-! EvB: in, calls of builtins, isinstance, indexes, slices, chains. -/
namespace Ev
open PySem PySem.Spec PyProof.Rows L2
section
variable {X : Cx} {T : Tb} {K : PySem.W.Frag} {M : Mem} {x : V}
/-! ### keys -/
theorem keyD_ok {d : D} (h : isKey d = true) : ∃ k, keyD d = some k := by
  cases d with
  | int i => exact ⟨_, rfl⟩
  | str s => exact ⟨_, rfl⟩
  | _ => cases h
theorem keyD_rv {d : D} {k : Key} {v : V} (h : keyD d = some k) (r : RV K T M d v) : v = kV k := by
  cases d with
  | int i => cases h; exact r
  | str s => cases h; exact r
  | _ => cases h
theorem keyD_dv {d : D} {k : Key} {v : V} (h : keyD d = some k) (r : DV K T M d v) : v = kV k := by
  cases d with
  | int i => cases h; exact r.int
  | str s => cases h; exact r.str
  | _ => cases h
theorem keyEq_ok {a b : D} {ka kb : Key} (ha : keyD a = some ka) (hb : keyD b = some kb) : keyEq a b = decide (ka = kb) := by
  cases a with
  | int i =>
    cases ha
    cases b with
    | int j =>
      cases hb
      show decide (i = j) = _
      by_cases h : i = j
      · subst h; simp
      · rw [decide_eq_false h, decide_eq_false fun z => h (Sum.inl.inj z)]
    | str t => cases hb; show false = _; exact (decide_eq_false fun z => by cases z).symm
    | _ => cases hb
  | str s =>
    cases ha
    cases b with
    | int j => cases hb; show false = _; exact (decide_eq_false fun z => by cases z).symm
    | str t =>
      cases hb
      show decide (s = t) = _
      by_cases h : s = t
      · subst h; simp
      · rw [decide_eq_false h, decide_eq_false fun z => h ((str_eq s t).mp (Sum.inr.inj z))]
    | _ => cases hb
  | _ => cases ha
theorem findD_ok {k : D} {kk : Key} (hk : keyD k = some kk) : ∀ {ks vs : List D} {kvs : List (Key × V)}, ks.map keyD = kvs.map (fun p => some p.1) → RVs K T M vs (kvs.map (·.2)) → (findD k ks vs = none ∧ valV kvs kk = none) ∨ ∃ d v, findD k ks vs = some d ∧ valV kvs kk = some v ∧ RV K T M d v
  | [], vs, [], _, _ => .inl ⟨by cases vs <;> rfl, rfl⟩
  | [], vs, _ :: _, e, _ => by cases e
  | _ :: _, vs, [], e, _ => by cases e
  | a :: ks, vs, (ka, va) :: kvs, e, r => by
    have e1 : keyD a = some ka := (List.cons.inj e).1
    have e2 : ks.map keyD = kvs.map (fun p => some p.1) := (List.cons.inj e).2
    cases vs with
    | nil => cases (show va :: kvs.map (·.2) = [] from r)
    | cons d ds =>
      obtain ⟨v, rr, q, h1, h2⟩ := r
      have q : va :: kvs.map (·.2) = v :: rr := q
      cases q
      have ke := keyEq_ok e1 hk
      by_cases hh : ka = kk
      · refine .inr ⟨d, va, ?_, valV_pos hh, h1⟩
        show (if keyEq a k = true then some d else findD k ks ds) = some d
        rw [ke, decide_eq_true hh, if_pos rfl]
      · rw [valV_neg (p := (ka, va)) hh]
        have : findD k (a :: ks) (d :: ds) = findD k ks ds := by
          show (if keyEq a k = true then some d else findD k ks ds) = _
          rw [ke, decide_eq_false hh, if_neg Bool.false_ne_true]
        rw [this]
        exact findD_ok hk e2 h2
/-! ### in -/
theorem any_eqv {p : D} (hp : dOk p = true) : ∀ {ys : List D}, dOks ys = true → (toPys ys).any (fun z => PyData.eqv z (toPy p)) = ys.any fun y => eqD y p
  | [], _ => rfl
  | y :: ys, h => by
    have h : (dOk y && dOks ys) = true := h
    rw [Bool.and_eq_true] at h
    show (PyData.eqv (toPy y) (toPy p) || (toPys ys).any _) = (eqD y p || ys.any _)
    rw [eqv_of y p h.1 hp, any_eqv hp h.2]
theorem opD_in (hu : X.A.units + 65 < cLine) : OpD X T (compareOp .In) opIn := by
  intro pins s σ H x y v u Q I rx ry h
  obtain ⟨M, p, q, z, rfl, R, d1, d2, e, k⟩ := h
  have fl : ∀ ys : List D, q = .lst ys → wpAny (model X.prog X.w) X.A (compareOp .In v u) (EP X pins σ Q) X.xe s := fun ys eq => by
    subst eq
    have e : (if (okD p && okD (.lst ys)) = true then some (D.bl (ys.any fun y => eqD y p)) else none) = some z := by cases p <;> exact e
    split at e
    · rename_i hc
      rw [Bool.and_eq_true] at hc
      cases e
      exact op_inD hu pins s σ _ x y v u Q I rx ry ⟨toPy p, toPys ys, dv_dp hc.1 d1, dv_dp hc.2 d2, shaped_of hc.1, shaped_of hc.2, by rw [any_eqv (okD_dOk hc.1) (okD_dOk hc.2)]; exact k M _ rfl R (Ext.refl M) rfl⟩
    · cases e
  have ft : ∀ ys : List D, q = .tup ys → wpAny (model X.prog X.w) X.A (compareOp .In v u) (EP X pins σ Q) X.xe s := fun ys eq => by
    subst eq
    have e : (if (okD p && okD (.tup ys)) = true then some (D.bl (ys.any fun y => eqD y p)) else none) = some z := by cases p <;> exact e
    split at e
    · rename_i hc
      rw [Bool.and_eq_true] at hc
      cases e
      obtain ⟨as, r1⟩ := Dp.reads I (toPy p) x v (dv_dp hc.1 d1) rx
      obtain ⟨bs, r2⟩ := Dp.reads I (.tuple (toPys ys)) y u (dv_dp hc.2 d2) ry
      refine SeqAt.in_tuple_reads r2 r1 (SeqAt.canLay_of_shaped (shaped_of hc.2)) (SeqAt.canLay_of_shaped (shaped_of hc.1)) (room_in_shaped (shaped_of hc.1) hu) ⟨.bl _, M.H, I, rfl, ?_⟩
      rw [any_eqv (okD_dOk hc.1) (okD_dOk hc.2)]
      exact k M _ rfl R (Ext.refl M) rfl
    · cases e
  have fd : ∀ ks vs : List D, q = .dct ks vs → wpAny (model X.prog X.w) X.A (compareOp .In v u) (EP X pins σ Q) X.xe s := fun ks vs eq => by
    subst eq
    have e : (if isKey p = true then some (D.bl (findD p ks vs).isSome) else none) = some z := by cases p <;> first | exact e | (rename_i l; cases l with | nil => exact e | cons _ r => cases r <;> exact e)
    split at e
    · rename_i hk
      cases e
      obtain ⟨kk, hkk⟩ := keyD_ok hk
      obtain ⟨a, kvs, rfl, hd, hks, rv⟩ := d2.dct
      obtain rfl : u = Value.ref a := ry
      have hx := keyD_dv hkk d1
      subst hx
      refine d_in (o := valV kvs kk) (by omega) I (DGet.k hd) rx fun s' I' => ⟨.bl _, M.H, I', rfl, ?_⟩
      rcases findD_ok hkk hks rv with ⟨h1, h2⟩ | ⟨d, w, h1, h2, _⟩
      · rw [h2]; rw [h1] at k; exact k M _ rfl R (Ext.refl M) rfl
      · rw [h2]; rw [h1] at k; exact k M _ rfl R (Ext.refl M) rfl
    · cases e
  cases q with
  | lst ys => exact fl ys rfl
  | tup ys => exact ft ys rfl
  | dct ks vs => exact fd ks vs rfl
  | str t =>
    cases p with
    | str a =>
      cases a with
      | nil => cases e
      | cons c r =>
        cases r with
        | nil =>
          cases e
          exact op_in_sign pins s σ _ x y v u Q I rx ry ⟨c, _, d1.str, d2.str, by
            show Q (.bl (decide (c ∈ t))) M.H
            exact k M _ rfl R (Ext.refl M) rfl⟩
        | cons _ _ => cases e
    | _ => cases e
  | _ => cases p <;> first | cases e | (rename_i l; cases l with | nil => cases e | cons _ r => cases r <;> cases e)
theorem opIn_bool : ∀ p q z, opIn p q = some z → ∃ k, z = .bl k := fun p q z e => by
  unfold opIn at e
  split at e <;> first | (split at e <;> first | (cases e; exact ⟨_, rfl⟩) | cases e) | (cases e; exact ⟨_, rfl⟩) | cases e
theorem opD_notIn (hu : X.A.units + 65 < cLine) : OpD X T (compareOp .NotIn) opNotIn := by
  intro pins s σ H x y v u Q I rx ry h
  obtain ⟨M, p, q, z0, rfl, R, d1, d2, e0, k0⟩ := h
  obtain ⟨z, b, e, ez, k⟩ : ∃ z b, opIn p q = some z ∧ z = .bl b ∧ ∀ v, v = V.bl (!b) → Q v M.H := by
    unfold opNotIn at e0
    split at e0
    · rename_i b eb
      cases e0
      exact ⟨_, b, eb, rfl, fun v hv => k0 M v rfl R (Ext.refl M) hv⟩
    · cases e0
  have fl : ∀ ys : List D, q = .lst ys → wpAny (model X.prog X.w) X.A (compareOp .NotIn v u) (EP X pins σ Q) X.xe s := fun ys eq => by
    subst eq
    have e : (if (okD p && okD (.lst ys)) = true then some (D.bl (ys.any fun y => eqD y p)) else none) = some z := by cases p <;> exact e
    split at e
    · rename_i hc
      rw [Bool.and_eq_true] at hc
      cases e
      cases ez
      exact op_notInD hu pins s σ _ x y v u Q I rx ry ⟨toPy p, toPys ys, dv_dp hc.1 d1, dv_dp hc.2 d2, shaped_of hc.1, shaped_of hc.2, by rw [any_eqv (okD_dOk hc.1) (okD_dOk hc.2)]; exact k _ rfl⟩
    · cases e
  have ft : ∀ ys : List D, q = .tup ys → wpAny (model X.prog X.w) X.A (compareOp .NotIn v u) (EP X pins σ Q) X.xe s := fun ys eq => by
    subst eq
    have e : (if (okD p && okD (.tup ys)) = true then some (D.bl (ys.any fun y => eqD y p)) else none) = some z := by cases p <;> exact e
    split at e
    · rename_i hc
      rw [Bool.and_eq_true] at hc
      cases e
      cases ez
      obtain ⟨as, r1⟩ := Dp.reads I (toPy p) x v (dv_dp hc.1 d1) rx
      obtain ⟨bs, r2⟩ := Dp.reads I (.tuple (toPys ys)) y u (dv_dp hc.2 d2) ry
      refine SeqAt.notIn_tuple_reads r2 r1 (SeqAt.canLay_of_shaped (shaped_of hc.2)) (SeqAt.canLay_of_shaped (shaped_of hc.1)) (room_in_shaped (shaped_of hc.1) hu) ⟨.bl _, M.H, I, rfl, ?_⟩
      rw [any_eqv (okD_dOk hc.1) (okD_dOk hc.2)]
      exact k _ rfl
    · cases e
  have fd : ∀ ks vs : List D, q = .dct ks vs → wpAny (model X.prog X.w) X.A (compareOp .NotIn v u) (EP X pins σ Q) X.xe s := fun ks vs eq => by
    subst eq
    have e : (if isKey p = true then some (D.bl (findD p ks vs).isSome) else none) = some z := by cases p <;> first | exact e | (rename_i l; cases l with | nil => exact e | cons _ r => cases r <;> exact e)
    split at e
    · rename_i hk
      cases e
      cases ez
      obtain ⟨kk, hkk⟩ := keyD_ok hk
      obtain ⟨a, kvs, rfl, hd, hks, rv⟩ := d2.dct
      obtain rfl : u = Value.ref a := ry
      have hx := keyD_dv hkk d1
      subst hx
      refine d_notIn (o := valV kvs kk) (by omega) I (DGet.k hd) rx fun s' I' => ⟨.bl _, M.H, I', rfl, ?_⟩
      rcases findD_ok hkk hks rv with ⟨h1, h2⟩ | ⟨d, w, h1, h2, _⟩
      · rw [h2]; rw [h1] at k; exact k _ rfl
      · rw [h2]; rw [h1] at k; exact k _ rfl
    · cases e
  cases q with
  | lst ys => exact fl ys rfl
  | tup ys => exact ft ys rfl
  | dct ks vs => exact fd ks vs rfl
  | str t =>
    cases p with
    | str a =>
      cases a with
      | nil => cases e
      | cons c r =>
        cases r with
        | nil =>
          cases e
          cases ez
          exact op_notIn_sign pins s σ _ x y v u Q I rx ry ⟨c, _, d1.str, d2.str, by
            show Q (.bl (!decide (c ∈ t))) M.H
            exact k _ rfl⟩
        | cons _ _ => cases e
    | _ => cases e
  | _ => cases p <;> first | cases e | (rename_i l; cases l with | nil => cases e | cons _ r => cases r <;> cases e)
theorem opNotIn_bool : ∀ p q z, opNotIn p q = some z → ∃ k, z = .bl k := fun p q z e => by
  unfold opNotIn at e
  split at e
  · cases e; exact ⟨_, rfl⟩
  · cases e
theorem opEq_bool : ∀ p q z, opEq p q = some z → ∃ k, z = .bl k := fun p q z e => by
  unfold opEq at e
  split at e
  · cases e; exact ⟨_, rfl⟩
  · cases e; exact ⟨_, rfl⟩
  · cases e; exact ⟨_, rfl⟩
  · split at e
    · cases e; exact ⟨_, rfl⟩
    · cases e
theorem opNe_bool : ∀ p q z, opNe p q = some z → ∃ k, z = .bl k := fun p q z e => by
  unfold opNe at e
  split at e
  · cases e; exact ⟨_, rfl⟩
  · cases e; exact ⟨_, rfl⟩
  · cases e; exact ⟨_, rfl⟩
  · split at e
    · cases e; exact ⟨_, rfl⟩
    · cases e
theorem opLt_bool : ∀ p q z, opLt p q = some z → ∃ k, z = .bl k := fun p q z e => by
  unfold opLt at e
  split at e
  · cases e; exact ⟨_, rfl⟩
  · cases e; exact ⟨_, rfl⟩
  · split at e
    · cases e; exact ⟨_, rfl⟩
    · cases e
  · cases e
theorem opLe_bool : ∀ p q z, opLe p q = some z → ∃ k, z = .bl k := fun p q z e => by
  unfold opLe at e
  split at e
  · cases e; exact ⟨_, rfl⟩
  · cases e
theorem opGt_bool : ∀ p q z, opGt p q = some z → ∃ k, z = .bl k := fun p q z e => by
  unfold opGt at e
  split at e
  · cases e; exact ⟨_, rfl⟩
  · cases e
theorem opGe_bool : ∀ p q z, opGe p q = some z → ∃ k, z = .bl k := fun p q z e => by
  unfold opGe at e
  split at e
  · cases e; exact ⟨_, rfl⟩
  · cases e

/-! ### is None -/
theorem isN_ok {w : W} {v : V} (r : RW K T M w v) : decide (v = .non) = isN w := by
  cases w with
  | ref n => obtain ⟨_, rfl⟩ := r; rfl
  | d p =>
    cases p with
    | non => rw [show v = .non from r]; rfl
    | bl b => rw [show v = .bl b from r]; rfl
    | int i => rw [show v = .int i from r]; rfl
    | str s => rw [show v = .str _ from r]; rfl
    | tup xs => obtain ⟨a, vs, rfl, _⟩ := r; rfl
    | lst xs => obtain ⟨a, vs, rfl, _⟩ := r; rfl
    | scr xs => obtain ⟨a, vs, rfl, _⟩ := r; rfl
    | dct ks xs => obtain ⟨a, vs, rfl, _⟩ := r; rfl
    | set xs => obtain ⟨a, ss, rfl, _⟩ := r; rfl
    | obj c ns fs => obtain ⟨a, dx, gs, rfl, _⟩ := r; rfl
    | exn c ns fs => obtain ⟨a, gs, rfl, _⟩ := r; rfl
    | dcn ks xs => obtain ⟨a, kvs, rfl, _⟩ := r; rfl
    | fn i => rw [show v = .ref _ from r]; rfl
theorem je_isN {a : Expr} {f : SE} {j : Nat} {pos pos' : Pos} (ha : JE X T a f) : JE X T (.Compare a [.Is] [.Constant .none j pos'] pos) (eIsN f) := PE.weak (pe_cmp (pc_isN ha)) fun σ H Q h => by
  obtain ⟨M, B, L, ρ, p, h⟩ := h
  refine ⟨M, B, L, ρ, p, (post.bind h).mono fun w L1 M1 eA R x q v rv => ?_⟩
  dsimp only
  rw [isN_ok rv]
  exact q.here eA R _ rfl
theorem je_notN {a : Expr} {f : SE} {j : Nat} {pos pos' : Pos} (ha : JE X T a f) : JE X T (.Compare a [.IsNot] [.Constant .none j pos'] pos) (eNotN f) := PE.weak (pe_cmp (pc_notN ha)) fun σ H Q h => by
  obtain ⟨M, B, L, ρ, p, h⟩ := h
  refine ⟨M, B, L, ρ, p, (post.bind h).mono fun w L1 M1 eA R x q v rv => ?_⟩
  dsimp only
  rw [isN_ok rv]
  exact q.here eA R _ rfl
theorem jt_isN {a : Expr} {f : SE} {j : Nat} {pos pos' : Pos} (ha : JE X T a f) : JT X T (.Compare a [.Is] [.Constant .none j pos'] pos) (tE (eIsN f)) := PT.weak (pt_cmp (pc_isN ha)) fun σ H Q h => by
  obtain ⟨M, B, L, ρ, p, h⟩ := h
  refine ⟨M, B, L, ρ, p, (post.bind (post.bind h)).mono fun w L1 M1 eA R x q v rv => ?_⟩
  dsimp only
  rw [isN_ok rv]
  exact ⟨_, rfl, (q.here eA R : post X.K T M1 _ _ _).here eA R⟩
theorem jt_notN {a : Expr} {f : SE} {j : Nat} {pos pos' : Pos} (ha : JE X T a f) : JT X T (.Compare a [.IsNot] [.Constant .none j pos'] pos) (tE (eNotN f)) := PT.weak (pt_cmp (pc_notN ha)) fun σ H Q h => by
  obtain ⟨M, B, L, ρ, p, h⟩ := h
  refine ⟨M, B, L, ρ, p, (post.bind (post.bind h)).mono fun w L1 M1 eA R x q v rv => ?_⟩
  dsimp only
  rw [isN_ok rv]
  exact ⟨_, rfl, (q.here eA R : post X.K T M1 _ _ _).here eA R⟩

/-! ### calls of builtins by data -/
def rN (K : PySem.W.Frag) (T : Tb) (g : List D → Option D) : List V → Hp → VK → Prop := fun xs H Q => ∃ M ps z, M.H = H ∧ Rep K T M ∧ DVs K T M ps xs ∧ g ps = some z ∧ ∀ M' v, M'.A = M.A → Rep K T M' → Ext M M' → RV K T M' z v → Q v M'.H
abbrev CallD (X : Cx) (T : Tb) (f : Value) (g : List D → Option D) : Prop := CallR X f (rN X.K T g)
theorem post.views {B L : Hs} {β : Type} {Q : β → Hs → Mem → Prop} : ∀ {ws : List W} {vs : List V} {k : List D → Hs → Res β}, post K T M B ((vwsR B L ws).bind k) Q → Rep K T M → M.A = B ++ L → RWs K T M ws vs → ∃ ps, DVs K T M ps vs ∧ post K T M B (k ps L) Q
  | [], vs, k, h, R, eA, r => ⟨[], r, h⟩
  | w :: ws, vs, k, h, R, eA, r => by
    obtain ⟨v, rr, rfl, r1, r2⟩ := r
    have h : post K T M B (((vwR B L w).bind fun p L => (vwsR B L ws).bind fun ps L => .ok (p :: ps) L).bind k) Q := h
    cases e : vw B L w with
    | none =>
      unfold vwR at h
      rw [e] at h
      exact h.elim
    | some p =>
      unfold vwR at h
      rw [e] at h
      have h : post K T M B ((vwsR B L ws).bind fun ps L => k (p :: ps) L) Q := by
        have h : post K T M B (((vwsR B L ws).bind fun ps L => .ok (p :: ps) L).bind k) Q := h
        cases e2 : vwsR B L ws with
        | ok ps L2 => rw [e2] at h; exact h
        | exc _ _ _ => rw [e2] at h; exact h.elim
        | bad => rw [e2] at h; exact h.elim
      obtain ⟨ps, d, q⟩ := post.views h R eA r2
      exact ⟨p :: ps, ⟨v, rr, rfl, vw_dv R eA e r1, d⟩, q⟩
theorem rd_B {f : SA} {g : List D → Option D} {σ : L2.St} {H : Hp} {Q : VK} (h : rE K T (eB g f) σ H Q) : tCB (rN K T g) (rA K T f) σ H Q := by
  obtain ⟨M, B, L, ρ, p, h⟩ := h
  refine ⟨M, B, L, ρ, p, (post.bind h).mono fun ws L1 M1 eA R x q vs rvs => ?_⟩
  obtain ⟨ps, d, q1⟩ := q.views R eA rvs
  obtain ⟨z, ez, q2⟩ := q1.opt
  exact ⟨M1, ps, z, rfl, R, d, ez, fun M' v a' R' x' rv => q2 M' (a'.trans eA) R' x' v rv⟩
theorem je_B {id : String} {x : Str} {e : Expr} {es : List Expr} {f : SA} {g : List D → Option D} {p pos : Pos} (hc : CallD X T (.builtin id) g) (hm : X.mg x = none) (ha : JA X T (e :: es) f) (hg : Gl X x := by rfl) (hv : bootBuiltins x = some (.builtin id) := by decide +kernel)
    (hn : x ≠ "__name__" := by decide) (hdb : (x == ("__debug__" : Str)) = false := by decide) (he : starEach (e :: es) X.env = (false, eval e X.env) :: starEach es X.env := by rfl) (hpl : (backTo pos (starEach es X.env)).any (·.1) = false := by rfl) :
    JE X T (.Call (.Name x p) (e :: es) [] pos) (eB g f) := PE.weak (pe_callB hc hg hm hv ha hn hdb he hpl) fun σ H Q h => rd_B h
theorem je_BT {n : String} {x : Str} {e : Expr} {es : List Expr} {f : SA} {g : List D → Option D} {p pos : Pos} (hc : CallD X T (.type n) g) (hm : X.mg x = none) (ha : JA X T (e :: es) f) (hg : Gl X x := by rfl) (hv : bootBuiltins x = some (.type n) := by decide +kernel)
    (hn : x ≠ "__name__" := by decide) (hdb : (x == ("__debug__" : Str)) = false := by decide) (he : starEach (e :: es) X.env = (false, eval e X.env) :: starEach es X.env := by rfl) (hpl : (backTo pos (starEach es X.env)).any (·.1) = false := by rfl) :
    JE X T (.Call (.Name x p) (e :: es) [] pos) (eB g f) := PE.weak (pe_callTy hc hg hm hv ha hn hdb he hpl) fun σ H Q h => rd_B h
theorem DVs.one {p : D} {xs : List V} (h : DVs K T M [p] xs) : ∃ x, xs = [x] ∧ DV K T M p x := by
  obtain ⟨v, r, rfl, h1, h2⟩ := h
  rw [show r = [] from h2]
  exact ⟨v, rfl, h1⟩
theorem DVs.two {p q : D} {xs : List V} (h : DVs K T M [p, q] xs) : ∃ x y, xs = [x, y] ∧ DV K T M p x ∧ DV K T M q y := by
  obtain ⟨v, r, rfl, h1, h2⟩ := h
  obtain ⟨y, rfl, h3⟩ := DVs.one h2
  exact ⟨v, y, rfl, h1, h3⟩
theorem g1_shape {g : List D → Option D} {ps : List D} {z : D} (e : g ps = some z) (h0 : g [] = none) (h2 : ∀ a b r, g (a :: b :: r) = none) : ∃ p, ps = [p] := by
  cases ps with
  | nil => rw [h0] at e; cases e
  | cons a r =>
    cases r with
    | nil => exact ⟨a, rfl⟩
    | cons b r => rw [h2] at e; cases e
theorem call_D1 {f : Value} {g : List D → Option D} (h0 : g [] = none) (h2 : ∀ a b r, g (a :: b :: r) = none)
    (h : ∀ (pins : List (Addr × Obj)) (s : Shared) (σ : L2.St) (M : Mem) (p z : D) (x : V) (u : Value) (Q : VK), Inv X pins σ M.H s → RelV x u → Rep X.K T M → DV X.K T M p x → g [p] = some z → (∀ M' v, M'.A = M.A → Rep X.K T M' → Ext M M' → RV X.K T M' z v → Q v M'.H) → wpAny (model X.prog X.w) X.A (call f [u]) (EP X pins σ Q) X.xe s) : CallD X T f g := by
  intro pins s σ H xs us Q I r hq
  obtain ⟨M, ps, z, rfl, R, d, e, k⟩ := hq
  obtain ⟨p, rfl⟩ := g1_shape e h0 h2
  obtain ⟨x, rfl, d1⟩ := d.one
  obtain ⟨u, rfl, rx⟩ := vals1 r
  exact h pins s σ M p z x u Q I rx R d1 e k
theorem cd_abs : CallD X T (.builtin "abs") bAbs := call_D1 rfl (fun _ _ _ => by simp [bAbs]) fun pins s σ M p z x u Q I rx R d e k => by
  cases p with
  | int i => cases e; exact call_abs pins s σ _ [x] [u] Q I (.cons rx .nil) ⟨i, by rw [d.int], k M _ rfl R (Ext.refl M) rfl⟩
  | _ => cases e
theorem cd_int : CallD X T (.type "int") bInt := call_D1 rfl (fun _ _ _ => by simp [bInt]) fun pins s σ M p z x u Q I rx R d e k => by
  cases p with
  | int i => cases e; exact call_int1 pins s σ _ [x] [u] Q I (.cons rx .nil) (.inl ⟨i, by rw [d.int], k M _ rfl R (Ext.refl M) rfl⟩)
  | bl b => cases e; exact call_int1 pins s σ _ [x] [u] Q I (.cons rx .nil) (.inr ⟨b, by rw [d.bl], k M _ rfl R (Ext.refl M) rfl⟩)
  | _ => cases e
theorem cd_len : CallD X T (.builtin "len") bLen := call_D1 rfl (fun _ _ _ => by simp [bLen]) fun pins s σ M p z x u Q I rx R d e k => by
  cases p with
  | str t =>
    have e : (if t.length ≤ sizeL then some (D.int t.length) else none) = some z := e
    split at e
    · rename_i hl
      cases e
      refine call_len_str pins s σ _ [x] [u] Q I (.cons rx .nil) ⟨⟨t.toArray⟩, by rw [d.str], by rw [str_len, ← sizeL_eq]; exact hl, ?_⟩
      rw [str_len]
      exact k M _ rfl R (Ext.refl M) rfl
    · cases e
  | tup xs =>
    cases e
    obtain ⟨a, vs, rfl, s1, r1⟩ := d.tup
    exact call_len_seq pins s σ _ _ [u] Q I (.cons rx .nil) ⟨a, vs, rfl, .inr s1, by rw [← r1.length]; exact k M _ rfl R (Ext.refl M) rfl⟩
  | lst xs =>
    cases e
    obtain ⟨a, vs, rfl, s1, r1⟩ := d.lst
    exact call_len_seq pins s σ _ _ [u] Q I (.cons rx .nil) ⟨a, vs, rfl, .inl (SqL.of s1), by rw [← r1.length]; exact k M _ rfl R (Ext.refl M) rfl⟩
  | scr xs =>
    cases e
    obtain ⟨a, vs, rfl, s1, r1⟩ := d.scr
    exact call_len_seq pins s σ _ _ [u] Q I (.cons rx .nil) ⟨a, vs, rfl, .inl s1, by rw [← r1.length]; exact k M _ rfl R (Ext.refl M) rfl⟩
  | dct ks vs =>
    cases e
    obtain ⟨a, kvs, rfl, hd, hks, rv⟩ := d.dct
    obtain rfl : u = Value.ref a := rx
    refine d_len I (.inl hd) fun t s' I' => ⟨.int kvs.length, M.H, I', ⟨t, rfl⟩, ?_⟩
    have : ks.length = kvs.length := by simpa using congrArg List.length hks
    rw [← this]
    exact k M _ rfl R (Ext.refl M) rfl
  | _ => cases e
theorem cd_list : CallD X T (.type "list") bList := call_D1 rfl (fun _ _ _ => by simp [bList]) fun pins s σ M p z x u Q I rx R d e k => by
  cases p with
  | tup xs =>
    cases e
    obtain ⟨a, vs, rfl, s1, r1⟩ := d.tup
    exact call_list_of pins s σ _ _ [u] Q I (.cons rx .nil) ⟨a, vs, rfl, .inr s1, new_lst R r1 k⟩
  | lst xs =>
    cases e
    obtain ⟨a, vs, rfl, s1, r1⟩ := d.lst
    exact call_list_of pins s σ _ _ [u] Q I (.cons rx .nil) ⟨a, vs, rfl, .inl (SqL.of s1), new_lst R r1 k⟩
  | scr xs =>
    cases e
    obtain ⟨a, vs, rfl, s1, r1⟩ := d.scr
    exact call_list_of pins s σ _ _ [u] Q I (.cons rx .nil) ⟨a, vs, rfl, .inl s1, new_lst R r1 k⟩
  | _ => cases e
theorem call_tuple_F : CallR X (.type "tuple") (fun xs H Q => ∃ p ys, xs = [.ref p] ∧ SqL X.K H p ys ∧ ∀ (l : Addr) (o : Obj), H l = none → o.dict = none → Q (.ref l) (upd H l (.frz o (.tup ys)))) := by
  intro pins s σ H xs us Q I r h
  obtain ⟨p, ys, rfl, hq, q⟩ := h
  obtain ⟨u, rfl, rx⟩ := vals1 r
  cases rx
  obtain ⟨its, r', pl, hz⟩ := I.list hq
  have hlen := r'.length
  refine call_tuple_list pl.isList (fun h' kp => ?_) (by simp only [List.size_toArray] <;> omega)
  have I1 : Inv X pins σ H { s with heap := h' } := I.kept (t' := s.toks) kp
  have I2 : Inv X pins σ (upd H h'.objs.size (.frz { cls := .type "tuple", data := .seq its.toArray } (.tup ys))) { s with heap := h'.push { cls := .type "tuple", data := .seq its.toArray } } :=
    I1.laid (t' := s.toks) (fun b o e => Heap.get?_push_of_some _ e) (Nat.le_refl _) (show ObjOk X.prog X.w _ _ _ (.frz { cls := .type "tuple", data := .seq its.toArray } (.tup ys)) from ⟨Heap.get?_push_size _ rfl, hz, its, r', IsTup.new _ _⟩)
  exact ⟨.ref h'.objs.size, _, I2, rfl, q _ _ (I1.hok.fresh (Nat.le_refl _)) rfl⟩
theorem cd_tuple : CallD X T (.type "tuple") bTuple := call_D1 rfl (fun _ _ _ => by simp [bTuple]) fun pins s σ M p z x u Q I rx R d e k => by
  cases p with
  | tup xs =>
    cases e
    obtain ⟨a, vs, rfl, s1, r1⟩ := d.tupP
    exact call_tuple_of pins s σ _ _ [u] Q I (.cons rx .nil) ⟨a, vs, rfl, .inr ⟨s1.1, k M _ rfl R (Ext.refl M) ⟨a, vs, rfl, s1, r1⟩⟩⟩
  | lst xs =>
    cases e
    obtain ⟨a, vs, rfl, s1, r1⟩ := d.lst
    exact call_tuple_F pins s σ _ _ [u] Q I (.cons rx .nil) ⟨a, vs, rfl, SqL.of s1, new_tupF R r1 k⟩
  | scr xs =>
    cases e
    obtain ⟨a, vs, rfl, s1, r1⟩ := d.scr
    exact call_tuple_F pins s σ _ _ [u] Q I (.cons rx .nil) ⟨a, vs, rfl, s1, new_tupF R r1 k⟩
  | _ => cases e
theorem allB_ok : ∀ {xs : List D} {bs : List Bool} {vs : List V}, allB xs = some bs → RVs K T M xs vs → vs = bs.map V.bl
  | [], bs, vs, e, h => by cases e; exact h
  | x :: xs, bs, vs, e, h => by
    cases x with
    | bl b =>
      obtain ⟨v, r, rfl, h1, h2⟩ := h
      have e : (match allB xs with | some bs => some (b :: bs) | none => none) = some bs := e
      cases q : allB xs with
      | none => rw [q] at e; cases e
      | some cs =>
        rw [q] at e
        cases e
        rw [show v = .bl b from h1, allB_ok q h2]
        rfl
    | _ => cases e
theorem cd_all (hc : X.calm = true) : CallD X T (.builtin "all") bAll := call_D1 rfl (fun _ _ _ => by simp [bAll]) fun pins s σ M p z x u Q I rx R d e k => by
  cases p with
  | lst xs =>
    have e : (match allB xs with | some bs => some (D.bl (bs.all id)) | none => none) = some z := e
    cases q : allB xs with
    | none => rw [q] at e; cases e
    | some bs =>
      rw [q] at e
      cases e
      obtain ⟨a, vs, rfl, s1, r1⟩ := d.lst
      exact cr_all hc pins s σ _ _ [u] Q I (.cons rx .nil) ⟨a, bs, rfl, SqL.of (by rw [← allB_ok q r1]; exact s1), k M _ rfl R (Ext.refl M) rfl⟩
  | _ => cases e
theorem cd_any (hc : X.calm = true) : CallD X T (.builtin "any") bAny := call_D1 rfl (fun _ _ _ => by simp [bAny]) fun pins s σ M p z x u Q I rx R d e k => by
  cases p with
  | lst xs =>
    have e : (match allB xs with | some bs => some (D.bl (bs.any id)) | none => none) = some z := e
    cases q : allB xs with
    | none => rw [q] at e; cases e
    | some bs =>
      rw [q] at e
      cases e
      obtain ⟨a, vs, rfl, s1, r1⟩ := d.lst
      exact cr_any hc pins s σ _ _ [u] Q I (.cons rx .nil) ⟨a, bs, rfl, SqL.of (by rw [← allB_ok q r1]; exact s1), k M _ rfl R (Ext.refl M) rfl⟩
  | _ => cases e
theorem allI_ok : ∀ {xs : List D} {is : List Int} {vs : List V}, allI xs = some is → RVs K T M xs vs → vs = is.map V.int
  | [], is, vs, e, r => by cases e; exact r
  | x :: xs, is, vs, e, r => by
    obtain ⟨v, rr, rfl, r1, r2⟩ := r
    cases x with
    | int i =>
      unfold allI at e
      cases q : allI xs with
      | none => rw [q] at e; cases e
      | some js =>
        rw [q] at e
        cases e
        rw [allI_ok q r2]
        have : v = .int i := r1
        rw [this]
        rfl
    | _ => cases e
theorem foldMax : ∀ (l : List Int) (a : Int), (l.foldl (fun a b => if b > a then b else a) a = a ∨ l.foldl (fun a b => if b > a then b else a) a ∈ l) ∧ a ≤ l.foldl (fun a b => if b > a then b else a) a ∧ ∀ y ∈ l, y ≤ l.foldl (fun a b => if b > a then b else a) a
  | [], a => ⟨.inl rfl, Int.le_refl _, fun y h => by cases h⟩
  | b :: l, a => by
    rw [List.foldl_cons]
    by_cases h : b > a
    · rw [if_pos h]
      obtain ⟨h1, h2, h3⟩ := foldMax l b
      refine ⟨.inr ?_, by omega, fun y hy => ?_⟩
      · rcases h1 with h1 | h1
        · rw [h1]; exact List.mem_cons_self
        · exact List.mem_cons_of_mem _ h1
      · rcases List.mem_cons.mp hy with rfl | hy
        · exact h2
        · exact h3 y hy
    · rw [if_neg h]
      obtain ⟨h1, h2, h3⟩ := foldMax l a
      refine ⟨h1.elim .inl fun z => .inr (List.mem_cons_of_mem _ z), h2, fun y hy => ?_⟩
      rcases List.mem_cons.mp hy with rfl | hy
      · omega
      · exact h3 y hy
theorem foldMin : ∀ (l : List Int) (a : Int), (l.foldl (fun a b => if b < a then b else a) a = a ∨ l.foldl (fun a b => if b < a then b else a) a ∈ l) ∧ l.foldl (fun a b => if b < a then b else a) a ≤ a ∧ ∀ y ∈ l, l.foldl (fun a b => if b < a then b else a) a ≤ y
  | [], a => ⟨.inl rfl, Int.le_refl _, fun y h => by cases h⟩
  | b :: l, a => by
    rw [List.foldl_cons]
    by_cases h : b < a
    · rw [if_pos h]
      obtain ⟨h1, h2, h3⟩ := foldMin l b
      refine ⟨.inr ?_, by omega, fun y hy => ?_⟩
      · rcases h1 with h1 | h1
        · rw [h1]; exact List.mem_cons_self
        · exact List.mem_cons_of_mem _ h1
      · rcases List.mem_cons.mp hy with rfl | hy
        · exact h2
        · exact h3 y hy
    · rw [if_neg h]
      obtain ⟨h1, h2, h3⟩ := foldMin l a
      refine ⟨h1.elim .inl fun z => .inr (List.mem_cons_of_mem _ z), h2, fun y hy => ?_⟩
      rcases List.mem_cons.mp hy with rfl | hy
      · omega
      · exact h3 y hy
theorem DVs.lst1 {xs : List D} {vs : List V} {is : List Int} (h : DVs K T M [.lst xs] vs) (e : allI xs = some is) : ∃ a, vs = [.ref a] ∧ SqL K M.H a (is.map V.int) := by
  obtain ⟨x, rfl, d⟩ := h.one
  obtain ⟨a, us, rfl, s1, r1⟩ := d.lst
  exact ⟨a, rfl, by rw [← allI_ok e r1]; exact SqL.of s1⟩
theorem cd_max (hc : X.calm = true) : CallD X T (.builtin "max") bMax := by
  intro pins s σ H xs us Q I r hq
  obtain ⟨M, ps, z, rfl, R, d, e, k⟩ := hq
  unfold bMax at e
  split at e
  · rename_i i j
    cases e
    obtain ⟨x, y, rfl, d1, d2⟩ := d.two
    exact call_max2 hc pins s σ _ _ us Q I r ⟨i, j, by rw [d1.int, d2.int], k M _ rfl R (Ext.refl M) rfl⟩
  · rename_i xs
    split at e
    · rename_i is ei
      obtain ⟨a, rfl, sq⟩ := d.lst1 ei
      cases is with
      | nil => cases e
      | cons i is =>
        cases e
        obtain ⟨h1, h2, h3⟩ := foldMax is i
        refine cr_max hc pins s σ _ _ us Q I r ⟨a, i :: is, rfl, sq, Nat.succ_pos _, fun m hm hy => ?_⟩
        have : m = is.foldl (fun a b => if b > a then b else a) i := by
          have a1 := hy (is.foldl (fun a b => if b > a then b else a) i) (h1.elim (fun z => by rw [z]; exact List.mem_cons_self) (List.mem_cons_of_mem _))
          have a2 : m ≤ is.foldl (fun a b => if b > a then b else a) i := by
            rcases List.mem_cons.mp hm with rfl | hm
            · exact h2
            · exact h3 m hm
          omega
        rw [this]
        exact k M _ rfl R (Ext.refl M) rfl
    · cases e
  · cases e
theorem cd_min (hc : X.calm = true) : CallD X T (.builtin "min") bMin := by
  intro pins s σ H xs us Q I r hq
  obtain ⟨M, ps, z, rfl, R, d, e, k⟩ := hq
  unfold bMin at e
  split at e
  · rename_i i j
    cases e
    obtain ⟨x, y, rfl, d1, d2⟩ := d.two
    exact call_min2 hc pins s σ _ _ us Q I r ⟨i, j, by rw [d1.int, d2.int], k M _ rfl R (Ext.refl M) rfl⟩
  · rename_i xs
    split at e
    · rename_i is ei
      obtain ⟨a, rfl, sq⟩ := d.lst1 ei
      cases is with
      | nil => cases e
      | cons i is =>
        cases e
        obtain ⟨h1, h2, h3⟩ := foldMin is i
        refine cr_min hc pins s σ _ _ us Q I r ⟨a, i :: is, rfl, sq, Nat.succ_pos _, fun m hm hy => ?_⟩
        have : m = is.foldl (fun a b => if b < a then b else a) i := by
          have a1 := hy (is.foldl (fun a b => if b < a then b else a) i) (h1.elim (fun z => by rw [z]; exact List.mem_cons_self) (List.mem_cons_of_mem _))
          have a2 : is.foldl (fun a b => if b < a then b else a) i ≤ m := by
            rcases List.mem_cons.mp hm with rfl | hm
            · exact h2
            · exact h3 m hm
          omega
        rw [this]
        exact k M _ rfl R (Ext.refl M) rfl
    · cases e
  · cases e

/-! ### isinstance with a built-in class -/
def tyName : Ty → String
  | .int => "int"
  | .str => "str"
  | .bool => "bool"
  | .tuple => "tuple"
  | .list => "list"
  | .dict => "dict"
theorem ty_dv {p : D} {x : V} {b : Bool} {t : Ty} (h : isTy t p = some b) (d : DV K T M p x) : ∃ n : String, TyX K M.H x (.type n) ∧ kitB n (tyName t) = some b := by
  cases p with
  | non => cases h; exact ⟨"NoneType", .base (by rw [d.non]; exact .non), by cases t <;> decide +kernel⟩
  | bl c => cases h; exact ⟨"bool", .base (by rw [d.bl]; exact .bl c), by cases t <;> decide +kernel⟩
  | int i => cases h; exact ⟨"int", .base (by rw [d.int]; exact .int i), by cases t <;> decide +kernel⟩
  | str s => cases h; exact ⟨"str", .base (by rw [d.str]; exact .str _), by cases t <;> decide +kernel⟩
  | tup xs =>
    cases h
    obtain ⟨a, vs, rfl, s1, r1⟩ := d.tup
    refine ⟨"tuple", ?_, by cases t <;> decide +kernel⟩
    rcases s1 with (s1 | ⟨o, s1⟩) | ⟨o, its, n, h1, h2, _⟩
    · exact .base (.tup s1)
    · exact .fTuple s1
    · exact .kTuple h1 h2
  | lst xs =>
    cases h
    obtain ⟨a, vs, rfl, s1, r1⟩ := d.lst
    exact ⟨"list", .base (.lst s1), by cases t <;> decide +kernel⟩
  | dct ks xs =>
    cases h
    obtain ⟨a, kvs, rfl, hd, _⟩ := d.dct
    exact ⟨"dict", .base (.dK hd), by cases t <;> decide +kernel⟩
  | _ => cases h
/-- isinstance(e, T) -/
theorem je_isi {t : Ty} {e : Expr} {f : SE} {n : Str} {p q pos : Pos} (ha : JE X T e f) (hm : X.mg "isinstance" = none) (hmt : X.mg n = none) (hv : bootBuiltins n = some (.type (tyName t)) := by decide +kernel) (hg : Gl X "isinstance" := by rfl) (hgt : Gl X n := by rfl)
    (hn : n ≠ "__name__" := by decide) (hdt : (n == ("__debug__" : Str)) = false := by decide) (he1 : starEach [e, .Name n q] X.env = (false, eval e X.env) :: starEach [.Name n q] X.env := by rfl) (he2 : starEach [.Name n q] X.env = (false, eval (.Name n q) X.env) :: starEach [] X.env := by rfl)
    (hpl : (backTo pos (starEach [.Name n q] X.env)).any (·.1) = false := by rfl) : JE X T (.Call (.Name "isinstance" p) [e, .Name n q] [] pos) (e1 (bIsi t) f) :=
  PE.weak (pe_callB (id := "isinstance") call_isi hg hm (by decide +kernel) (pa_cons ha (pa_cons (pe_bltn (v := .ty (tyName t)) hgt hmt hv rfl hn hdt) pa_nil he2) he1) (by decide) (by decide) he1 hpl) fun σ H Q h => by
    obtain ⟨M, B, L, ρ, p, h⟩ := h
    refine ⟨M, B, L, ρ, p, (post.bind h).mono fun w L1 M1 eA R x q v rv => ?_⟩
    obtain ⟨pd, ev, dv, q1⟩ := q.view R eA rv
    obtain ⟨z, ez, q2⟩ := q1.opt
    unfold bIsi at ez
    cases et : isTy t pd with
    | none => rw [et] at ez; cases ez
    | some b =>
      rw [et] at ez
      cases ez
      obtain ⟨nn, ty, kb⟩ := ty_dv et dv
      exact ⟨v, .ty (tyName t), .type nn, .type (tyName t), b, rfl, .ty _, ty, kit_ty kb, q2.here eA R _ rfl⟩

/-! ### indexes, slices -/
theorem ixN_same (n : Nat) (i : Int) : Ev.ixN n i = L2.ixN n i := rfl
theorem atI_rv {xs : List D} {vs : List V} {i : Int} {d : D} (r : RVs K T M xs vs) (h : Ev.atI xs i = some d) : ∃ v, L2.atI vs i = some v ∧ RV K T M d v := by
  unfold Ev.atI at h
  unfold L2.atI
  rw [ixN_same, r.length] at h
  cases e : L2.ixN vs.length i with
  | none => rw [e] at h; cases h
  | some j =>
    rw [e] at h
    obtain ⟨v, e1, r1⟩ := r.get (show xs[j]? = some d from h)
    exact ⟨v, e1, r1⟩
theorem ixD_all (hu : X.A.units + 1 < cLine) : IxR X (rD X.K T opIx) := by
  intro value slice pins s σ H x y v u Q I rx ry h hs
  obtain ⟨M, p, q, z, rfl, R, d1, d2, e, k⟩ := h
  cases p with
  | lst xs =>
    cases q with
    | int i =>
      obtain ⟨a, vs, rfl, s1, r1⟩ := d1.lst
      obtain ⟨w, e1, r2⟩ := atI_rv r1 (show Ev.atI xs i = some z from e)
      exact ix_list value slice pins s σ _ _ y v u Q I rx ry ⟨a, vs, i, w, rfl, d2.int, SqL.of s1, e1, k M _ rfl R (Ext.refl M) r2⟩ hs
    | _ => cases e
  | scr xs =>
    cases q with
    | int i =>
      obtain ⟨a, vs, rfl, s1, r1⟩ := d1.scr
      obtain ⟨w, e1, r2⟩ := atI_rv r1 (show Ev.atI xs i = some z from e)
      exact ix_list value slice pins s σ _ _ y v u Q I rx ry ⟨a, vs, i, w, rfl, d2.int, s1, e1, k M _ rfl R (Ext.refl M) r2⟩ hs
    | _ => cases e
  | tup xs =>
    cases q with
    | int i =>
      obtain ⟨a, vs, rfl, s1, r1⟩ := d1.tup
      obtain ⟨w, e1, r2⟩ := atI_rv r1 (show Ev.atI xs i = some z from e)
      exact ix_tup value slice pins s σ _ _ y v u Q I rx ry ⟨a, vs, i, w, rfl, d2.int, s1, e1, k M _ rfl R (Ext.refl M) r2⟩ hs
    | _ => cases e
  | str t =>
    cases q with
    | int i =>
      have e : (if t.length ≤ sizeL then (Ev.atI t i).map fun c => D.str [c] else none) = some z := e
      split at e
      · rename_i hl
        cases ea : Ev.atI t i with
        | none => rw [ea] at e; cases e
        | some c =>
          rw [ea] at e
          cases e
          exact ix_str value slice pins s σ _ x y v u Q I rx ry ⟨⟨t.toArray⟩, i, c, d1.str, d2.int, by rw [str_len, ← sizeL_eq]; exact hl, ea, k M _ rfl R (Ext.refl M) rfl⟩ hs
      · cases e
    | _ => cases e
  | dct ks vs =>
    have e : (if isKey q = true then findD q ks vs else none) = some z := by cases q <;> exact e
    split at e
    · rename_i hk
      obtain ⟨kk, hkk⟩ := keyD_ok hk
      obtain ⟨a, kvs, rfl, hd, hks, rv⟩ := d1.dct
      obtain rfl : v = Value.ref a := rx
      have hx := keyD_dv hkk d2
      subst hx
      rcases findD_ok hkk hks rv with ⟨h1, _⟩ | ⟨d, w, h1, h2, h3⟩
      · rw [h1] at e; cases e
      · rw [h1] at e
        cases e
        have g : DGet M.H a (kV kk) (some w) := by rw [← h2]; exact DGet.k hd
        exact tail_any (dict_typeIs I g) PySem.F.slot_dict_getitem.lookup (d_getItem hu I g ry fun w' s' I' rw' => ⟨w, M.H, I', rw', k M _ rfl R (Ext.refl M) h3⟩) hs
    · cases e
  | _ => cases q <;> cases e
theorem je_ix {a b : Expr} {fa fb : SE} {pos : Pos} (hu : X.A.units + 1 < cLine) (ha : JE X T a fa) (hb : JE X T b fb) (hs : PlainIx b := by exact fun _ _ => rfl) : JE X T (.Subscript a b pos) (e2 opIx fa fb) :=
  PE.weak (pe_ix (ixD_all hu) ha hb hs) fun σ H Q h => rd_op (ok_rD opIx) h
theorem sIx_same (n d : Nat) (o : Option Int) : Ev.sIx n d o = HT.sIx n d o := by
  cases o with
  | none => rfl
  | some v => rfl
theorem cut_rv {xs : List D} {vs : List V} (r : RVs K T M xs vs) (lo hi : Option Int) : RVs K T M (Ev.cut xs lo hi) (cutV vs lo hi) := by
  unfold Ev.cut cutV
  rw [sIx_same, sIx_same, r.length]
  exact (r.drop _).take _
theorem sl_tupF : SlR X (fun x lo hi H Q => ∃ a xs, x = .ref a ∧ SqT X.K H a xs ∧ ¬ (HT.sIx xs.length 0 lo = 0 ∧ HT.sIx xs.length xs.length hi = xs.length) ∧ ∀ (p : Addr) (o : Obj), H p = none → o.dict = none → Q (.ref p) (upd H p (.frz o (.tup (cutV xs lo hi))))) := by
  intro pins s σ H x v vl vu lo hi sl Q I rx hs pl pu h
  obtain ⟨a, xs, rfl, hx, hw, q⟩ := h
  cases rx
  obtain ⟨its, r, ht, hz⟩ := I.tuple hx
  have hlen : its.toArray.size = xs.length := by rw [List.size_toArray]; exact r.length.symm
  refine ⟨"tuple", _, PyProof.Rows.slot_tuple_getitem.lookup, ht.typeIs, ?_⟩
  refine HT.getItem_tuple_cut ht hs pl pu (by rw [hlen]; exact hw) ?_ (by rw [hlen]; exact hz)
  rw [hlen]
  refine ⟨.ref s.heap.objs.size, _, I.laid (t' := s.toks) (o := .frz _ (.tup (cutV xs lo hi))) (fun b ob q => Heap.get?_push_of_some _ q) (Nat.le_refl _) ⟨Heap.get?_push_size _ rfl, ?_⟩, rfl, q _ _ (I.hok.fresh (Nat.le_refl _)) rfl⟩
  exact ⟨Nat.le_trans (cutV_length xs lo hi) hz, _, (r.drop (HT.sIx xs.length 0 lo)).take (HT.sIx xs.length xs.length hi - HT.sIx xs.length 0 lo), IsTup.new _ _⟩
def rSlD (K : PySem.W.Frag) (T : Tb) : V → Option Int → Option Int → Hp → VK → Prop := fun x lo hi H Q => ∃ M p z, M.H = H ∧ Rep K T M ∧ DV K T M p x ∧ opSl p lo hi = some z ∧ ∀ M' v, M'.A = M.A → Rep K T M' → Ext M M' → RV K T M' z v → Q v M'.H
theorem slD : SlR X (rSlD X.K T) := by
  intro pins s σ H x v vl vu lo hi sl Q I rx hs pl pu h
  obtain ⟨M, p, z, rfl, R, d, e, k⟩ := h
  cases p with
  | lst xs =>
    cases e
    obtain ⟨a, vs, rfl, s1, r1⟩ := d.lst
    exact sl_list pins s σ _ _ v vl vu lo hi sl Q I rx hs pl pu ⟨a, vs, rfl, SqL.of s1, new_lst R (cut_rv r1 lo hi) k⟩
  | scr xs =>
    cases e
    obtain ⟨a, vs, rfl, s1, r1⟩ := d.scr
    exact sl_list pins s σ _ _ v vl vu lo hi sl Q I rx hs pl pu ⟨a, vs, rfl, s1, new_lst R (cut_rv r1 lo hi) k⟩
  | tup xs =>
    cases e
    obtain ⟨a, vs, rfl, s1, r1⟩ := d.tupP
    by_cases hw : HT.sIx vs.length 0 lo = 0 ∧ HT.sIx vs.length vs.length hi = vs.length
    · refine sl_tupA pins s σ _ _ v vl vu lo hi sl Q I rx hs pl pu ⟨a, vs, rfl, s1.1, fun hw => ?_, fun hn => absurd hw hn⟩
      have : Ev.cut xs lo hi = xs := by
        unfold Ev.cut
        rw [sIx_same, sIx_same, r1.length, hw.1, hw.2, List.drop_zero, Nat.sub_zero, ← r1.length, List.take_length]
      rw [this] at k
      exact k M _ rfl R (Ext.refl M) ⟨a, vs, rfl, s1, r1⟩
    · exact sl_tupF pins s σ _ _ v vl vu lo hi sl Q I rx hs pl pu ⟨a, vs, rfl, s1.1, hw, new_tupF R (cut_rv r1 lo hi) k⟩
  | str t =>
    have e : (if t.length ≤ sizeL then some (D.str (cut t lo hi)) else none) = some z := e
    split at e
    · rename_i hl
      cases e
      refine sl_str pins s σ _ _ v vl vu lo hi sl Q I rx hs pl pu ⟨⟨t.toArray⟩, d.str, by rw [str_len, ← sizeL_eq]; exact hl, ?_⟩
      refine k M _ rfl R (Ext.refl M) ?_
      show V.str _ = V.str _
      congr 1
    · cases e
  | _ => cases e
def rO (K : PySem.W.Frag) (T : Tb) (f : SO) : TO := fun σ H Q => ∃ M B L ρ, Pt K T M B L ρ σ H ∧ post K T M B (f B ρ L) fun o _ M' => Q o M'.H
abbrev JO (X : Cx) (T : Tb) (e : Option Expr) (f : SO) : Prop := PO X e (rO X.K T f)
theorem PO.weak {e : Option Expr} {t u : TO} (h : PO X e t) (w : ∀ σ H Q, u σ H Q → t σ H Q) : PO X e u := ⟨fun pins s σ H Q I q => h.run pins s σ H Q I (w σ H Q q)⟩
theorem jo_none : JO X T none oNone := PO.weak po_none fun σ H Q h => by
  obtain ⟨M, B, L, ρ, p, h⟩ := h
  have : Q none M.H := h M p.eA p.rep (Ext.refl M)
  rw [p.eH] at this
  exact this
theorem jo_some {e : Expr} {f : SE} (he : JE X T e f) : JO X T (some e) (oSome f) := PO.weak (po_some he) fun σ H Q h => by
  obtain ⟨M, B, L, ρ, p, h⟩ := h
  refine ⟨M, B, L, ρ, p, (post.bind h).mono fun w L1 M1 eA R x q v rv => ?_⟩
  obtain ⟨pd, ev, dv, q1⟩ := q.view R eA rv
  obtain ⟨i, ei, q2⟩ := q1.opt
  clear q q1
  cases pd with
  | int j => cases ei; exact ⟨i, dv.int, q2.here eA R⟩
  | _ => cases ei
theorem je_sl {e : Expr} {lo hi : Option Expr} {f : SE} {fl fh : SO} {pos p2 : Pos} (he : JE X T e f) (hl : JO X T lo fl) (hh : JO X T hi fh) : JE X T (.Subscript e (.Slice lo hi none p2) pos) (eSl f fl fh) := PE.weak (pe_slice (slD (T := T)) he hl hh) fun σ H Q h => by
  obtain ⟨M, B, L, ρ, p, h⟩ := h
  refine ⟨M, B, L, ρ, p, (post.bind h).mono fun w L1 M1 eA R x q v rv => ?_⟩
  refine ⟨M1, B, L1, ρ, p.next eA R x, (post.bind q).mono fun o1 L2 M2 eA2 R2 x2 q2 => ?_⟩
  refine ⟨M2, B, L2, ρ, (p.next eA R x).next eA2 R2 x2, (post.bind q2).mono fun o2 L3 M3 eA3 R3 x3 q3 => ?_⟩
  obtain ⟨pd, ev, dv, q4⟩ := q3.view R3 eA3 (rv.ext R (x2.trans x3))
  obtain ⟨z, ez, q5⟩ := q4.opt
  exact ⟨M3, pd, z, rfl, R3, dv, ez, fun M' v a' R' x' rv => q5 M' (a'.trans eA3) R' x' v rv⟩
/-! ### chains -/
theorem rd_chain {g g' : D → D → Option D} {fa fb fc : SE} {σ : L2.St} {H : Hp} {Q : VK} (h : rE K T (eChain g g' fa fb fc) σ H Q) : tChain (rD K T g) (rD K T g') (rE K T fa) (rE K T fb) (rE K T fc) σ H Q := by
  obtain ⟨M, B, L, ρ, p, h⟩ := h
  refine ⟨M, B, L, ρ, p, (post.bind h).mono fun w L1 M1 eA R x q v rv => ?_⟩
  refine ⟨M1, B, L1, ρ, p.next eA R x, (post.bind q).mono fun w2 L2 M2 eA2 R2 x2 q2 v2 rv2 => ?_⟩
  obtain ⟨pd, e1, d1, q3⟩ := q2.view R2 eA2 (rv.ext R x2)
  obtain ⟨qd, e2, d2, q4⟩ := q3.view R2 eA2 rv2
  obtain ⟨z, ez, q5⟩ := q4.opt
  obtain ⟨k, ek, q6⟩ := q5.opt
  clear q q2 q3 q4 q5
  cases z with
  | bl b =>
    cases ek
    refine ⟨M2, pd, qd, .bl k, rfl, R2, d1, d2, ez, fun M3 v3 a3 R3 x3 rv3 => ⟨k, rv3, ?_⟩⟩
    have q7 := q6.later x3
    cases k with
    | false =>
      refine iteF ?_
      rw [if_neg Bool.false_ne_true] at q7
      exact q7.here (a3.trans eA2) R3 _ rfl
    | true =>
      refine iteT ?_
      rw [if_pos rfl] at q7
      refine ⟨M3, B, L2, ρ, ((p.next eA R x).next eA2 R2 x2).next (a3.trans eA2) R3 x3, (post.bind q7).mono fun w4 L4 M4 eA4 R4 x4 q8 v4 rv4 => ?_⟩
      obtain ⟨q', e1', d1', q9⟩ := q8.view R4 eA4 (rv2.ext R2 (x3.trans x4))
      obtain ⟨s', e2', d2', q10⟩ := q9.view R4 eA4 rv4
      obtain ⟨z', ez', q11⟩ := q10.opt
      exact ⟨M4, q', s', z', rfl, R4, d1', d2', ez', fun M' u a' R' x' ru => q11 M' (a'.trans eA4) R' x' u ru⟩
  | _ => cases ek
theorem je_chain {op op' : CmpOp} {g g' : D → D → Option D} {a b c : Expr} {fa fb fc : SE} {pos : Pos} (ho : OpD X T (compareOp op) g) (ho' : OpD X T (compareOp op') g') (ha : JE X T a fa) (hb : JE X T b fb) (hc : JE X T c fc) (hm : lastMarks [op, op'] [b, c] = false := by with_unfolding_all rfl) :
    JE X T (.Compare a [op, op'] [b, c] pos) (eChain g g' fa fb fc) := PE.weak (pe_chain ho ho' ha hb hc hm) fun σ H Q h => rd_chain h
theorem bindI {α β : Type} {r : Res α} {k : α → Hs → Res β} {b : β} {L : Hs} (h : r.bind k = .ok b L) : ∃ a L1, r = .ok a L1 ∧ k a L1 = .ok b L := by
  cases r with
  | ok a L1 => exact ⟨a, L1, rfl, h⟩
  | exc _ _ _ => cases h
  | bad => cases h
theorem optI {α : Type} {o : Option α} {a : α} {L L' : Hs} (h : ofOpt o L = .ok a L') : o = some a ∧ L' = L := by
  cases o with
  | none => cases h
  | some x => cases h; exact ⟨rfl, rfl⟩
theorem jt_chain {op op' : CmpOp} {g g' : D → D → Option D} {a b c : Expr} {fa fb fc : SE} {pos : Pos} (ho : OpD X T (compareOp op) g) (ho' : OpD X T (compareOp op') g') (hg : ∀ p q z, g' p q = some z → ∃ k, z = .bl k) (ha : JE X T a fa) (hb : JE X T b fb) (hc : JE X T c fc) (hm : lastMarks [op, op'] [b, c] = false := by with_unfolding_all rfl) :
    JT X T (.Compare a [op, op'] [b, c] pos) (tE (eChain g g' fa fb fc)) := PT.weak (pt_chain ho ho' ha hb hc hm) fun σ H Q h => rd_test (fun σ H Q h => rd_chain h) h fun B ρ L w L' hh => by
  obtain ⟨x, L1, h1, hh⟩ := bindI hh
  obtain ⟨y, L2, h2, hh⟩ := bindI hh
  obtain ⟨p, L3, h3, hh⟩ := bindI hh
  obtain ⟨q, L4, h4, hh⟩ := bindI hh
  obtain ⟨r, L5, h5, hh⟩ := bindI hh
  obtain ⟨k, L6, h6, hh⟩ := bindI hh
  cases k with
  | false => rw [if_neg Bool.false_ne_true] at hh; cases hh; exact ⟨_, rfl⟩
  | true =>
    rw [if_pos rfl] at hh
    obtain ⟨z, L7, h7, hh⟩ := bindI hh
    obtain ⟨q', L8, h8, hh⟩ := bindI hh
    obtain ⟨s', L9, h9, hh⟩ := bindI hh
    obtain ⟨r', L10, h10, hh⟩ := bindI hh
    obtain ⟨e, _⟩ := optI h10
    obtain ⟨k', rfl⟩ := hg _ _ _ e
    cases hh
    exact ⟨_, rfl⟩
end
end Ev

set_option Elab.async false
set_option linter.all false
set_option maxRecDepth 100000
set_option maxHeartbeats 1000000
set_option autoImplicit false
/-! EvF: places that change, dicts. -/
namespace Ev
open PySem PySem.Spec PyProof.Rows L2
section
variable {X : Cx} {T : Tb} {K : PySem.W.Frag} {M M0 : Mem} {x : V}
/-- a place is changed -/
theorem place_put (R : Rep K T M) {n : Nat} {o o' : Ob} {h' : HO} (ho : M.A[n]? = some o) (hl : o.live = true) (hl' : o'.live = true) (hp : Plain h')
    (ro : ∀ M', M'.m = M.m → M'.S = M.S → M'.A = M.A.set n o' → M'.H = upd M.H (M.m n) h' → Ext M M' → RO K T M' (M.m n) o') :
    Rep K T { M with A := M.A.set n o', H := upd M.H (M.m n) h' } ∧ Ext M { M with A := M.A.set n o', H := upd M.H (M.m n) h' } := by
  have hn : n < M.A.length := (List.getElem?_eq_some_iff.mp ho).1
  have lv : ∀ k, liveAt (M.A.set n o') k → liveAt M.A k := fun k ⟨u, e, l⟩ => by
    by_cases hk : n = k
    · subst hk; exact ⟨o, ho, hl⟩
    · rw [List.getElem?_set_ne hk] at e; exact ⟨u, e, l⟩
  have ln : liveAt M.A n := ⟨o, ho, hl⟩
  have e : Ext M { M with A := M.A.set n o', H := upd M.H (M.m n) h' } := by
    refine ⟨⟨by rw [List.length_set]; exact Nat.le_refl _, fun _ _ => rfl, fun k y q => ?_, fun k hk l => ?_, fun a u h s => (upd_ne (fun z : a = M.m n => s.1 n ln z.symm)).trans h, fun a h => ?_, fun _ h => .inl h⟩, rfl, fun a ha => upd_ne (fun z : a = M.m n => (R.sc a ha).2 n ln z.symm)⟩
    · show (M.A.set n o')[k]? = _
      by_cases hk : n = k
      · subst hk; rw [ho] at q; cases q; cases hl
      · rw [List.getElem?_set_ne hk]; exact q
    · obtain ⟨u, q, _⟩ := lv k l
      exact absurd (List.getElem?_eq_some_iff.mp q).1 (Nat.not_lt.mpr hk)
    · show upd M.H (M.m n) h' a ≠ none
      unfold upd
      split
      · intro z; cases z
      · exact h
  refine ⟨⟨fun i j li lj q => R.inj i j (lv i li) (lv j lj) q, fun k u q => ?_, fun a ha => ?_⟩, e⟩
  · have q : (M.A.set n o')[k]? = some u := q
    by_cases hk : n = k
    · subst hk
      rw [List.getElem?_set_self hn] at q
      cases q
      exact ro _ rfl rfl rfl rfl e
    · rw [List.getElem?_set_ne hk] at q
      have r := R.at_ k u q
      have ne : u.live = true → M.m k ≠ M.m n := fun l z => hk (R.inj k n ⟨u, q, l⟩ ln z).symm
      cases u with
      | frz y => exact RV.ext R e y _ r
      | lst ws => obtain ⟨vs, h1, h2⟩ := r; exact ⟨vs, (upd_ne (ne rfl)).trans h1, h2.ext R e⟩
      | dct ks ws => obtain ⟨kvs, h1, h2, h3⟩ := r; exact ⟨kvs, (upd_ne (ne rfl)).trans h1, h2, h3.ext R e⟩
      | ins c fs => obtain ⟨dx, gs, h1, h2, h3⟩ := r; exact ⟨dx, gs, (upd_ne (ne rfl)).trans h1, h2, h3.ext R e⟩
      | dcn ks ws => obtain ⟨kvs, h1, h2, h3, h4, h5⟩ := r; exact ⟨kvs, (upd_ne (ne rfl)).trans h1, h2, h3, RVs.ext R e _ _ h4, h5.ext R e⟩
  · obtain ⟨⟨u, h1, h2⟩, h3⟩ := R.sc a ha
    exact ⟨⟨u, (upd_ne (fun z : a = M.m n => h3 n ln z.symm)).trans h1, h2⟩, fun k l => h3 k (lv k l)⟩
/-- a new place -/
def Mem.more (M : Mem) (p : Addr) (h : HO) (o : Ob) (S : List Addr) : Mem := ⟨fun n => if n = M.A.length then p else M.m n, M.A ++ [o], upd M.H p h, S⟩
theorem more_live {p : Addr} {h : HO} {o : Ob} {S : List Addr} {n : Nat} (l : liveAt (M.more p h o S).A n) : liveAt M.A n ∨ n = M.A.length := by
  obtain ⟨u, e, q⟩ := l
  have e : (M.A ++ [o])[n]? = some u := e
  by_cases hn : n < M.A.length
  · rw [List.getElem?_append_left hn] at e
    exact .inl ⟨u, e, q⟩
  · have := (List.getElem?_eq_some_iff.mp e).1
    rw [List.length_append] at this
    exact .inr (by simp at this; omega)
theorem more_m {p : Addr} {h : HO} {o : Ob} {S : List Addr} {n : Nat} (hn : n < M.A.length) : (M.more p h o S).m n = M.m n := by
  show (if n = M.A.length then p else M.m n) = _
  rw [if_neg (by omega)]
theorem more_keeps (R : Rep K T M) {p : Addr} {h : HO} {o : Ob} {S : List Addr} (hp : M.H p = none ∨ p ∈ M.S) (hS : ∀ a, a ∈ S → a ∈ M.S) : Keeps (K := K) M (M.more p h o S) := by
  have ne : ∀ a, Sep M a → M.H a ≠ none → a ≠ p := fun a s h0 z => by
    subst z
    exact hp.elim h0 s.2
  refine ⟨fun a xs q => ?_, fun a s h0 => ⟨fun n l z => ?_, fun z => s.2 (hS a z)⟩, fun a u q s => (upd_ne (ne a s (by rw [q]; intro z; cases z))).trans q, by show _ ≤ (M.A ++ [o]).length; rw [List.length_append]; omega, fun n hn => more_m hn, fun a q => ?_⟩
  rotate_right
  · rcases q with ⟨q, vs, h, hd'⟩ | h
    · exact .inl ⟨q, vs, (upd_ne (ne a (R.sep_tup (.inr ⟨q, h⟩)) (by rw [h]; intro z; cases z))).trans h, hd'⟩
    · exact .inr h
  · rcases q with q | q
    · have s := R.sep_tup q
      have n1 := ne a s (rd_ne q)
      rcases q with q | ⟨u, q⟩
      · exact .inl (.inl ((upd_ne n1).trans q))
      · exact .inl (.inr ⟨u, (upd_ne n1).trans q⟩)
    · exact .inr q
  · rcases more_live l with l | l
    · obtain ⟨u, e, _⟩ := l
      rw [more_m (List.getElem?_eq_some_iff.mp e).1] at z
      exact s.1 n ⟨u, e, ‹_›⟩ z
    · subst l
      have z : (if M.A.length = M.A.length then p else M.m M.A.length) = a := z
      rw [if_pos rfl] at z
      exact ne a s h0 z.symm
theorem more_rep (R : Rep K T M) {p : Addr} {h : HO} {o : Ob} {S : List Addr} (hp : M.H p = none ∨ p ∈ M.S) (hS : ∀ a, a ∈ S → a ∈ M.S ∧ a ≠ p) (ro : RO K T (M.more p h o S) p o) : Rep K T (M.more p h o S) := by
  have k := more_keeps (K := K) (h := h) (o := o) R hp (fun a z => (hS a z).1)
  have np : ∀ n, liveAt M.A n → M.m n ≠ p := fun n l z => by
    rcases hp with hp | hp
    · obtain ⟨u, e, _⟩ := R.live_kind l
      rw [z, hp] at e
      cases e
    · exact (R.sc p hp).2 n l z
  have mm : (M.more p h o S).m M.A.length = p := by show (if _ = _ then _ else _) = _; rw [if_pos rfl]
  have lt : ∀ n, liveAt M.A n → n < M.A.length := fun n ⟨u, e, _⟩ => (List.getElem?_eq_some_iff.mp e).1
  refine ⟨fun i j li lj q => ?_, fun n u q => ?_, fun a ha => ?_⟩
  · rcases more_live li with li | li <;> rcases more_live lj with lj | lj
    · rw [more_m (lt i li), more_m (lt j lj)] at q
      exact R.inj i j li lj q
    · subst lj
      rw [more_m (lt i li), mm] at q
      exact absurd q (np i li)
    · subst li
      rw [more_m (lt j lj), mm] at q
      exact absurd q.symm (np j lj)
    · rw [li, lj]
  · have q : (M.A ++ [o])[n]? = some u := q
    by_cases hn : n < M.A.length
    · rw [List.getElem?_append_left hn] at q
      have r := R.at_ n u q
      rw [more_m hn]
      have hh : u.live = true → ∀ w, M.H (M.m n) = some w → (M.more p h o S).H (M.m n) = some w := fun l w e => (upd_ne (np n ⟨u, q, l⟩)).trans e
      cases u with
      | frz y => exact RV.keeps k y _ r
      | lst ws => obtain ⟨vs, h1, h2⟩ := r; exact ⟨vs, hh rfl _ h1, h2.keeps k⟩
      | dct ks ws => obtain ⟨kvs, h1, h2, h3⟩ := r; exact ⟨kvs, hh rfl _ h1, h2, h3.keeps k⟩
      | ins c fs => obtain ⟨dx, gs, h1, h2, h3⟩ := r; exact ⟨dx, gs, hh rfl _ h1, h2, h3.keeps k⟩
      | dcn ks ws => obtain ⟨kvs, h1, h2, h3, h4, h5⟩ := r; exact ⟨kvs, hh rfl _ h1, h2, h3, RVs.keeps k _ _ h4, h5.keeps k⟩
    · have hl := (List.getElem?_eq_some_iff.mp q).1
      have e : n = M.A.length := by simp at hl; omega
      subst e
      rw [mm]
      rw [List.getElem?_append_right (Nat.le_refl _), Nat.sub_self] at q
      cases q
      exact ro
  · obtain ⟨h1, h2⟩ := hS a ha
    obtain ⟨⟨u, h3, h4⟩, h5⟩ := R.sc a h1
    refine ⟨⟨u, (upd_ne h2).trans h3, h4⟩, fun n l z => ?_⟩
    rcases more_live l with l | l
    · rw [more_m (lt n l)] at z
      exact h5 n l z
    · subst l
      rw [mm] at z
      exact h2 z.symm
theorem more_ext {p : Addr} {h : HO} {o : Ob} (e : Ext0 M0 M) (hd : M0.H p = none) (hS : ∀ a, a ∈ M0.S → M.H a = M0.H a) (R0 : Rep K T M0) : Ext M0 (M.more p h o M0.S) := by
  refine ⟨⟨?_, fun n hn => ?_, fun n y q => ?_, fun n hn l => ?_, fun a u q s => ?_, fun a q => ?_, fun a z => .inl z⟩, rfl, fun a ha => ?_⟩
  · show _ ≤ (M.A ++ [o]).length
    rw [List.length_append]
    exact Nat.le_trans e.len (Nat.le_add_right _ _)
  · rw [more_m (Nat.lt_of_lt_of_le hn e.len)]
    exact e.same n hn
  · have q := e.fz n y q
    show (M.A ++ [o])[n]? = _
    rw [List.getElem?_append_left (List.getElem?_eq_some_iff.mp q).1]
    exact q
  · rcases more_live l with l | l
    · obtain ⟨u, e1, _⟩ := id l
      rw [more_m (List.getElem?_eq_some_iff.mp e1).1]
      exact e.new n hn l
    · subst l
      show M0.H (if M.A.length = M.A.length then p else M.m M.A.length) = none
      rw [if_pos rfl]
      exact hd
  · exact (upd_ne (ne_of_none q hd)).trans (e.keep a u q s)
  · show upd M.H p h a ≠ none
    unfold upd
    split
    · intro z; cases z
    · exact e.there a q
  · obtain ⟨⟨u, h1, _⟩, _⟩ := R0.sc a ha
    exact (upd_ne (ne_of_none h1 hd)).trans (hS a ha)

/-! ### dict displays -/
theorem plain_dK (kvs : List (Key × V)) : Plain (.dK kvs) := ⟨(fun _ z => by cases z), (fun _ _ z => by cases z)⟩
theorem any_key {k : D} {kk : Key} (hk : keyD k = some kk) : ∀ {ks : List D} {kvs : List (Key × V)}, ks.map keyD = kvs.map (fun p => some p.1) → ks.any (fun a => keyEq a k) = kvs.any (fun kv => decide (kv.1 = kk))
  | [], [], _ => rfl
  | [], _ :: _, e => by cases e
  | _ :: _, [], e => by cases e
  | a :: ks, (ka, va) :: kvs, e => by
    have e1 : keyD a = some ka := (List.cons.inj e).1
    have e2 : ks.map keyD = kvs.map (fun p => some p.1) := (List.cons.inj e).2
    show (keyEq a k || ks.any _) = (decide (ka = kk) || kvs.any _)
    rw [keyEq_ok e1 hk, any_key hk e2]
theorem putKs_ok {k : D} {kk : Key} {v : V} (hk : keyD k = some kk) {ks : List D} {kvs : List (Key × V)} (e : ks.map keyD = kvs.map (fun p => some p.1)) : (putKs k ks).map keyD = (putK kvs kk v).map (fun p => some p.1) := by
  unfold putKs putK
  rw [any_key hk e]
  split
  · rw [e, List.map_map]
    congr 1
    funext p
    show some p.1 = some (if p.1 = kk then (p.1, v) else p).1
    split <;> rfl
  · rw [List.map_append, List.map_append, e]
    show _ ++ [keyD k] = _ ++ [some kk]
    rw [hk]
/-- lists of values, one replaced -/
theorem RWs.zip {k : D} {kk : Key} {w : W} {v : V} (hk : keyD k = some kk) (r : RW K T M w v) : ∀ {ks : List D} {ws : List W} {kvs : List (Key × V)}, ks.map keyD = kvs.map (fun p => some p.1) → RWs K T M ws (kvs.map (·.2)) →
    RWs K T M (List.zipWith (fun a y => if keyEq a k then w else y) ks ws) ((kvs.map fun kv => if kv.1 = kk then (kv.1, v) else kv).map (·.2))
  | [], ws, [], _, _ => rfl
  | [], _, _ :: _, e, _ => by cases e
  | _ :: _, _, [], e, _ => by cases e
  | a :: ks, ws, (ka, va) :: kvs, e, h => by
    have e1 : keyD a = some ka := (List.cons.inj e).1
    have e2 : ks.map keyD = kvs.map (fun p => some p.1) := (List.cons.inj e).2
    cases ws with
    | nil => cases (show va :: kvs.map (·.2) = [] from h)
    | cons y ys =>
      obtain ⟨v1, r1, q, h1, h2⟩ := h
      have q : va :: kvs.map (·.2) = v1 :: r1 := q
      cases q
      have ih := RWs.zip hk r e2 h2
      refine ⟨(if ka = kk then (ka, v) else (ka, va)).2, _, rfl, ?_, ih⟩
      show RW K T M (if keyEq a k = true then w else y) _
      rw [keyEq_ok e1 hk]
      by_cases hh : ka = kk
      · rw [if_pos hh, if_pos (decide_eq_true hh)]; exact r
      · rw [if_neg hh, decide_eq_false hh, if_neg Bool.false_ne_true]; exact h1
theorem putVs_ok {k : D} {kk : Key} {w : W} {v : V} (hk : keyD k = some kk) (r : RW K T M w v) {ks : List D} {ws : List W} {kvs : List (Key × V)} (e : ks.map keyD = kvs.map (fun p => some p.1)) (h : RWs K T M ws (kvs.map (·.2))) :
    RWs K T M (putVs k w ks ws) ((putK kvs kk v).map (·.2)) := by
  unfold putVs putK
  rw [any_key hk e]
  split
  · exact RWs.zip hk r e h
  · rw [List.map_append]
    exact h.append ⟨v, [], rfl, r, rfl⟩
theorem mergeKV_ok : ∀ {ks' : List D} {ws' : List W} {kvs' : List (Key × V)} {ks : List D} {ws : List W} {kvs : List (Key × V)}, ks'.map keyD = kvs'.map (fun p => some p.1) → RWs K T M ws' (kvs'.map (·.2)) → ks.map keyD = kvs.map (fun p => some p.1) → RWs K T M ws (kvs.map (·.2)) →
    (mergeKV ks ws ks' ws').1.map keyD = (mergeK kvs kvs').map (fun p => some p.1) ∧ RWs K T M (mergeKV ks ws ks' ws').2 ((mergeK kvs kvs').map (·.2))
  | [], ws', [], ks, ws, kvs, _, _, e, h => by
    have : mergeKV ks ws [] ws' = (ks, ws) := by cases ws' <;> rfl
    rw [this]
    exact ⟨e, h⟩
  | [], _, _ :: _, _, _, _, e, _, _, _ => by cases e
  | _ :: _, _, [], _, _, _, e, _, _, _ => by cases e
  | a :: ks', ws', (ka, va) :: kvs', ks, ws, kvs, e', h', e, h => by
    have e1 : keyD a = some ka := (List.cons.inj e').1
    have e2 : ks'.map keyD = kvs'.map (fun p => some p.1) := (List.cons.inj e').2
    cases ws' with
    | nil => cases (show va :: kvs'.map (·.2) = [] from h')
    | cons y ys =>
      obtain ⟨v1, r1, q, h1, h2⟩ := h'
      have q : va :: kvs'.map (·.2) = v1 :: r1 := q
      cases q
      have := mergeKV_ok (ks' := ks') (ws' := ys) (kvs' := kvs') (ks := putKs a ks) (ws := putVs a y ks ws) (kvs := putK kvs ka va) e2 h2 (putKs_ok e1 e) (putVs_ok e1 h1 e h)
      exact this
theorem zipWith_map {α β γ δ : Type} (f : α → γ → δ) (g : β → γ) : ∀ (xs : List α) (ys : List β), List.zipWith f xs (ys.map g) = List.zipWith (fun x y => f x (g y)) xs ys
  | [], _ => rfl
  | _ :: _, [] => rfl
  | x :: xs, y :: ys => by
    show f x (g y) :: _ = _
    rw [zipWith_map f g xs ys]
    rfl
theorem mergeKV_map : ∀ (ks' : List D) (xs' : List D) (ks : List D) (xs : List D), mergeKV ks (xs.map W.d) ks' (xs'.map W.d) = ((mergeKV ks xs ks' xs').1, (mergeKV ks xs ks' xs').2.map W.d)
  | [], xs', ks, xs => by cases xs' <;> rfl
  | _ :: _, [], ks, xs => rfl
  | k :: ks', x :: xs', ks, xs => by
    have : putVs k (W.d x) ks (xs.map W.d) = (putVs k x ks xs).map W.d := by
      unfold putVs
      split
      · rw [zipWith_map, List.map_zipWith]
        congr 1
        funext a y
        split <;> rfl
      · rw [List.map_append]
        rfl
    show mergeKV (putKs k ks) (putVs k (W.d x) ks (xs.map W.d)) ks' (xs'.map W.d) = _
    rw [this]
    exact mergeKV_map ks' xs' _ _
theorem RWs.toD' {xs : List D} {vs : List V} (h : RWs K T M (xs.map W.d) vs) : RVs K T M xs vs := by
  induction xs generalizing vs with
  | nil => exact h
  | cons x xs ih =>
    obtain ⟨v, r, rfl, h1, h2⟩ := h
    exact ⟨v, r, rfl, h1, ih h2⟩
/-- the pairs of a display -/
inductive JPs (X : Cx) (T : Tb) : List (Option Expr) → List Expr → List (SE × SE) → Prop
  | nil : JPs X T [] [] []
  | cons {k v : Expr} {ks : List (Option Expr)} {vs : List Expr} {f g : SE} {ps : List (SE × SE)} : JE X T k f → JE X T v g → JPs X T ks vs ps → JPs X T (some k :: ks) (v :: vs) ((f, g) :: ps)
theorem JPs.pps {pos : Pos} : ∀ {ks : List (Option Expr)} {vs : List Expr} {ps : List (SE × SE)}, JPs X T ks vs ps → PPs X pos ks vs (ps.map fun p => (rE X.K T p.1, rE X.K T p.2))
  | _, _, _, .nil => pps_nil
  | _, _, _, .cons h1 h2 h3 => pps_cons h1 h2 h3.pps
theorem rd_pairs : ∀ {ps : List (SE × SE)} {M : Mem} {B L : Hs} {ρ : Sl} {σ : L2.St} {Q : List (V × V) → Hp → Prop} {ww : List W × List W} {L9 : Hs}, Pt K T M B L ρ σ M.H → pairsGo B ρ ps L = .ok ww L9 →
    (∀ M' us vs, M'.A = B ++ L9 → Rep K T M' → Ext M M' → RWs K T M' ww.1 us → RWs K T M' ww.2 vs → Q (us.zip vs) M'.H) → tPairs (ps.map fun p => (rE K T p.1, rE K T p.2)) σ M.H Q
  | [], M, B, L, ρ, σ, Q, ww, L9, p, e, k => by
    cases e
    exact k M [] [] p.eA p.rep (Ext.refl M) rfl rfl
  | (f, g) :: ps, M, B, L, ρ, σ, Q, ww, L9, p, e, k => by
    obtain ⟨x, L1, e1, e⟩ := bindI e
    obtain ⟨y, L2, e2, e⟩ := bindI e
    obtain ⟨pp, L3, e3, e⟩ := bindI e
    cases e
    refine ⟨M, B, L, ρ, p, ?_⟩
    show post K T M B (f B ρ L) _
    rw [e1]
    intro M1 a1 R1 x1 v1 rv1
    refine ⟨M1, B, L1, ρ, p.next a1 R1 x1, ?_⟩
    show post K T M1 B (g B ρ L1) _
    rw [e2]
    intro M2 a2 R2 x2 v2 rv2
    exact rd_pairs ((p.next a1 R1 x1).next a2 R2 x2) e3 fun M3 us vs a3 R3 x3 r1 r2 => k M3 (v1 :: us) (v2 :: vs) a3 R3 ((x1.trans x2).trans x3) ⟨v1, us, rfl, rv1.ext R1 (x2.trans x3), r1⟩ ⟨v2, vs, rfl, rv2.ext R2 x3, r2⟩
theorem views_ok {B L : Hs} (R : Rep K T M) (eA : M.A = B ++ L) : ∀ {ws : List W} {vs : List V} {ps : List D} {L1 : Hs}, vwsR B L ws = .ok ps L1 → RWs K T M ws vs → DVs K T M ps vs ∧ L1 = L
  | [], vs, ps, L1, e, r => by cases e; exact ⟨r, rfl⟩
  | w :: ws, vs, ps, L1, e, r => by
    obtain ⟨v, rr, rfl, r1, r2⟩ := r
    obtain ⟨p, L2, e1, e'⟩ := bindI e
    obtain ⟨ev, rfl⟩ := optI e1
    obtain ⟨pp, L3, e2, e''⟩ := bindI e'
    clear e e'
    cases e''
    obtain ⟨d, rfl⟩ := views_ok R eA e2 r2
    exact ⟨⟨v, rr, rfl, vw_dv R eA ev r1, d⟩, rfl⟩
theorem keys_ok : ∀ {ks : List D} {us : List V}, ks.all isKey = true → DVs K T M ks us → ∃ kk : List Key, ks.map keyD = kk.map some ∧ us = kk.map kV
  | [], us, _, d => ⟨[], rfl, d⟩
  | k :: ks, us, h, d => by
    obtain ⟨v, r, rfl, d1, d2⟩ := d
    have h : (isKey k && ks.all isKey) = true := h
    rw [Bool.and_eq_true] at h
    obtain ⟨k1, e1⟩ := keyD_ok h.1
    obtain ⟨kk, e2, e3⟩ := keys_ok h.2 d2
    exact ⟨k1 :: kk, by rw [List.map_cons, e1, e2]; rfl, by rw [e3, keyD_dv e1 d1]; rfl⟩
theorem zip_keys : ∀ {kk : List Key} {vs : List V}, kk.length = vs.length → (kk.map kV).zip vs = (kk.zip vs).map (fun kv => (kV kv.1, kv.2)) ∧ (kk.zip vs).map (fun p => some p.1) = kk.map some ∧ (kk.zip vs).map (·.2) = vs
  | [], [], _ => ⟨rfl, rfl, rfl⟩
  | k :: kk, v :: vs, h => by
    obtain ⟨h1, h2, h3⟩ := zip_keys (kk := kk) (vs := vs) (by simpa using h)
    refine ⟨?_, ?_, ?_⟩
    · show (kV k, v) :: (kk.map kV).zip vs = _; rw [h1]; rfl
    · show some k :: (kk.zip vs).map _ = _; rw [h2]; rfl
    · show v :: (kk.zip vs).map _ = _; rw [h3]
  | [], _ :: _, h => by cases h
  | _ :: _, [], h => by cases h
theorem ownAll_len : ∀ {B L L1 : Hs} {ws : List W} {xs : List D}, ownAll B L ws = some (xs, L1) → xs.length = ws.length
  | B, L, L1, [], xs, e => by cases e; rfl
  | B, L, L1, w :: ws, xs, e => by
    unfold ownAll at e
    split at e
    · split at e
      · rename_i h
        cases e
        rw [List.length_cons, List.length_cons, ownAll_len h]
      · cases e
    · cases e
theorem pairs_len : ∀ {ps : List (SE × SE)} {B : Hs} {ρ : Sl} {L : Hs} {ww : List W × List W} {L9 : Hs}, pairsGo B ρ ps L = .ok ww L9 → ww.1.length = ww.2.length
  | [], B, ρ, L, ww, L9, e => by cases e; rfl
  | (f, g) :: ps, B, ρ, L, ww, L9, e => by
    obtain ⟨x, L1, e1, e⟩ := bindI e
    obtain ⟨y, L2, e2, e⟩ := bindI e
    obtain ⟨pp, L3, e3, e⟩ := bindI e
    cases e
    show pp.1.length + 1 = pp.2.length + 1
    rw [pairs_len e3]
theorem je_dct {ks : List (Option Expr)} {vs : List Expr} {ps : List (SE × SE)} {pos : Pos} (h : JPs X T ks vs ps) (hall : ks.all (·.isSome) = true := by rfl) (hl : ks.length = vs.length := by rfl) (h0 : ks ≠ [] := by exact fun z => by cases z) (h15 : ks.length ≤ 15 := by decide) : JE X T (.Dict ks vs pos) (eDct ps) :=
  PE.weak (pe_disp h.pps hall hl h0 h15) fun σ H Q h => by
    obtain ⟨M, B, L, ρ, p, h⟩ := h
    intro d hd
    have eH := p.eH
    subst eH
    obtain ⟨R1, e1, k1⟩ := opened p.rep hd (plain_dK [])
    unfold eDct at h
    cases eg : pairsGo B ρ ps L with
    | exc _ _ _ => rw [eg] at h; exact h.elim
    | bad => rw [eg] at h; exact h.elim
    | ok ww L9 =>
      rw [eg] at h
      refine rd_pairs (M := M.open d (.dK [])) ⟨rfl, p.eA, R1, p.rs.keeps k1⟩ eg fun M2 us vs a2 R2 x2 r1 r2 => ?_
      have hd2 : M2.H d = some (.dK []) := (x2.ks d (by simp [Mem.open])).trans upd_same
      refine ⟨hd2, ?_⟩
      have h : post X.K T M B ((ownsR B L9 ww.2).bind _) _ := h
      unfold ownsR at h
      cases eo : ownAll B L9 ww.2 with
      | none => rw [eo] at h; exact h.elim
      | some y =>
        obtain ⟨xs, L10⟩ := y
        rw [eo] at h
        obtain ⟨M3, a3, h3, R3, x3, rx⟩ := ownAll_ok R2 a2 eo r2
        have h6 : post X.K T M B ((vwsR B L10 ww.1).bind _) _ := h
        cases ek : vwsR B L10 ww.1 with
        | exc _ _ _ => rw [ek] at h6; exact h6.elim
        | bad => rw [ek] at h6; exact h6.elim
        | ok kd L11 =>
          rw [ek] at h6
          obtain ⟨dk, rfl⟩ := views_ok R3 a3 ek (r1.ext R2 x3)
          have h8 : post X.K T M B ((guardR (kd.all isKey && decide (kd.length ≤ 15)) _).bind _) _ := h6
          obtain ⟨hg, h⟩ := post.guard h8
          rw [Bool.and_eq_true] at hg
          obtain ⟨kk, e2, e3⟩ := keys_ok hg.1 dk
          have lk : kk.length = vs.length := by
            have n1 := r1.length
            have n2 := r2.length
            have n3 := pairs_len eg
            rw [e3, List.length_map] at n1
            omega
          obtain ⟨z1, z2, z3⟩ := zip_keys lk
          refine ⟨kk.zip vs, by rw [e3]; exact z1, ?_, ?_⟩
          · have := of_decide_eq_true hg.2
            have n : kd.length = kk.length := by simpa using congrArg List.length e2
            rw [List.length_zip]
            omega
          · have x23 := x2.trans x3
            obtain ⟨R4, k4⟩ := written (d := d) R3 (by rw [x23.sq]; simp [Mem.open]) (plain_dK (mergeK [] (kk.zip vs)))
            have e4 : Ext0 M (M3.put d (.dK (mergeK [] (kk.zip vs)))) := put_ext0 (e1.trans x23.toExt0) (.inr hd)
            obtain ⟨R5, E5, k5, s5⟩ := closed p.rep hd R4 e4 (by show M3.S = _; rw [x23.sq]; rfl) fun a ha => by
              obtain ⟨⟨u, q1, _⟩, _⟩ := p.rep.sc a ha
              have ne : a ≠ d := ne_of_none q1 hd
              show upd M3.H d _ a = _
              rw [upd_ne ne, x23.ks a (by simp [Mem.open]; exact .inr ha)]
              exact upd_ne ne
            obtain ⟨m1, m2⟩ := mergeKV_ok (K := X.K) (T := T) (M := (M3.put d (.dK (mergeK [] (kk.zip vs)))).close M.S) (ks' := kd) (ws' := xs.map W.d) (kvs' := kk.zip vs) (ks := []) (ws := []) (kvs := []) (by rw [e2, z2]) (by rw [z3]; exact RWs.ofD (RVs.keeps k5 _ _ (RVs.keeps k4 _ _ rx))) rfl rfl
            have mm := mergeKV_map kd xs [] []
            rw [List.map_nil] at mm
            rw [mm] at m1 m2
            have fin := h ((M3.put d (.dK (mergeK [] (kk.zip vs)))).close M.S) a3 R5 E5 (.ref d) ⟨d, mergeK [] (kk.zip vs), rfl, s5, upd_same, m1, m2.toD'⟩
            rw [← h3]
            exact fin
theorem je_dctM {ks : List (Option Expr)} {vs : List Expr} {ps : List (SE × SE)} {pos : Pos} (h : JPs X T ks vs ps) (hall : ks.all (·.isSome) = true := by rfl) (hl : ks.length = vs.length := by rfl) (h0 : ks ≠ [] := by exact fun z => by cases z) (h15 : ks.length ≤ 15 := by decide) : JE X T (.Dict ks vs pos) (eDctM ps) :=
  PE.weak (pe_disp h.pps hall hl h0 h15) fun σ H Q h => by
    obtain ⟨M, B, L, ρ, p, h⟩ := h
    intro d hd
    have eH := p.eH
    subst eH
    obtain ⟨R1, e1, k1⟩ := opened p.rep hd (plain_dK [])
    unfold eDctM at h
    cases eg : pairsGo B ρ ps L with
    | exc _ _ _ => rw [eg] at h; exact h.elim
    | bad => rw [eg] at h; exact h.elim
    | ok ww L9 =>
      rw [eg] at h
      refine rd_pairs (M := M.open d (.dK [])) ⟨rfl, p.eA, R1, p.rs.keeps k1⟩ eg fun M2 us vs a2 R2 x2 r1 r2 => ?_
      have hd2 : M2.H d = some (.dK []) := (x2.ks d (by simp [Mem.open])).trans upd_same
      refine ⟨hd2, ?_⟩
      have h6 : post X.K T M B ((vwsR B L9 ww.1).bind _) _ := h
      cases ek : vwsR B L9 ww.1 with
      | exc _ _ _ => rw [ek] at h6; exact h6.elim
      | bad => rw [ek] at h6; exact h6.elim
      | ok kd L11 =>
        rw [ek] at h6
        obtain ⟨dk, rfl⟩ := views_ok R2 a2 ek r1
        have h8 : post X.K T M B ((guardR (kd.all isKey && decide (kd.length ≤ 15)) _).bind _) _ := h6
        obtain ⟨hg, h9⟩ := post.guard h8
        rw [Bool.and_eq_true] at hg
        obtain ⟨kk, e2, e3⟩ := keys_ok hg.1 dk
        have lk : kk.length = vs.length := by
          have n1 := r1.length
          have n2 := r2.length
          have n3 := pairs_len eg
          rw [e3, List.length_map] at n1
          omega
        obtain ⟨z1, z2, z3⟩ := zip_keys lk
        refine ⟨kk.zip vs, by rw [e3]; exact z1, ?_, ?_⟩
        · have := of_decide_eq_true hg.2
          have n : kd.length = kk.length := by simpa using congrArg List.length e2
          rw [List.length_zip]
          omega
        · have dS : d ∈ M2.S := by rw [x2.sq]; simp [Mem.open]
          have dn : ∀ a, a ∈ M.S → a ≠ d := fun a ha => by
            obtain ⟨⟨u, q1, _⟩, _⟩ := p.rep.sc a ha
            exact ne_of_none q1 hd
          have hS : ∀ a, a ∈ M.S → a ∈ M2.S ∧ a ≠ d := fun a ha => ⟨by rw [x2.sq]; simp [Mem.open]; exact .inr ha, dn a ha⟩
          have kp := more_keeps (K := X.K) (T := T) (h := HO.dK (mergeK [] (kk.zip vs))) (o := Ob.dct (mergeKV [] [] kd ww.2).1 (mergeKV [] [] kd ww.2).2) (S := M.S) R2 (.inr dS) (fun a ha => (hS a ha).1)
          obtain ⟨m1, m2⟩ := mergeKV_ok (K := X.K) (T := T) (M := M2.more d (HO.dK (mergeK [] (kk.zip vs))) (Ob.dct (mergeKV [] [] kd ww.2).1 (mergeKV [] [] kd ww.2).2) M.S) (ks' := kd) (ws' := ww.2) (kvs' := kk.zip vs) (ks := []) (ws := []) (kvs := []) (by rw [e2, z2]) (by rw [z3]; exact r2.keeps kp) rfl rfl
          have R5 := more_rep (K := X.K) (T := T) (h := HO.dK (mergeK [] (kk.zip vs))) (o := Ob.dct (mergeKV [] [] kd ww.2).1 (mergeKV [] [] kd ww.2).2) (S := M.S) R2 (.inr dS) hS ⟨_, upd_same, m1, m2⟩
          have E5 := more_ext (K := X.K) (T := T) (h := HO.dK (mergeK [] (kk.zip vs))) (o := Ob.dct (mergeKV [] [] kd ww.2).1 (mergeKV [] [] kd ww.2).2) (e1.trans x2.toExt0) hd (fun a ha => by
            rw [x2.ks a (by simp [Mem.open]; exact .inr ha)]
            exact upd_ne (dn a ha)) p.rep
          have ln : M2.A.length = B.length + L11.length := by rw [a2, List.length_append]
          refine h9 (M2.more d (HO.dK (mergeK [] (kk.zip vs))) (Ob.dct (mergeKV [] [] kd ww.2).1 (mergeKV [] [] kd ww.2).2) M.S) ?_ R5 E5 (.ref d) ⟨?_, ?_⟩
          · show M2.A ++ [_] = _
            rw [a2, List.append_assoc]
          · show _ < (M2.A ++ [_]).length
            rw [List.length_append, ln]
            exact Nat.lt_succ_self _
          · show V.ref d = V.ref (if B.length + L11.length = M2.A.length then d else _)
            rw [if_pos ln.symm]
theorem js_dput {o i value : Expr} {f g e : SE} {pos pos' : Pos} (hu : X.A.units + 1 < cLine) (ho : JE X T o f) (hi : JE X T i g) (hv : JE X T value e) (hs : swapsWith value (some (.Subscript o i pos')) pos.line X.env = pure false := by rfl) : JS X T (.Assign [.Subscript o i pos'] value pos) (sDPut f g e) :=
  PS.weak (ps_dput hu ho hi hv hs) fun Dn σ H h => by
    obtain ⟨M, B, L, ρ, p, h⟩ := h
    refine ⟨M, B, L, ρ, p, (post.st h).mono fun z L1 M1 eA1 R1 x1 q1 v rv => ?_⟩
    refine ⟨M1, B, L1, ρ, p.next eA1 R1 x1, (post.st q1).mono fun w L2 M2 eA2 R2 x2 q2 u ru => ?_⟩
    refine ⟨M2, B, L2, ρ, (p.next eA1 R1 x1).next eA2 R2 x2, (post.st q2).mono fun y L3 M3 eA3 R3 x3 q3 t rt => ?_⟩
    obtain ⟨k, ek, q4⟩ := post.opt1 (post.st q3)
    clear q3
    have dk := vw_dv R3 eA3 ek rt
    have q5 := q4.here eA3 R3
    cases ep : putAt B L3 w k z with
    | none => rw [ep] at q5; exact q5.elim
    | some L4 =>
      rw [ep] at q5
      unfold putAt at ep
      split at ep
      · rename_i n
        split at ep
        · cases ep
        · rename_i hb
          split at ep
          · rename_i ks ws en
            split at ep
            · rename_i hk
              cases ep
              obtain ⟨kk, e1⟩ := keyD_ok hk.1
              have e2 := keyD_dv e1 dk
              have en3 : M3.A[n]? = some (.dct ks ws) := by rw [eA3, List.getElem?_append_right (by omega)]; exact en
              obtain ⟨kvs, h1, h2, h3⟩ := R3.at_ n _ en3
              have lk : kvs.length = ks.length := by simpa using (congrArg List.length h2).symm
              have rv3 := (rv.ext R1 x2).ext R2 x3
              obtain ⟨hn, eu⟩ := ru.ext R2 x3
              have gg := place_put (K := X.K) (T := T) (o' := .dct (putKs k ks) (putVs k z ks ws)) (h' := .dK (putK kvs kk v)) R3 en3 rfl rfl (plain_dK _) fun M' em eS eA' eH E' => by
                refine ⟨putK kvs kk v, by rw [eH]; exact upd_same, putKs_ok e1 h2, putVs_ok e1 (rv3.ext R3 E') h2 (h3.ext R3 E')⟩
              refine ⟨M3.m n, upd M3.H (M3.m n) (.dK (putK kvs kk v)), eu, ?_, ?_⟩
              · rw [e2]
                exact DPut.k h1 (by rw [lk]; exact hk.2)
              · exact q5 _ σ (by show M3.A.set n _ = _; rw [eA3, List.set_append_right _ _ (by omega)]) gg.1 gg.2 (((((p.next eA1 R1 x1).next eA2 R2 x2).next eA3 R3 x3).rs).ext R3 gg.2)
            · cases ep
          · cases ep
      · cases ep
end
end Ev

set_option Elab.async false
set_option linter.all false
set_option maxRecDepth 100000
set_option maxHeartbeats 1000000
set_option autoImplicit false
/-! EvM: the module's constants, a class's constants and static methods, items, dict(pairs), repr. -/
namespace Ev
open PySem PySem.Spec PyProof.Rows L2
section
variable {X : Cx} {T : Tb} {K : PySem.W.Frag} {M : Mem}
theorem je_glob {x : Str} {v : V} {u : Value} {d : D} {pos : Pos} (hm : X.mg x = some u) (r : RelV v u) (rv : ∀ M, Rep X.K T M → RV X.K T M d v) (hg : Gl X x := by rfl) (hd : (x == ("__debug__" : Str)) = false := by decide) : JE X T (.Name x pos) (eC d) := je_c (pe_glob hg hm r hd) rv
theorem je_gint {x : Str} {i : Int} {pos : Pos} (hm : ∃ t, X.mg x = some (.int i t)) (hg : Gl X x := by rfl) (hd : (x == ("__debug__" : Str)) = false := by decide) : JE X T (.Name x pos) (eC (.int i)) :=
  let ⟨t, h⟩ := hm; je_glob (v := .int i) h ⟨t, rfl⟩ (fun _ _ => rfl) hg hd
/-- C.f, a constant -/
theorem je_cval {x f : Str} {C : Addr} {mc u : Value} {v : V} {d : D} {p pos : Pos} (hm : X.mg x = some (.ref C)) (c : ClX.CRead X.K C mc) (cv : ClX.CVal X.K C mc f v u) (rv : ∀ M, Rep X.K T M → RV X.K T M d v) (hg : Gl X x := by rfl) (hd : (x == ("__debug__" : Str)) = false := by decide)
    (hb : attributeBase (.Name x p) f X.env (eval (.Name x p) X.env) = eval (.Name x p) X.env := by rfl) : JE X T (.Attribute (.Name x p) f pos) (eC d) :=
  PE.weak (ClX.pe_cval (pe_glob (v := .ref C) hg hm rfl hd) hb) fun σ H Q h => by
    obtain ⟨M, B, L, ρ, p, h⟩ := h
    have := h M p.eA p.rep (Ext.refl M) v (rv M p.rep)
    rw [p.eH] at this
    exact ⟨C, mc, v, u, rfl, c, cv, this⟩
/-- C.m is a static method: its record at p, its def at g -/
structure SMet (K : PySem.W.Frag) (C : Addr) (mc : Value) (m : Str) (p g : Addr) : Prop where
  at_ : PySem.W.findCls K (.ref C) mc m = some (.get (.builtin "staticmethod.__get__") (.ref p) .none (.ref C))
  rc : ∃ rest, PySem.W.recIn K p "staticmethod" = some (.ref g :: rest)
theorem smet_get {C p g : Addr} {mc : Value} {m : Str} {pins : List (Addr × Obj)} {σ : L2.St} {H : Hp} {s : Shared} {A : Around} {E : Value → Shared → Prop} {pl : Sem Bool} {Q : Value × List Value → Shared → Prop} (I : Inv X pins σ H s) (r : ClX.CRead X.K C mc) (k : SMet X.K C mc m p g)
    (h : ∀ s', Inv X pins σ H s' → Q (.ref g, []) s') : wpAny (model X.prog X.w) A (getMethod (.ref C) m pl) Q E s := by
  obtain ⟨rest, hp⟩ := k.rc
  refine PySem.W.method_cls I.kIn r.ga (PySem.W.cls_bind I.kIn r.rd k.at_ ?_)
  exact wpAny_call (PySem.W.sm_get (s := { s with toks := s.toks + 1 }) I.kIn hp (PySem.W.handed_on rfl (h _ (I.tok _))))
theorem je_stat0 {F : Fn} {k : Nat} {C g pr : Addr} {mc : Value} {fd : FuncData} {ps : List Str} {x m : Str} {p apos pos : Pos} {pl : Sem Bool} (G : FnG X.prog X.w X.K X.mg X.base CX0 k g fd ps (spOf X.K T 0 F)) (hgu : X.A.guards = some []) (hr : Room k X.A) (hm : X.mg x = some (.ref C)) (c : ClX.CRead X.K C mc) (sm : SMet X.K C mc m pr g)
    (hk : PySem.W.keepIn X.K (.ref g) = true) (hb : Binds X.K fd ps []) (hg : Gl X x := by rfl) (hd : (x == ("__debug__" : Str)) = false := by decide)
    (ht : eval (.Call (.Attribute (.Name x p) m apos) [] [] pos) X.env = (do
      let ov ← eval (.Name x p) X.env
      standAt apos.atName
      let (f, first) ← holding [ov] (getMethod ov m pl)
      callWith pos f first (backTo pos (starEach [] X.env)) (backToKw pos (keywordEach [] X.env))) := by rfl) : JE X T (.Call (.Attribute (.Name x p) m apos) [] [] pos) (eCall 0 F aNil) := by
  refine ⟨fun pins s σ H Q I h => ?_⟩
  obtain ⟨M, B, L, ρ, q, h⟩ := h
  have q0 : spOf X.K T 0 F [] M.H Q E0 := ⟨rfl, M, B, L, [], rfl, q.eA, q.rep, rfl, h⟩
  rw [q.eH] at q0
  refine PySem.W.methodCall_KW (pl := pl) (thn ((pe_glob (X := X) (v := .ref C) hg hm rfl hd).run pins s σ H (fun v H1 => v = .ref C ∧ H1 = H) I ⟨rfl, rfl⟩) fun u s1 ⟨z, H1, I1, rx, ex, eh⟩ => ?_) ht
  subst ex eh
  obtain rfl : u = Value.ref C := rx
  refine smet_get I1 c sm fun s2 I2 => ?_
  refine PySem.W.callWith_K0 I2.kIn hk ?_
  have l : (([] : List Value) ++ ([] : List Value)).length = ps.length := by rw [← G.ln _ _ _ _ q0]; rfl
  have b := hb s2 [] I2.kIn l
  exact G.call hgu hr pass0 I2 b .nil q0

/-! ### the heap grows by objects that nobody names -/
theorem grow (R : Rep K T M) {H' : Hp} (k : ∀ b o, M.H b = some o → H' b = some o) : Rep K T { M with H := H' } ∧ Ext M { M with H := H' } := by
  have e : Ext M { M with H := H' } := ⟨⟨Nat.le_refl _, fun _ _ => rfl, fun _ _ h => h, fun n h ⟨o, e, _⟩ => absurd (List.getElem?_eq_some_iff.mp e).1 (Nat.not_lt.mpr h), fun a u h _ => k a u h, fun a h => by
      cases q : M.H a with
      | none => exact absurd q h
      | some o =>
        show H' a ≠ none
        rw [k a o q]
        exact (by intro z; cases z), fun _ h => .inl h⟩, rfl, fun a ha => by
      obtain ⟨⟨u, h1, _⟩, _⟩ := R.sc a ha
      exact (k a u h1).trans h1.symm⟩
  refine ⟨⟨R.inj, fun n ob q => ?_, fun a ha => ⟨?_, (R.sc a ha).2⟩⟩, e⟩
  · have r := R.at_ n ob q
    cases ob with
    | frz x => exact RV.ext R e x _ r
    | lst ws => obtain ⟨vs, h1, h2⟩ := r; exact ⟨vs, k _ _ h1, h2.ext R e⟩
    | dct ks ws => obtain ⟨kvs, h1, h2, h3⟩ := r; exact ⟨kvs, k _ _ h1, h2, h3.ext R e⟩
    | ins c fs => obtain ⟨dx, gs, h1, h2, h3⟩ := r; exact ⟨dx, gs, k _ _ h1, h2, h3.ext R e⟩
    | dcn ks ws => obtain ⟨kvs, h1, h2, h3, h4, h5⟩ := r; exact ⟨kvs, k _ _ h1, h2, h3, RVs.ext R e _ _ h4, h5.ext R e⟩
  · obtain ⟨⟨u, h1, h2⟩, _⟩ := R.sc a ha
    exact ⟨u, k a u h1, h2⟩
theorem grow_sep (R : Rep K T M) {H' : Hp} {p : Addr} (hp : M.H p = none) : Sep { M with H := H' } p := by
  refine ⟨fun n l q => ?_, fun hs => ?_⟩
  · obtain ⟨u, e, _⟩ := R.live_kind l
    have q' : M.m n = p := q
    rw [q', hp] at e
    cases e
  · obtain ⟨⟨u, e, _⟩, _⟩ := R.sc p hs
    rw [hp] at e
    cases e

/-! ### list(d.items()) -/
def pairsD (ks vs : List D) : List D := List.zipWith (fun k v => .tup [k, v]) ks vs
def opItems : D → Option D
  | .dct ks vs => some (.lst (pairsD ks vs))
  | _ => none
theorem keyD_rv' {k : D} {kk : Key} (h : keyD k = some kk) : RV K T M k (kV kk) := by
  cases k with
  | int i => cases h; exact rfl
  | str s => cases h; exact rfl
  | _ => cases h
theorem keyD_nr {k v : D} {kk : Key} (h : keyD k = some kk) : rowy [k, v] = false := by
  cases k with
  | int i => rfl
  | str s => rfl
  | _ => cases h
theorem pairs_rv {M' : Mem} : ∀ {ks xs : List D} {kvs : List (Key × V)} {ts : List Addr}, ks.map keyD = kvs.map (fun p => some p.1) → RVs K T M' xs (kvs.map (·.2)) → Paired (fun (t : Addr) (q : Key × V) => M'.H t = some (.tup [kV q.1, q.2])) ts kvs → RVs K T M' (pairsD ks xs) (ts.map V.ref)
  | [], xs, kvs, ts, e, r, h => by
    have : kvs = [] := by simpa using e.symm
    subst this
    cases h
    exact rfl
  | k :: ks, xs, [], ts, e, r, h => by cases e
  | k :: ks, xs, (kk, v) :: kvs, ts, e, r, h => by
    have e1 : keyD k = some kk := (List.cons.inj e).1
    have e2 : ks.map keyD = kvs.map (fun p => some p.1) := (List.cons.inj e).2
    cases xs with
    | nil => cases (show v :: kvs.map (·.2) = [] from r)
    | cons x xs =>
      obtain ⟨v1, r1, q, h1, h2⟩ := r
      have q : v :: kvs.map (·.2) = v1 :: r1 := q
      cases q
      cases h with
      | cons ht hr => exact ⟨_, _, rfl, ⟨_, _, rfl, ⟨.inl (.inl ht), fun z => by rw [keyD_nr e1] at z; cases z⟩, ⟨_, _, rfl, keyD_rv' e1, _, _, rfl, h1, rfl⟩⟩, pairs_rv e2 h2 hr⟩
theorem je_items {e : Expr} {f : SE} {p apos cpos pos : Pos} (hc : X.calm = true) (he : JE X T e f) (hm : X.mg "list" = none) (hg : Gl X "list" := by rfl) (hv : bootBuiltins "list" = some (.type "list") := by decide +kernel)
    (hbase : attributeBase e "items" X.env (eval e X.env) = eval e X.env := by rfl) (hline : (apos.endLine == cpos.line) = true := by rfl)
    (hs : starEach [.Call (.Attribute e "items" apos) [] [] cpos] X.env = (false, eval (.Call (.Attribute e "items" apos) [] [] cpos) X.env) :: starEach [] X.env := by rfl) :
    JE X T (.Call (.Name "list" p) [.Call (.Attribute e "items" apos) [] [] cpos] [] pos) (e1 opItems f) :=
  PE.weak (LiI.pe_listItems hc he hg hm hv hbase hline hs) fun σ H Q h => by
    obtain ⟨M, B, L, ρ, p, h⟩ := h
    refine ⟨M, B, L, ρ, p, (post.bind h).mono fun w L1 M1 eA R x q v rv => ?_⟩
    obtain ⟨pd, ev, dv, q⟩ := q.view R eA rv
    obtain ⟨z, ez, q⟩ := q.opt
    cases pd with
    | dct ks xs =>
      cases ez
      obtain ⟨a, kvs, rfl, e2, e3, e4⟩ := dv.dct
      refine ⟨a, kvs, rfl, e2, fun H' pp ts k1 k2 k3 k4 k5 k6 => ?_⟩
      obtain ⟨R2, x2⟩ := grow R k1
      exact q { M1 with H := H' } eA R2 x2 (.ref pp) ⟨pp, _, rfl, grow_sep R k2, k5, pairs_rv e3 (RVs.ext R x2 _ _ e4) k6⟩
    | _ => cases ez
/-! ### dict(pairs) -/
def unpair : List D → Option (List D × List D)
  | [] => some ([], [])
  | .tup [k, v] :: r => match unpair r with
    | some (ks, vs) => some (k :: ks, v :: vs)
    | none => none
  | _ => none
def bDict : List D → Option D
  | [.lst xs] => match unpair xs with
    | some (ks, vs) => if ks.all isKey = true then some (.dct (mergeKV [] [] ks vs).1 (mergeKV [] [] ks vs).2) else none
    | none => none
  | _ => none
theorem unpair_ok : ∀ {xs ks ds : List D} {vs : List V}, unpair xs = some (ks, ds) → ks.all isKey = true → RVs K T M xs vs →
    ∃ (ps : List Addr) (kvs : List (Key × V)), vs = ps.map V.ref ∧ Paired (fun p kv => SqT K M.H p [kV kv.1, kv.2]) ps kvs ∧ ks.map keyD = kvs.map (fun p => some p.1) ∧ RVs K T M ds (kvs.map (·.2))
  | [], ks, ds, vs, e, _, r => by
    cases e
    exact ⟨[], [], r, .nil, rfl, rfl⟩
  | x :: xs, ks, ds, vs, e, hk, r => by
    unfold unpair at e
    split at e
    · cases ‹_ :: _ = []›
    · rename_i k v rr eq
      cases eq
      split at e
      · rename_i ks' vs' eu
        cases e
        have hk : (isKey k && ks'.all isKey) = true := hk
        rw [Bool.and_eq_true] at hk
        obtain ⟨v1, r1, rfl, h1, h2⟩ := r
        obtain ⟨ps, kvs, rfl, e2, e3, e4⟩ := unpair_ok eu hk.2 h2
        obtain ⟨a, us, rfl, s1, u1, t1, rfl, a1, u2, t2, rfl, a2, a3⟩ := h1
        have a3 : t2 = [] := a3
        subst a3
        obtain ⟨kk, ek⟩ := keyD_ok hk.1
        have := keyD_dv ek a1.dv
        subst this
        refine ⟨a :: ps, (kk, u2) :: kvs, rfl, .cons s1.1 e2, ?_, ⟨_, _, rfl, a2, e4⟩⟩
        rw [List.map_cons, List.map_cons, ek, e3]
      · cases e
    · cases e
theorem cd_dict (hc : X.calm = true) : CallD X T (.type "dict") bDict := call_D1 rfl (fun _ _ _ => by simp [bDict]) fun pins s σ M p z x u Q I rx R d e k => by
  cases p with
  | lst xs =>
    have e : (match unpair xs with
      | some (ks, vs) => if ks.all isKey = true then some (D.dct (mergeKV [] [] ks vs).1 (mergeKV [] [] ks vs).2) else none
      | none => none) = some z := e
    cases eu : unpair xs with
    | none => rw [eu] at e; cases e
    | some y =>
      obtain ⟨ks, ds⟩ := y
      rw [eu] at e
      dsimp only at e
      split at e
      · rename_i hk
        cases e
        obtain ⟨a, vs, rfl, s1, r1⟩ := d.lst
        obtain ⟨ps, kvs, rfl, e2, e3, e4⟩ := unpair_ok eu hk r1
        refine call_dictP hc pins s σ _ _ [u] Q I (.cons rx .nil) ⟨a, ps, kvs, rfl, SqL.of s1, e2, fun p hp => ?_⟩
        obtain ⟨R2, x2⟩ := garb (o := .dK (mergeK [] kvs)) R hp
        obtain ⟨m1, m2⟩ := mergeKV_ok (K := X.K) (T := T) (M := { M with H := upd M.H p (.dK (mergeK [] kvs)) }) (ks' := ks) (ws' := ds.map W.d) (kvs' := kvs) (ks := []) (ws := []) (kvs := []) e3 (RWs.ofD (RVs.ext R x2 _ _ e4)) rfl rfl
        have mm := mergeKV_map ks ds [] []
        rw [List.map_nil] at mm
        rw [mm] at m1 m2
        exact k { M with H := upd M.H p (.dK (mergeK [] kvs)) } (.ref p) rfl R2 x2 ⟨p, mergeK [] kvs, rfl, sep_new R hp, upd_same, m1, m2.toD'⟩
      · cases e
  | _ => cases e
/-! ### repr -/
def bRepr : List D → Option D
  | [.tup xs] => if okD (.tup xs) = true ∧ (toPy (.tup xs)).showable = true ∧ (toPy (.tup xs)).shown.length ≤ sizeL then some (.str (toPy (.tup xs)).shown.cps.toList) else none
  | [.bl b] => some (.str (if b = true then trueS else falseS))
  | [.lst xs] => if okD (.lst xs) = true ∧ (toPy (.lst xs)).showable = true ∧ (toPy (.lst xs)).shown.length ≤ sizeL then some (.str (toPy (.lst xs)).shown.cps.toList) else none
  | _ => none
theorem repr_ok {pins : List (Addr × Obj)} {s : Shared} {σ : L2.St} {p : D} {a : Addr} {u : Value} {Q : VK} (hgu : X.A.guards = some []) (hu : X.A.units + 66 < cLine) (I : Inv X pins σ M.H s) (rx : RelV (.ref a) u) (R : Rep X.K T M) (d : DV X.K T M p (.ref a)) (ok : okD p = true) (sh : (toPy p).showable = true)
    (sz : (toPy p).shown.length ≤ sizeL) (k : ∀ M' v, M'.A = M.A → Rep X.K T M' → Ext M M' → RV X.K T M' (.str (toPy p).shown.cps.toList) v → Q v M'.H) : wpAny (model X.prog X.w) X.A (call (.builtin "repr") [u]) (EP X pins σ Q) X.xe s := by
  obtain rfl : u = Value.ref a := rx
  obtain ⟨as, r1⟩ := Dp.reads I (toPy p) (.ref a) (.ref a) (dv_dp ok d) rfl
  have dp : (toPy p).depth ≤ 64 := by
    rw [dep_of]
    unfold okD at ok
    rw [Bool.and_eq_true] at ok
    exact of_decide_eq_true ok.2
  have nd : (toPy p).hasDict = false := PyData.hasDict_of_canLay _ (lay_of p (okD_dOk ok))
  refine repr_of_reads' r1 sh (PyData.noDict_hsm nd) hgu (by omega) (fun _ _ e => e) (fun h' t tk kp => ?_) sz
  exact ⟨.str (toPy p).shown, M.H, I.kept (t' := tk) kp, ⟨t, rfl⟩, k M _ rfl R (Ext.refl M) (by show V.str _ = V.str _; simp)⟩
theorem cd_repr (hgu : X.A.guards = some []) (hu : X.A.units + 66 < cLine) : CallD X T (.builtin "repr") bRepr := call_D1 rfl (fun _ _ _ => by simp [bRepr]) fun pins s σ M p z x u Q I rx R d e k => by
  cases p with
  | tup xs =>
    have e : (if _ then _ else _) = some z := e
    split at e
    · rename_i h
      cases e
      obtain ⟨a, vs, rfl, _⟩ := d.tup
      exact repr_ok hgu hu I rx R d h.1 h.2.1 h.2.2 k
    · cases e
  | lst xs =>
    have e : (if _ then _ else _) = some z := e
    split at e
    · rename_i h
      cases e
      obtain ⟨a, vs, rfl, _⟩ := d.lst
      exact repr_ok hgu hu I rx R d h.1 h.2.1 h.2.2 k
    · cases e
  | bl b =>
    cases e
    exact call_repr_bool pins s σ _ _ [u] Q I (.cons rx .nil) ⟨b, by rw [d.bl], k M _ rfl R (Ext.refl M) rfl⟩
  | _ => cases e
end
end Ev

set_option Elab.async false
set_option linter.all false
set_option maxRecDepth 100000
set_option maxHeartbeats 1000000
set_option autoImplicit false
/-! EvP: lists that change, dicts with nested keys. -/
namespace Ev
open PySem PySem.Spec PyProof.Rows L2
section
variable {X : Cx} {T : Tb} {K : PySem.W.Frag} {M : Mem}
theorem new_place {B L : Hs} (R : Rep K T M) (eA : M.A = B ++ L) {a : Addr} (ha : M.H a = none) {o : Ob} {h : HO} {Q : VK} (ro : Keeps (K := K) M (M.more a h o M.S) → RO K T (M.more a h o M.S) a o)
    (q : post K T M B (.ok (.ref (B.length + L.length)) (L ++ [o])) fun w _ M' => ∀ v, RW K T M' w v → Q v M'.H) : Q (.ref a) (upd M.H a h) := by
  have hS : ∀ b, b ∈ M.S → b ∈ M.S ∧ b ≠ a := fun b hb => ⟨hb, by
    obtain ⟨⟨u, q1, _⟩, _⟩ := R.sc b hb
    exact ne_of_none q1 ha⟩
  have kp := more_keeps (K := K) (h := h) (o := o) (S := M.S) R (.inl ha) (fun b hb => hb)
  have R' := more_rep (K := K) (h := h) (o := o) (S := M.S) R (.inl ha) hS (ro kp)
  have E' := more_ext (K := K) (T := T) (h := h) (o := o) (Ext0.refl M) ha (fun _ _ => rfl) R
  have ln : M.A.length = B.length + L.length := by rw [eA, List.length_append]
  refine q (M.more a h o M.S) ?_ R' E' (.ref a) ⟨?_, ?_⟩
  · show M.A ++ [_] = _
    rw [eA, List.append_assoc]
  · show _ < (M.A ++ [_]).length
    rw [List.length_append, ln]
    exact Nat.lt_succ_self _
  · show V.ref a = V.ref (if B.length + L.length = M.A.length then a else _)
    rw [if_pos ln.symm]
theorem je_lstM {es : List Expr} {g : SA} {pos : Pos} (h : JA X T es g) : JE X T (.List es pos) (eLstM g) :=
  PE.weak (pe_lst h) fun σ H Q h => by
    obtain ⟨M, B, L, ρ, p, h⟩ := h
    refine ⟨M, B, L, ρ, p, (post.bind h).mono fun ws L1 M1 eA R x q vs rvs => ?_⟩
    obtain ⟨hl, q⟩ := q.guard
    have hl := of_decide_eq_true hl
    refine ⟨by rw [← rvs.length, ← sizeL_eq]; exact hl, fun a ha => ?_⟩
    exact new_place R eA ha (o := .lst ws) (h := .lst vs) (fun k => ⟨vs, upd_same, rvs.keeps k⟩) q
theorem seqS_dv {p : D} {v : V} {ys : List D} (h : seqS p = some ys) (d : DV K T M p v) : ∃ a vs, v = .ref a ∧ (SqL K M.H a vs ∨ SqT K M.H a vs) ∧ RVs K T M ys vs := by
  cases p with
  | tup xs => cases h; obtain ⟨a, vs, e, s1, r1⟩ := d.tup; exact ⟨a, vs, e, .inr s1, r1⟩
  | lst xs => cases h; obtain ⟨a, vs, e, s1, r1⟩ := d.lst; exact ⟨a, vs, e, .inl (SqL.of s1), r1⟩
  | scr xs => cases h; obtain ⟨a, vs, e, s1, r1⟩ := d.scr; exact ⟨a, vs, e, .inl s1, r1⟩
  | _ => cases h
theorem je_listM {e : Expr} {f : SE} {p pos : Pos} (hm : X.mg "list" = none) (ha : JE X T e f) (hg : Gl X "list" := by rfl) (hv : bootBuiltins "list" = some (.type "list") := by decide +kernel)
    (hs : starEach [e] X.env = [(false, eval e X.env)] := by rfl) (hpl : (backTo pos (starEach ([] : List Expr) X.env)).any (·.1) = false := by rfl) : JE X T (.Call (.Name "list" p) [e] [] pos) (eListM f) := by
  have hA : JA X T [e] (aCons f aNil) := ja_cons ha ja_nil (by rw [hs]; rfl)
  refine PE.weak (pe_callTy call_list_of hg hm hv hA (by decide) (by decide) (by rw [hs]; rfl) hpl) fun σ H Q h => ?_
  obtain ⟨M, B, L, ρ, p, h⟩ := h
  refine ⟨M, B, L, ρ, p, ?_⟩
  show post X.K T M B ((f B ρ L).bind fun x L1 => (aNil B ρ L1).bind fun xs L2 => Res.ok (x :: xs) L2) _
  unfold eListM at h
  have h := post.bind h
  cases e1 : f B ρ L with
  | exc _ _ _ => rw [e1] at h; exact h.elim
  | bad => rw [e1] at h; exact h.elim
  | ok w L1 =>
    rw [e1] at h
    intro M1 eA R x vs rvs
    obtain ⟨v, r, rfl, rv, rfl⟩ := rvs
    have q := h M1 eA R x
    obtain ⟨pd, ev, dv, q⟩ := q.view R eA rv
    obtain ⟨ys, es, q⟩ := q.opt
    obtain ⟨a, us, rfl, sq, ru⟩ := seqS_dv es dv
    exact ⟨a, us, rfl, sq, fun b hb => new_place R eA hb (o := .lst (ys.map .d)) (h := .lst us) (fun k => ⟨us, upd_same, RWs.ofD (RVs.keeps k _ _ ru)⟩) q⟩

/-! ### methods of lists -/
theorem lstAt_at {B L : Hs} {w : W} {v : V} {n : Nat} {ws : List W} (R : Rep K T M) (eA : M.A = B ++ L) (r : RW K T M w v) (h : lstAt B L w = some (n, ws)) :
    v = .ref (M.m (n + B.length)) ∧ M.A[n + B.length]? = some (.lst ws) ∧ ∃ vs, M.H (M.m (n + B.length)) = some (.lst vs) ∧ RWs K T M ws vs := by
  unfold lstAt at h
  split at h
  · rename_i k
    split at h
    · cases h
    · rename_i hb
      split at h
      · rename_i us e
        cases h
        have ek : k - B.length + B.length = k := by omega
        rw [ek]
        have e' : M.A[k]? = some (.lst ws) := by rw [eA, List.getElem?_append_right (by omega)]; exact e
        exact ⟨r.2, e', R.at_ k _ e'⟩
      · cases h
  · cases h
theorem lstAt_ty {B L : Hs} {w : W} {v : V} (R : Rep K T M) (eA : M.A = B ++ L) (r : RW K T M w v) (h : (lstAt B L w).isSome = true) : tyV K "list" v M.H := by
  cases e : lstAt B L w with
  | none => rw [e] at h; cases h
  | some x =>
    obtain ⟨n, ws⟩ := x
    obtain ⟨rfl, _, vs, h1, _⟩ := lstAt_at R eA r e
    exact .inl ⟨rfl, vs, SqL.of h1⟩
/-- a list's place is changed -/
theorem lst_put {B L : Hs} {n : Nat} {ws ws' : List W} {vs' : List V} {Q : Mem → Prop} (R : Rep K T M) (eA : M.A = B ++ L) (hn : M.A[n + B.length]? = some (.lst ws)) (r : RWs K T M ws' vs')
    (q : ∀ M', M'.A = B ++ L.set n (.lst ws') → Rep K T M' → Ext M M' → M'.H = upd M.H (M.m (n + B.length)) (.lst vs') → Q M') : Q { M with A := M.A.set (n + B.length) (.lst ws'), H := upd M.H (M.m (n + B.length)) (.lst vs') } := by
  have gg := place_put (K := K) (T := T) (o' := .lst ws') (h' := .lst vs') R hn rfl rfl (plain_lst _) fun M' em eS eA' eH E' => ⟨vs', by rw [eH]; exact upd_same, r.ext R E'⟩
  refine q _ ?_ gg.1 gg.2 rfl
  show M.A.set (n + B.length) _ = _
  rw [eA, List.set_append_right _ _ (by omega), Nat.add_sub_cancel]
theorem je_app {o e : Expr} {f g : SE} {apos cpos : Pos} (ho : JE X T o f) (he : JE X T e g) (hbase : attributeBase o "append" X.env (eval o X.env) = eval o X.env := by rfl)
    (hfew : ((backTo cpos (starEach [e] X.env)).all (fun x => !x.1) && (backToKw cpos (keywordEach [] X.env)).all (fun x => x.1.isSome)
      && decide ([e].length + ([] : List Keyword).length + (if ([] : List Keyword).isEmpty then 0 else 1) < 30)) = true := by rfl)
    (hline : (apos.endLine == cpos.line) = true := by rfl) (hs : starEach [e] X.env = (false, eval e X.env) :: starEach [] X.env := by rfl) (hplain : (backTo cpos (starEach [] X.env)).any (·.1) = false := by rfl) : JE X T (.Call (.Attribute o "append" apos) [e] [] cpos) (eApp f g) := by
  have hA : JA X T [e] (aCons g aNil) := ja_cons he ja_nil hs
  refine PE.weak (pe_bm PySem.F.plainAttrs_list PySem.F.slot_list_append PySem.F.type_list_append mt_append ho hA hbase hfew hline hs hplain) fun σ H Q h => ?_
  obtain ⟨M, B, L, ρ, p, h⟩ := h
  refine ⟨M, B, L, ρ, p, (post.bind h).mono fun w L1 M1 eA R x q v rv => ?_⟩
  obtain ⟨hl, q⟩ := q.guard
  refine ⟨lstAt_ty R eA rv hl, M1, B, L1, ρ, p.next eA R x, ?_⟩
  show post X.K T M1 B ((g B ρ L1).bind fun x L1 => (aNil B ρ L1).bind fun xs L2 => Res.ok (x :: xs) L2) _
  have q := post.bind q
  cases e1 : g B ρ L1 with
  | exc _ _ _ => rw [e1] at q; exact q.elim
  | bad => rw [e1] at q; exact q.elim
  | ok y L2 =>
    rw [e1] at q
    intro M2 eA2 R2 x2 vs rvs
    obtain ⟨u, r, rfl, ru, rfl⟩ := rvs
    have q := q M2 eA2 R2 x2
    dsimp only at q
    cases e2 : lstAt B L2 w with
    | none => rw [e2] at q; exact q.elim
    | some z =>
      obtain ⟨n, ws⟩ := z
      rw [e2] at q
      dsimp only at q
      split at q
      · rename_i hz
        obtain ⟨rfl, en, us, hu, rw'⟩ := lstAt_at R2 eA2 (rv.ext R x2) e2
        refine ⟨_, us, u, rfl, rfl, hu, by rw [← rw'.length, ← sizeL_eq]; exact hz, ?_⟩
        exact lst_put (Q := fun M' => Q .non M'.H) R2 eA2 en (ws' := ws ++ [y]) (rw'.append (es := [y]) ⟨u, [], rfl, ru, rfl⟩) fun M' a' R' x' _ => q M' a' R' x' .non rfl
      · exact q.elim
theorem je_ext {o e : Expr} {f g : SE} {apos cpos : Pos} (ho : JE X T o f) (he : JE X T e g) (hbase : attributeBase o "extend" X.env (eval o X.env) = eval o X.env := by rfl)
    (hfew : ((backTo cpos (starEach [e] X.env)).all (fun x => !x.1) && (backToKw cpos (keywordEach [] X.env)).all (fun x => x.1.isSome)
      && decide ([e].length + ([] : List Keyword).length + (if ([] : List Keyword).isEmpty then 0 else 1) < 30)) = true := by rfl)
    (hline : (apos.endLine == cpos.line) = true := by rfl) (hs : starEach [e] X.env = (false, eval e X.env) :: starEach [] X.env := by rfl) (hplain : (backTo cpos (starEach [] X.env)).any (·.1) = false := by rfl) : JE X T (.Call (.Attribute o "extend" apos) [e] [] cpos) (eExt f g) := by
  have hA : JA X T [e] (aCons g aNil) := ja_cons he ja_nil hs
  refine PE.weak (pe_bm PySem.F.plainAttrs_list PySem.F.slot_list_extend PySem.F.type_list_extend mt_extend ho hA hbase hfew hline hs hplain) fun σ H Q h => ?_
  obtain ⟨M, B, L, ρ, p, h⟩ := h
  refine ⟨M, B, L, ρ, p, (post.bind h).mono fun w L1 M1 eA R x q v rv => ?_⟩
  obtain ⟨hl, q⟩ := q.guard
  refine ⟨lstAt_ty R eA rv hl, M1, B, L1, ρ, p.next eA R x, ?_⟩
  show post X.K T M1 B ((g B ρ L1).bind fun x L1 => (aNil B ρ L1).bind fun xs L2 => Res.ok (x :: xs) L2) _
  have q := post.bind q
  cases e1 : g B ρ L1 with
  | exc _ _ _ => rw [e1] at q; exact q.elim
  | bad => rw [e1] at q; exact q.elim
  | ok y L2 =>
    rw [e1] at q
    intro M2 eA2 R2 x2 vs rvs
    obtain ⟨u, r, rfl, ru, rfl⟩ := rvs
    have q3 := q M2 eA2 R2 x2
    obtain ⟨pd, _, dv, q4⟩ := q3.view R2 eA2 ru
    obtain ⟨ys, ey, q⟩ := q4.opt
    clear q3 q4
    cases pd with
    | lst zs =>
      cases ey
      obtain ⟨b, bs, rfl, hb, rb⟩ := dv.lst
      cases e2 : lstAt B L2 w with
      | none => rw [e2] at q; exact q.elim
      | some z =>
        obtain ⟨n, ws⟩ := z
        rw [e2] at q
        dsimp only at q
        split at q
        · rename_i hz
          obtain ⟨rfl, en, us, hu, rw'⟩ := lstAt_at R2 eA2 (rv.ext R x2) e2
          refine ⟨_, b, us, bs, rfl, rfl, hu, hb, by rw [← rw'.length, ← rb.length, ← sizeL_eq]; exact hz, ?_⟩
          exact lst_put (Q := fun M' => Q .non M'.H) R2 eA2 en (rw'.append (RWs.ofD rb)) fun M' a' R' x' _ => q M' a' R' x' .non rfl
        · exact q.elim
    | _ => cases ey
theorem RWs.get : ∀ {ws : List W} {vs : List V} {i : Nat} {w : W}, RWs K T M ws vs → ws[i]? = some w → ∃ v, vs[i]? = some v ∧ RW K T M w v
  | [], vs, _, _, h, e => by simp at e
  | x :: xs, vs, 0, d, h, e => by
    obtain ⟨v, r, rfl, h1, h2⟩ := h
    simp at e; subst e
    exact ⟨v, rfl, h1⟩
  | x :: xs, vs, i + 1, d, h, e => by
    obtain ⟨v, r, rfl, h1, h2⟩ := h
    obtain ⟨u, e1, r1⟩ := RWs.get (i := i) (w := d) h2 (by simpa using e)
    exact ⟨u, by simpa using e1, r1⟩
theorem RWs.dropLast : ∀ {ws : List W} {vs : List V}, RWs K T M ws vs → RWs K T M ws.dropLast vs.dropLast
  | [], vs, h => by rw [show vs = [] from h]; exact rfl
  | [x], vs, h => by
    obtain ⟨v, r, rfl, h1, rfl⟩ := h
    exact rfl
  | x :: y :: xs, vs, h => by
    obtain ⟨v, r, rfl, h1, h2⟩ := h
    have ih := RWs.dropLast h2
    obtain ⟨u, r', rfl, _, _⟩ := h2
    exact ⟨v, _, rfl, h1, ih⟩
theorem RWs.listSet {w : W} {v : V} (r : RW K T M w v) : ∀ {ws : List W} {vs : List V} (i : Nat), RWs K T M ws vs → RWs K T M (ws.set i w) (vs.set i v)
  | [], vs, _, h => by rw [show vs = [] from h]; exact rfl
  | x :: xs, vs, 0, h => by
    obtain ⟨u, q, rfl, h1, h2⟩ := h
    exact ⟨v, q, rfl, r, h2⟩
  | x :: xs, vs, i + 1, h => by
    obtain ⟨u, q, rfl, h1, h2⟩ := h
    exact ⟨u, q.set i v, rfl, h1, RWs.listSet r i h2⟩
theorem je_pop {o : Expr} {f : SE} {apos cpos : Pos} (ho : JE X T o f) (hbase : attributeBase o "pop" X.env (eval o X.env) = eval o X.env := by rfl) (hline : (apos.endLine == cpos.line) = true := by rfl) : JE X T (.Call (.Attribute o "pop" apos) [] [] cpos) (ePop f) := by
  refine PE.weak (pe_bm0 PySem.F.plainAttrs_list PySem.F.slot_list_pop PySem.F.type_list_pop mt_pop ho hbase hline) fun σ H Q h => ?_
  obtain ⟨M, B, L, ρ, p, h⟩ := h
  refine ⟨M, B, L, ρ, p, (post.bind h).mono fun w L1 M1 eA R x q v rv => ?_⟩
  cases e2 : lstAt B L1 w with
  | none => rw [e2] at q; exact q.elim
  | some z =>
    obtain ⟨n, ws⟩ := z
    rw [e2] at q
    dsimp only at q
    cases e3 : ws[ws.length - 1]? with
    | none => rw [e3] at q; exact q.elim
    | some y =>
      rw [e3] at q
      refine ⟨lstAt_ty R eA rv (by rw [e2]; rfl), ?_⟩
      obtain ⟨rfl, en, us, hu, rw'⟩ := lstAt_at R eA rv e2
      obtain ⟨u, e4, ru⟩ := rw'.get e3
      refine ⟨_, us, u, rfl, rfl, hu, by rw [← rw'.length]; exact e4, ?_⟩
      exact lst_put (Q := fun M' => Q u M'.H) R eA en rw'.dropLast fun M' a' R' x' _ => q M' a' R' x' u (ru.ext R x')
/-! ### dicts with nested keys -/
mutual
theorem nk_ok : ∀ d : D, nkOk d = true → ∃ k, nk d = some k ∧ k.depth = dep d
  | .non, _ => ⟨_, rfl, rfl⟩
  | .bl _, _ => ⟨_, rfl, rfl⟩
  | .int _, _ => ⟨_, rfl, rfl⟩
  | .str _, _ => ⟨_, rfl, rfl⟩
  | .tup xs, h => by
    obtain ⟨ks, e, q⟩ := nks_ok xs h
    exact ⟨.tup ks, by unfold nk; rw [e], by show NestedKey.depthAll ks + 1 = deps xs + 1; rw [q]⟩
  | .lst _, h => by cases h
  | .dct _ _, h => by cases h
  | .set _, h => by cases h
  | .obj _ _ _, h => by cases h
  | .exn _ _ _, h => by cases h
  | .dcn _ _, h => by cases h
  | .fn _, h => by cases h
  | .scr _, h => by cases h
theorem nks_ok : ∀ xs : List D, nkOks xs = true → ∃ ks, nks xs = some ks ∧ NestedKey.depthAll ks = deps xs
  | [], _ => ⟨[], rfl, rfl⟩
  | x :: xs, h => by
    have h : (nkOk x && nkOks xs) = true := h
    rw [Bool.and_eq_true] at h
    obtain ⟨k, e1, q1⟩ := nk_ok x h.1
    obtain ⟨ks, e2, q2⟩ := nks_ok xs h.2
    exact ⟨k :: ks, by unfold nks; rw [e1, e2], by show max _ _ = max _ _; rw [q1, q2]⟩
end
theorem isNK_ok {d : D} (h : isNK d = true) : ∃ ks, nk d = some (.tup ks) ∧ (NestedKey.tup ks).depth ≤ 8 := by
  cases d with
  | tup xs =>
    have h : (nkOks xs && decide (dep (.tup xs) ≤ 8)) = true := h
    rw [Bool.and_eq_true, decide_eq_true_eq] at h
    obtain ⟨ks, e, q⟩ := nks_ok xs h.1
    refine ⟨ks, by unfold nk; rw [e], ?_⟩
    show NestedKey.depthAll ks + 1 ≤ 8
    rw [q]
    exact h.2
  | _ => cases h
theorem str_inj (s t : List Nat) : decide ((⟨s.toArray⟩ : Str) = ⟨t.toArray⟩) = decide (s = t) := by
  by_cases h : s = t
  · rw [h, decide_eq_true rfl, decide_eq_true rfl]
  · rw [decide_eq_false h, decide_eq_false]
    intro z
    injection z with z
    exact h (by simpa using congrArg Array.toList z)
mutual
theorem eqD_nk : ∀ (a b : D) (ka kb : NestedKey), nk a = some ka → nk b = some kb → eqD a b = NestedKey.beq ka kb
  | .non, b, _, _, ea, eb => by cases ea; cases b <;> first | (cases eb; done) | (cases eb; rfl) | (unfold nk at eb; split at eb; (cases eb; rfl); cases eb)
  | .bl p, b, _, _, ea, eb => by
    cases ea
    cases b with
    | bl q => cases eb; cases p <;> cases q <;> rfl
    | int j => cases eb; show ((if p = true then 1 else 0) == j) = decide ((if p = true then (1 : Int) else 0) = j); rw [Bool.eq_iff_iff]; simp
    | non => cases eb; rfl
    | str s => cases eb; rfl
    | tup xs => unfold nk at eb; split at eb; (cases eb; rfl); cases eb
    | _ => cases eb
  | .int i, b, _, _, ea, eb => by
    cases ea
    cases b with
    | bl q => cases eb; show (i == (if q = true then 1 else 0)) = decide (i = (if q = true then (1 : Int) else 0)); rw [Bool.eq_iff_iff]; simp
    | int j => cases eb; show (i == j) = decide (i = j); rw [Bool.eq_iff_iff]; simp
    | non => cases eb; rfl
    | str s => cases eb; rfl
    | tup xs => unfold nk at eb; split at eb; (cases eb; rfl); cases eb
    | _ => cases eb
  | .str s, b, _, _, ea, eb => by
    cases ea
    cases b with
    | bl q => cases eb; rfl
    | int j => cases eb; rfl
    | non => cases eb; rfl
    | str t => cases eb; exact (str_inj s t).symm
    | tup xs => unfold nk at eb; split at eb; (cases eb; rfl); cases eb
    | _ => cases eb
  | .tup xs, b, _, _, ea, eb => by
    unfold nk at ea
    cases ex : nks xs with
    | none => rw [ex] at ea; cases ea
    | some ks =>
      rw [ex] at ea
      cases ea
      cases b with
      | bl q => cases eb; rfl
      | int j => cases eb; rfl
      | non => cases eb; rfl
      | str t => cases eb; rfl
      | tup ys =>
        unfold nk at eb
        cases ey : nks ys with
        | none => rw [ey] at eb; cases eb
        | some js =>
          rw [ey] at eb
          cases eb
          exact eqDs_nk xs ys ks js ex ey
      | _ => cases eb
  | .lst _, _, _, _, ea, _ => by cases ea
  | .dct _ _, _, _, _, ea, _ => by cases ea
  | .set _, _, _, _, ea, _ => by cases ea
  | .obj _ _ _, _, _, _, ea, _ => by cases ea
  | .exn _ _ _, _, _, _, ea, _ => by cases ea
  | .dcn _ _, _, _, _, ea, _ => by cases ea
  | .fn _, _, _, _, ea, _ => by cases ea
  | .scr _, _, _, _, ea, _ => by cases ea
theorem eqDs_nk : ∀ (xs ys : List D) (ks js : List NestedKey), nks xs = some ks → nks ys = some js → eqDs xs ys = NestedKey.beqAll ks js
  | [], [], _, _, ea, eb => by cases ea; cases eb; rfl
  | [], y :: ys, _, _, ea, eb => by
    cases ea
    unfold nks at eb
    split at eb
    · cases eb; rfl
    · cases eb
  | x :: xs, [], _, _, ea, eb => by
    cases eb
    unfold nks at ea
    split at ea
    · cases ea; rfl
    · cases ea
  | x :: xs, y :: ys, _, _, ea, eb => by
    unfold nks at ea eb
    split at ea
    · rename_i k ks e1 e2
      split at eb
      · rename_i j js f1 f2
        cases ea
        cases eb
        show (eqD x y && eqDs xs ys) = (NestedKey.beq k j && NestedKey.beqAll ks js)
        rw [eqD_nk x y k j e1 f1, eqDs_nk xs ys ks js e2 f2]
      · cases eb
    · cases ea
end
theorem eqD_dec {a b : D} {ka kb : NestedKey} (ha : nk a = some ka) (hb : nk b = some kb) : eqD a b = decide (ka = kb) := by rw [NestedKey.decide_eq]; exact eqD_nk a b ka kb ha hb
section
variable {pins : List (Addr × Obj)} {σ : L2.St} {s : Shared}
mutual
theorem nest_is (I : Inv X pins σ M.H s) : ∀ (d : D) (v : V) (u : Value) (k : NestedKey), RV X.K T M d v → RelV v u → nk d = some k → NestedIs s.heap k u
  | .non, v, u, k, r, rl, e => by cases e; rw [show v = .non from r] at rl; rw [show u = Value.none from rl]; exact .none
  | .bl b, v, u, k, r, rl, e => by cases e; rw [show v = .bl b from r] at rl; rw [show u = Value.bool b from rl]; exact .bool rfl
  | .int i, v, u, k, r, rl, e => by cases e; rw [show v = .int i from r] at rl; obtain ⟨t, rfl⟩ := rl; exact .int _ _
  | .str x, v, u, k, r, rl, e => by cases e; rw [show v = .str ⟨x.toArray⟩ from r] at rl; obtain ⟨t, rfl⟩ := rl; exact .text _ _
  | .tup xs, v, u, k, r, rl, e => by
    obtain ⟨a, vs, rfl, sq, rv⟩ := r
    rw [show u = Value.ref a from rl]
    unfold nk at e
    cases ex : nks xs with
    | none => rw [ex] at e; cases e
    | some ks =>
      rw [ex] at e
      cases e
      obtain ⟨its, rvl, ⟨o, ho, hc, n, hd⟩, _⟩ := I.tuple sq.1
      exact .tup ho hc hd (by simpa using nest_all I xs vs its ks rv rvl ex)
  | .lst _, _, _, _, _, _, e => by cases e
  | .dct _ _, _, _, _, _, _, e => by cases e
  | .set _, _, _, _, _, _, e => by cases e
  | .obj _ _ _, _, _, _, _, _, e => by cases e
  | .exn _ _ _, _, _, _, _, _, e => by cases e
  | .dcn _ _, _, _, _, _, _, e => by cases e
  | .fn _, _, _, _, _, _, e => by cases e
  | .scr _, _, _, _, _, _, e => by cases e
theorem nest_all (I : Inv X pins σ M.H s) : ∀ (ds : List D) (vs : List V) (us : List Value) (ks : List NestedKey), RVs X.K T M ds vs → Vals vs us → nks ds = some ks → NestedAll s.heap ks us
  | [], vs, us, ks, r, rl, e => by cases e; rw [show vs = [] from r] at rl; cases rl; exact .nil
  | x :: xs, vs, us, ks, r, rl, e => by
    obtain ⟨v, rr, rfl, r1, r2⟩ := r
    cases rl with
    | cons q1 q2 =>
      unfold nks at e
      split at e
      · rename_i k ks' e1 e2
        cases e
        exact .cons (nest_is I x v _ k r1 q1 e1) (nest_all I xs rr _ ks' r2 q2 e2)
      · cases e
end
/-- the dict's object -/
theorem dn_of {a : Addr} {kvs : List NV} {ks : List D} (I : Inv X pins σ M.H s) (e : M.H a = some (DN X.prog X.w a kvs)) (hk : ks.all isNK = true) (hn : ks.map nk = kvs.map (fun p => some p.1)) (hr : RVs X.K T M ks (kvs.map fun p => V.ref p.2.1)) :
    kvs.length ≤ sizeLine ∧ (a == sysModules) = false ∧ ∃ xs, Paired NR kvs xs ∧ s.heap.DictOfH (nestedKind X.prog X.w) a xs := by
  obtain ⟨⟨z, y, xs, r, o, es, ep, h1, h2, h3, h4, h5⟩, w0⟩ := (show ObjOk X.prog X.w M.H s.heap a (.ext (DNp X.prog X.w a kvs)) from I.hok a _ e)
  refine ⟨z, y, xs, r, o, es, ep, h1, h2, h3, h4, ?_, h5⟩
  clear h4 h5 z e w0
  induction r generalizing ks with
  | nil => intro x hx; cases hx
  | @cons p q ps qs hq t ih =>
    cases ks with
    | nil => cases hn
    | cons d ds =>
      obtain ⟨v, rr, ev, r1, r2⟩ := hr
      have hk : (isNK d && ds.all isNK) = true := hk
      rw [Bool.and_eq_true] at hk
      have n1 : nk d = some p.1 := (List.cons.inj hn).1
      have n2 : ds.map nk = ps.map (fun p => some p.1) := (List.cons.inj hn).2
      have v1 : V.ref p.2.1 = v := (List.cons.inj ev).1
      have v2 : ps.map (fun p => V.ref p.2.1) = rr := (List.cons.inj ev).2
      subst v1 v2
      intro x hx
      rcases List.mem_cons.mp hx with rfl | hx
      · obtain ⟨kk, e1, e2⟩ := isNK_ok hk.1
        rw [n1] at e1
        have e1 := Option.some.inj e1
        refine ⟨nest_is I d _ _ _ r1 (by rw [hq.2.1]; exact rfl) (by rw [n1, hq.1]), ?_⟩
        rw [← hq.1, e1]
        exact e2
      · exact ih hk.2 n2 r2 x hx
end
def putN (kvs : List NV) (k : NestedKey) (b : Addr) (v : V) : List NV := if (kvs.any fun p => decide (p.1 = k)) = true then kvs.map (fun p => if p.1 = k then (p.1, p.2.1, v) else p) else kvs ++ [(k, b, v)]
theorem nr_any {kvs : List NV} {xs : List (NestedKey × Addr × Value)} (r : Paired NR kvs xs) (k : NestedKey) : (atKey xs k).isSome = kvs.any fun p => decide (p.1 = k) := by
  unfold atKey
  rw [Option.isSome_map]
  induction r with
  | nil => rfl
  | @cons p q ps qs hq t ih =>
    rw [List.any_cons, List.find?_cons, hq.1]
    by_cases h : q.1 = k
    · rw [decide_eq_true h]; rfl
    · rw [decide_eq_false h]; exact ih
theorem nr_map {kvs : List NV} {xs : List (NestedKey × Addr × Value)} (r : Paired NR kvs xs) (k : NestedKey) {v : V} {u : Value} (rv : RelV v u) : Paired NR (kvs.map fun p => if p.1 = k then (p.1, p.2.1, v) else p) (xs.map (PySem.putAt k u)) := by
  induction r with
  | nil => exact .nil
  | @cons p q ps qs hq t ih =>
    refine .cons ?_ ih
    unfold PySem.putAt
    show NR (if p.1 = k then (p.1, p.2.1, v) else p) _
    by_cases h : q.1 = k
    · rw [if_pos h, if_pos (hq.1.trans h)]; exact ⟨hq.1, hq.2.1, rv⟩
    · rw [if_neg h, if_neg (fun z => h (hq.1.symm.trans z))]; exact hq
theorem nr_put {kvs : List NV} {xs : List (NestedKey × Addr × Value)} (r : Paired NR kvs xs) (k : NestedKey) (b : Addr) {v : V} {u : Value} (rv : RelV v u) : Paired NR (putN kvs k b v) (storedH xs k b u) := by
  unfold putN storedH
  rw [nr_any r k]
  split
  · exact nr_map r k rv
  · exact Paired.snoc r ⟨rfl, rfl, rv⟩
theorem length_putN (kvs : List NV) (k : NestedKey) (b : Addr) (v : V) : (putN kvs k b v).length ≤ kvs.length + 1 := by
  unfold putN
  split
  · rw [List.length_map]; omega
  · rw [List.length_append]; exact Nat.le_refl _
theorem nkIn_ok {k : D} {kk : NestedKey} (hk : nk k = some kk) : ∀ {ks : List D} {kvs : List NV}, ks.map nk = kvs.map (fun p => some p.1) → nkIn k ks = kvs.any fun p => decide (p.1 = kk)
  | [], [], _ => rfl
  | [], _ :: _, e => by cases e
  | _ :: _, [], e => by cases e
  | d :: ks, p :: kvs, e => by
    have e1 : nk d = some p.1 := (List.cons.inj e).1
    have e2 : ks.map nk = kvs.map (fun p => some p.1) := (List.cons.inj e).2
    show (eqD d k || nkIn k ks) = (decide (p.1 = kk) || kvs.any _)
    rw [eqD_dec e1 hk, nkIn_ok hk e2]
theorem nkKs_all {k : D} {ks : List D} (hk : isNK k = true) (h : ks.all isNK = true) : (nkKs k ks).all isNK = true := by
  unfold nkKs
  split
  · exact h
  · rw [List.all_append, h]
    show (true && (isNK k && true)) = true
    rw [hk]; rfl
theorem nkKs_nk {k : D} {kk : NestedKey} {b : Addr} {v : V} (hk : nk k = some kk) {ks : List D} {kvs : List NV} (e : ks.map nk = kvs.map (fun p => some p.1)) : (nkKs k ks).map nk = (putN kvs kk b v).map (fun p => some p.1) := by
  unfold nkKs putN
  rw [nkIn_ok hk e]
  split
  · rw [e, List.map_map]
    congr 1
    funext p
    show some p.1 = some (if p.1 = kk then (p.1, p.2.1, v) else p).1
    split <;> rfl
  · rw [List.map_append, List.map_append, e]
    show _ ++ [nk k] = _ ++ [some kk]
    rw [hk]
theorem nkKs_rv {k : D} {kk : NestedKey} {b : Addr} {v : V} (hk : nk k = some kk) (hb : RV K T M k (.ref b)) {ks : List D} {kvs : List NV} (e : ks.map nk = kvs.map (fun p => some p.1)) (r : RVs K T M ks (kvs.map fun p => V.ref p.2.1)) :
    RVs K T M (nkKs k ks) ((putN kvs kk b v).map fun p => V.ref p.2.1) := by
  unfold nkKs putN
  rw [nkIn_ok hk e]
  split
  · have : (kvs.map fun p => if p.1 = kk then (p.1, p.2.1, v) else p).map (fun p : NV => V.ref p.2.1) = kvs.map fun p => V.ref p.2.1 := by
      rw [List.map_map]
      congr 1
      funext p
      show V.ref (if p.1 = kk then (p.1, p.2.1, v) else p).2.1 = _
      split <;> rfl
    rw [this]
    exact r
  · rw [List.map_append]
    exact r.append ⟨_, [], rfl, hb, rfl⟩
theorem nkVs_map {k : D} {kk : NestedKey} {w : W} {v : V} (hk : nk k = some kk) (hw : RW K T M w v) {ks : List D} {ws : List W} {kvs : List NV} (e : ks.map nk = kvs.map (fun p => some p.1)) (r : RWs K T M ws (kvs.map (·.2.2))) :
    RWs K T M (List.zipWith (fun a y => if eqD a k = true then w else y) ks ws) ((kvs.map fun p => if p.1 = kk then (p.1, p.2.1, v) else p).map (·.2.2)) := by
  induction kvs generalizing ks ws with
  | nil =>
    cases ks with
    | nil => exact rfl
    | cons _ _ => cases e
  | cons p kvs ih =>
    cases ks with
    | nil => cases e
    | cons d ks =>
      cases ws with
      | nil => cases (show p.2.2 :: kvs.map (·.2.2) = [] from r)
      | cons y ys =>
        obtain ⟨v1, r1, q, h1, h2⟩ := r
        have q : p.2.2 :: kvs.map (·.2.2) = v1 :: r1 := q
        cases q
        have e1 : nk d = some p.1 := (List.cons.inj e).1
        refine ⟨(if p.1 = kk then (p.1, p.2.1, v) else p).2.2, _, rfl, ?_, ih (List.cons.inj e).2 h2⟩
        show RW K T M (if eqD d k = true then w else y) _
        rw [eqD_dec e1 hk]
        by_cases h : p.1 = kk
        · rw [if_pos h, if_pos (decide_eq_true h)]; exact hw
        · rw [if_neg h, decide_eq_false h, if_neg Bool.false_ne_true]; exact h1
theorem nkVs_rw {k : D} {kk : NestedKey} {b : Addr} {w : W} {v : V} (hk : nk k = some kk) (hw : RW K T M w v) {ks : List D} {ws : List W} {kvs : List NV} (e : ks.map nk = kvs.map (fun p => some p.1)) (r : RWs K T M ws (kvs.map (·.2.2))) :
    RWs K T M (nkVs k w ks ws) ((putN kvs kk b v).map (·.2.2)) := by
  unfold nkVs putN
  rw [nkIn_ok hk e]
  split
  · exact nkVs_map hk hw e r
  · rw [List.map_append]
    exact r.append ⟨v, [], rfl, hw, rfl⟩
theorem plain_DN {P : Program} {w : World} {a : Addr} {kvs : List NV} : Plain (DN P w a kvs) := ⟨(fun _ z => by unfold DN at z; cases z), (fun _ _ z => by unfold DN at z; cases z)⟩
theorem dn_ok {P : Program} {w : World} {H : Hp} {h : Heap} {a : Addr} {kvs : List NV} (p : DNp P w a kvs h) : ObjOk P w H h a (DN P w a kvs) := by
  refine ⟨p, ?_, fun h1 h2 q st => ?_⟩
  · obtain ⟨_, _, _, _, o, _, _, e, _⟩ := p
    exact ⟨o, e⟩
  · obtain ⟨z, y, xs, r, o, es, ep, e, t⟩ := q
    exact ⟨z, y, xs, r, o, es, ep, st o e, t⟩
theorem room9 {A : Around} {P : Program} {w : World} (hu : A.units + 10 < cLine) : (nestedKind P w).room A.in1 := by
  show A.in1.units + 8 < cLine
  rw [Around.in1_units]
  omega
/-- {} -/
theorem je_dctN {pos : Pos} (tw : T.w = X.w) (tp : T.P = X.prog) : JE X T (.Dict [] [] pos) eDctN := by
  have base : PE X (.Dict [] [] pos) (fun _ H Q => ∀ p, H p = none → Q (.ref p) (upd H p (DN X.prog X.w p []))) := ⟨fun pins s σ H Q I h =>
    wpAny_Dict_empty ⟨.ref s.heap.objs.size, _, I.laid (a := s.heap.objs.size) (o := DN X.prog X.w s.heap.objs.size []) (t' := s.toks) (fun _ _ q => Heap.get?_push_of_some _ q) (Nat.le_refl _)
      (dn_ok ⟨Nat.zero_le _, beq_eq_false_iff_ne.mpr (Ne.symm (Nat.ne_of_lt I.big)), [], .nil, _, #[], 0, Heap.get?_push_size _ rfl, ⟨rfl, rfl, rfl⟩, rfl, rfl, List.nodup_nil⟩), rfl, h _ (I.hok.fresh (Nat.le_refl _))⟩⟩
  refine PE.weak base fun σ H Q h p hp => ?_
  obtain ⟨M, B, L, ρ, pt, h⟩ := h
  have eH := pt.eH
  subst eH
  exact new_place pt.rep pt.eA hp (o := .dcn [] []) (h := DN X.prog X.w p []) (fun k => ⟨[], by rw [tw, tp]; exact upd_same, rfl, rfl, rfl, rfl⟩) h
/-- x in d, by values -/
def rInN (K : PySem.W.Frag) (T : Tb) (neg : Bool) : R2 := fun x y H Q => ∃ M p n ks ws, M.H = H ∧ Rep K T M ∧ DV K T M p x ∧ y = .ref (M.m n) ∧ M.A[n]? = some (.dcn ks ws) ∧ isNK p = true ∧ Q (.bl (if neg = true then !nkIn p ks else nkIn p ks)) H
theorem dn_rv {p : D} {x : V} (h : isNK p = true) (d : DV K T M p x) : RV K T M p x := by
  cases p with
  | tup xs => exact d.rv (fun _ z => by cases z) (fun _ _ z => by cases z)
  | _ => cases h
theorem op_inN (tw : T.w = X.w) (tp : T.P = X.prog) (hu : X.A.units + 10 < cLine) : OpR X (compareOp .In) (rInN X.K T false) := by
  intro pins s σ H x y v u Q I rx ry h
  obtain ⟨M, p, n, ks, ws, rfl, R, d, rfl, en, hk, q⟩ := h
  obtain ⟨kvs, e1, e2, e3, e4, e5⟩ := R.at_ n _ en
  rw [tw, tp] at e1
  obtain ⟨kk, k1, k2⟩ := isNK_ok hk
  have rp := dn_rv hk d
  obtain ⟨z, hd, xs, rel, dd⟩ := dn_of I e1 e2 e3 e4
  rw [show u = Value.ref (M.m n) from ry]
  cases p with
  | tup ys =>
    obtain ⟨a, vs, rfl, sq, rv⟩ := rp
    rw [show v = Value.ref a from rx]
    have ki := nest_is I (.tup ys) _ _ _ ⟨a, vs, rfl, sq, rv⟩ (show RelV (.ref a) (.ref a) from rfl) k1
    refine wpAny_in_heap (room9 hu) ⟨ki, k2⟩ hd dd ?_
    rw [nr_any rel, ← nkIn_ok k1 e3]
    exact ⟨.bl _, M.H, I.tok _, rfl, q⟩
  | _ => cases hk
theorem op_notInN (tw : T.w = X.w) (tp : T.P = X.prog) (hu : X.A.units + 10 < cLine) : OpR X (compareOp .NotIn) (rInN X.K T true) := by
  intro pins s σ H x y v u Q I rx ry h
  obtain ⟨M, p, n, ks, ws, rfl, R, d, rfl, en, hk, q⟩ := h
  obtain ⟨kvs, e1, e2, e3, e4, e5⟩ := R.at_ n _ en
  rw [tw, tp] at e1
  obtain ⟨kk, k1, k2⟩ := isNK_ok hk
  have rp := dn_rv hk d
  obtain ⟨z, hd, xs, rel, dd⟩ := dn_of I e1 e2 e3 e4
  rw [show u = Value.ref (M.m n) from ry]
  cases p with
  | tup ys =>
    obtain ⟨a, vs, rfl, sq, rv⟩ := rp
    rw [show v = Value.ref a from rx]
    have ki := nest_is I (.tup ys) _ _ _ ⟨a, vs, rfl, sq, rv⟩ (show RelV (.ref a) (.ref a) from rfl) k1
    refine wpAny_notIn_heap (room9 hu) ⟨ki, k2⟩ hd dd ?_
    rw [nr_any rel, ← nkIn_ok k1 e3]
    exact ⟨.bl _, M.H, I.tok _, rfl, q⟩
  | _ => cases hk
theorem rd_inN {neg : Bool} {fa fb : SE} {σ : L2.St} {H : Hp} {Q : VK} (h : rE K T (eInN neg fa fb) σ H Q) : tOp (rInN K T neg) (rE K T fa) (rE K T fb) σ H Q := by
  obtain ⟨M, B, L, ρ, p, h⟩ := h
  refine ⟨M, B, L, ρ, p, (post.bind h).mono fun w L1 M1 eA R x q v rv => ?_⟩
  refine ⟨M1, B, L1, ρ, p.next eA R x, (post.bind q).mono fun w2 L2 M2 eA2 R2 x2 q2 v2 rv2 => ?_⟩
  obtain ⟨pd, e1, d1, q3⟩ := q2.view R2 eA2 (rv.ext R x2)
  cases w2 with
  | d _ => exact q3.elim
  | ref n =>
    dsimp only at q3
    unfold look at q3
    rw [← eA2] at q3
    cases e2 : M2.A[n]? with
    | none => rw [e2] at q3; exact q3.elim
    | some o =>
      rw [e2] at q3
      cases o with
      | dcn ks ws =>
        dsimp only at q3
        by_cases hk : isNK pd = true
        · rw [if_pos hk] at q3
          exact ⟨M2, pd, n, ks, ws, rfl, R2, d1, rv2.2, e2, hk, q3.here eA2 R2 _ rfl⟩
        · rw [if_neg hk] at q3; exact q3.elim
      | _ => exact q3.elim
theorem eInN_bool {neg : Bool} {fa fb : SE} : ∀ B ρ L w L', eInN neg fa fb B ρ L = .ok w L' → ∃ k, w = .d (.bl k) := fun B ρ L w L' h => by
  obtain ⟨x, L1, e1, h⟩ := bindI h
  obtain ⟨y, L2, e2, h⟩ := bindI h
  obtain ⟨p, L3, e3, h⟩ := bindI h
  split at h
  · split at h
    · split at h
      · cases h; exact ⟨_, rfl⟩
      · cases h
    · cases h
  · cases h
theorem je_inNf {a b : Expr} {fa fb : SE} {pos : Pos} (tw : T.w = X.w) (tp : T.P = X.prog) (hu : X.A.units + 10 < cLine) (ha : JE X T a fa) (hb : JE X T b fb) (hm : behindInMarks .In b = false := by first | exact nomark _ | rfl) : JE X T (.Compare a [.In] [b] pos) (eInN false fa fb) :=
  PE.weak (pe_cmpR (op_inN tw tp hu) ha hb hm) fun σ H Q h => rd_inN h
theorem je_inNt {a b : Expr} {fa fb : SE} {pos : Pos} (tw : T.w = X.w) (tp : T.P = X.prog) (hu : X.A.units + 10 < cLine) (ha : JE X T a fa) (hb : JE X T b fb) (hm : behindInMarks .NotIn b = false := by first | exact nomark _ | rfl) : JE X T (.Compare a [.NotIn] [b] pos) (eInN true fa fb) :=
  PE.weak (pe_cmpR (op_notInN tw tp hu) ha hb hm) fun σ H Q h => rd_inN h
theorem jt_inNf {a b : Expr} {fa fb : SE} {pos : Pos} (tw : T.w = X.w) (tp : T.P = X.prog) (hu : X.A.units + 10 < cLine) (ha : JE X T a fa) (hb : JE X T b fb) (hm : behindInMarks .In b = false := by first | exact nomark _ | rfl) : JT X T (.Compare a [.In] [b] pos) (tE (eInN false fa fb)) :=
  PT.weak (pt_cmpR (op_inN tw tp hu) ha hb hm) fun σ H Q h => rd_test (fun σ H Q h => rd_inN h) h eInN_bool
theorem jt_inNt {a b : Expr} {fa fb : SE} {pos : Pos} (tw : T.w = X.w) (tp : T.P = X.prog) (hu : X.A.units + 10 < cLine) (ha : JE X T a fa) (hb : JE X T b fb) (hm : behindInMarks .NotIn b = false := by first | exact nomark _ | rfl) : JT X T (.Compare a [.NotIn] [b] pos) (tE (eInN true fa fb)) :=
  PT.weak (pt_cmpR (op_notInN tw tp hu) ha hb hm) fun σ H Q h => rd_test (fun σ H Q h => rd_inN h) h eInN_bool
/-! ### o[k] = v -/
def rPut (K : PySem.W.Frag) (T : Tb) : TSet := fun o i v H Q => ∃ M B L x k w L', M.H = H ∧ M.A = B ++ L ∧ Rep K T M ∧ RW K T M x o ∧ DV K T M k i ∧ RW K T M w v ∧ putIn B L x k w = some L' ∧ ∀ M', M'.A = B ++ L' → Rep K T M' → Ext M M' → Q M'.H
theorem set_put (tw : T.w = X.w) (tp : T.P = X.prog) (hu : X.A.units + 10 < cLine) : PSet X (rPut X.K T) := by
  intro pins s σ H o i v ov iv u Q I ro ri rv h
  obtain ⟨M, B, L, x, k, w, L', rfl, eA, R, rx, dk, rw', ep, q⟩ := h
  unfold putIn at ep
  split at ep
  · rename_i n
    split at ep
    · cases ep
    · rename_i hb
      have at_ : ∀ ob, L[n - B.length]? = some ob → M.A[n]? = some ob := fun ob e => by rw [eA, List.getElem?_append_right (by omega)]; exact e
      have seta : ∀ ob, M.A.set n ob = B ++ L.set (n - B.length) ob := fun ob => by rw [eA, List.set_append_right _ _ (by omega)]
      split at ep
      · rename_i ws en
        split at ep
        · rename_i j
          split at ep
          · rename_i m em
            cases ep
            obtain ⟨vs, h1, h2⟩ := R.at_ n _ (at_ _ en)
            have gg := place_put (K := X.K) (T := T) (o' := .lst (ws.set m w)) (h' := .lst (vs.set m v)) R (at_ _ en) rfl rfl (plain_lst _) fun M' _ _ eA' eH E' => ⟨vs.set m v, by rw [eH]; exact upd_same, RWs.listSet (rw'.ext R E') m (h2.ext R E')⟩
            refine set_list pins s σ M.H o i v ov iv u Q I ro ri rv ⟨M.m n, vs, j, m, rx.2, dk.int, h1, ?_, q _ (seta _) gg.1 gg.2⟩
            rw [← h2.length]
            exact em
          · cases ep
        · cases ep
      · rename_i ks ws en
        split at ep
        · rename_i hk
          cases ep
          obtain ⟨kk, e1⟩ := keyD_ok hk.1
          have e2 := keyD_dv e1 dk
          obtain ⟨kvs, h1, h2, h3⟩ := R.at_ n _ (at_ _ en)
          have lk : kvs.length = ks.length := by simpa using (congrArg List.length h2).symm
          have gg := place_put (K := X.K) (T := T) (o' := .dct (putKs k ks) (putVs k w ks ws)) (h' := .dK (putK kvs kk v)) R (at_ _ en) rfl rfl (plain_dK _) fun M' _ _ eA' eH E' => ⟨putK kvs kk v, by rw [eH]; exact upd_same, putKs_ok e1 h2, putVs_ok e1 (rw'.ext R E') h2 (h3.ext R E')⟩
          refine set_dict (by omega) pins s σ M.H o i v ov iv u Q I ro ri rv ⟨M.m n, upd M.H (M.m n) (.dK (putK kvs kk v)), rx.2, ?_, q _ (seta _) gg.1 gg.2⟩
          rw [e2]
          exact DPut.k h1 (by rw [lk, ← sizeL_eq]; exact hk.2)
        · cases ep
      · rename_i ks ws en
        split at ep
        · rename_i hk
          cases ep
          obtain ⟨kk, k1, k2⟩ := isNK_ok hk.1
          have rp := dn_rv hk.1 dk
          obtain ⟨kvs, e1, e2, e3, e4, e5⟩ := R.at_ n _ (at_ _ en)
          have e1' : M.H (M.m n) = some (DN X.prog X.w (M.m n) kvs) := by rw [← tw, ← tp]; exact e1
          obtain ⟨z, hd, xs, rel, dd⟩ := dn_of I e1' e2 e3 e4
          have lk : kvs.length = ks.length := by simpa using (congrArg List.length e3).symm
          rw [rx.2] at ro
          rw [show ov = Value.ref (M.m n) from ro]
          cases k with
          | tup ys =>
            obtain ⟨b, vs, rfl, sq, rvs⟩ := rp
            rw [show iv = Value.ref b from ri]
            have rb : RV X.K T M (.tup ys) (.ref b) := ⟨b, vs, rfl, sq, rvs⟩
            have ki := nest_is I (.tup ys) _ _ _ rb (show RelV (.ref b) (.ref b) from rfl) k1
            have hz : xs.length ≤ sizeLine := by rw [← Paired.length rel]; exact z
            have gg := place_put (K := X.K) (T := T) (o' := .dcn (nkKs (.tup ys) ks) (nkVs (.tup ys) w ks ws)) (h' := DN X.prog X.w (M.m n) (putN kvs (.tup kk) b v)) R (at_ _ en) rfl rfl plain_DN
              fun M' _ _ eA' eH E' => ⟨putN kvs (.tup kk) b v, by rw [eH, tw, tp]; exact upd_same, nkKs_all hk.1 e2, nkKs_nk k1 e3, nkKs_rv k1 (RV.ext R E' _ _ rb) e3 (RVs.ext R E' _ _ e4), nkVs_rw k1 (rw'.ext R E') e3 (e5.ext R E')⟩
            refine wpAny_setItem_heap (hsz := hz) (room9 hu) ⟨ki, k2⟩ dd fun h' dd' hs => ?_
            obtain ⟨qo, es, epp, hq, h2, h3, h4, _, h5⟩ := dd'
            refine ⟨_, d_write I (by rw [e1']; exact True.intro) hs ⟨qo, hq⟩ (dn_ok ⟨?_, hd, _, nr_put rel (.tup kk) b rv, qo, es, epp, hq, h2, h3, h4, h5⟩), q _ (seta _) gg.1 gg.2⟩
            have l1 := length_putN kvs (.tup kk) b v
            have l2 := hk.2
            rw [← sizeL_eq]
            omega
          | _ => cases hk.1
        · cases ep
      · cases ep
  · cases ep
theorem jg_item {o i : Expr} {f g : SE} {pos : Pos} (tw : T.w = X.w) (tp : T.P = X.prog) (hu : X.A.units + 10 < cLine) (ho : JE X T o f) (hi : JE X T i g)
    (ha : ∀ v, assign (.Subscript o i pos) X.env v = (do
      let ov ← holding [v] (eval o X.env)
      let iv ← holding [v, ov] (eval i X.env)
      standAt pos
      holding [v, ov, iv] (setItem ov iv v)
      release [v, ov, iv] []) := by intro _; rfl) : JG X T (.Subscript o i pos) (gItem f g) [] :=
  PG.weak (pg_sub ho hi (set_put tw tp hu) ha) fun v σ H Q h => by
    obtain ⟨M, B, L, ρ, w, p, rw', h⟩ := h
    refine ⟨M, B, L, ρ, p, (post.bind h).mono fun x L1 M1 eA R x1 q u ru => ?_⟩
    refine ⟨M1, B, L1, ρ, p.next eA R x1, (post.bind q).mono fun y L2 M2 eA2 R2 x2 q2 t rt => ?_⟩
    obtain ⟨k, ek, dk, q3⟩ := q2.view R2 eA2 rt
    cases e : putIn B L2 x k w with
    | none => rw [e] at q3; exact q3.elim
    | some L3 =>
      rw [e] at q3
      refine ⟨M2, B, L2, x, k, w, L3, rfl, eA2, R2, ru.ext R x2, dk, (rw'.ext p.rep x1).ext R x2, e, fun M' a' R' x' => ?_⟩
      exact q3 M' a' R' x' σ ((((p.next eA R x1).next eA2 R2 x2).rs).ext R2 x') (Stay.refl _ _)
/-! ### several names -/
inductive NamesAt (X : Cx) : List Expr → List Nat → Prop
  | nil : NamesAt X [] []
  | cons {x : Str} {p : Pos} {es : List Expr} {i : Nat} {is : List Nat} : X.N[i]? = some x → Loc X.env.scope x → (X.fn x = true ∨ X.env.scope.names.lookup x = some .local) → NamesAt X es is → NamesAt X (.Name x p :: es) (i :: is)
def gNames : List Nat → TGs
  | [] => gNil
  | i :: is => gCons (gName i) (gNames is)
theorem pgs_names (hN : X.N.Nodup) : ∀ {es : List Expr} {is : List Nat}, NamesAt X es is → (assignEach es X.env).map (·.2) = es.map (fun e => assign e X.env) → PGs X es (gNames is)
  | _, _, .nil, _ => pgs_nil
  | _, _, .cons (x := x) (p := p) h1 h2 h3 h4, hs => by
    have hs' : assign _ X.env :: (assignEach _ X.env).map (·.2) = _ := hs
    exact pgs_cons (pg_name hN h1 h2 h3) (pgs_names hN h4 (List.cons.inj hs').2) rfl
theorem gNames_set {M : Mem} {H : Hp} {Q : L2.St → Hp → Prop} : ∀ {is : List Nat} {ws : List W} {vs : List V} {ρ ρ' : Sl} {σ : L2.St}, setAll is ws ρ = some ρ' → RWs K T M ws vs → RS K T M ρ σ → (∀ σ', RS K T M ρ' σ' → Q σ' H) → gNames is vs σ H Q
  | [], ws, vs, ρ, ρ', σ, e, r, rs, k => by
    cases ws with
    | nil => cases e; exact ⟨r, k σ rs⟩
    | cons _ _ => cases e
  | i :: is, ws, vs, ρ, ρ', σ, e, r, rs, k => by
    cases ws with
    | nil => cases e
    | cons w ws =>
      obtain ⟨v, q, rfl, r1, r2⟩ := r
      exact ⟨v, q, rfl, gNames_set (is := is) e r2 (rs.set r1 i) k⟩
theorem setAll_len : ∀ {is : List Nat} {ws : List W} {ρ ρ' : Sl}, setAll is ws ρ = some ρ' → ws.length = is.length
  | [], [], _, _, _ => rfl
  | [], _ :: _, _, _, e => by cases e
  | _ :: _, [], _, _, e => by cases e
  | i :: is, w :: ws, ρ, ρ', e => by rw [List.length_cons, List.length_cons, setAll_len (is := is) (ws := ws) (ρ := ρ.set i (some w)) e]
theorem js_parN {is : List Nat} {nms es : List Expr} {f : SA} {k k2 : Nat} {pt pt2 pos : Pos} (hc : X.calm = true) (hN : X.N.Nodup) (ha : JA X T es f) (hn : NamesAt X nms is) (hl : (assignEach nms X.env).length = is.length := by rfl)
    (hst : (assignEach nms X.env).findIdx? (·.1) = none := by rfl) (hm : (assignEach nms X.env).map (·.2) = nms.map (fun e => assign e X.env) := by rfl)
    (hs : swapsWithSole [.Tuple nms k pt] (.Tuple es k2 pt2) pos.line X.env = pure false := by rfl) (hw : swappedStores [.Tuple nms k pt] (.Tuple es k2 pt2) X.env = pure none := by rfl)
    (h1 : (assignEach [.Tuple nms k pt] X.env).map (·.2) = [assign (.Tuple nms k pt) X.env] := by rfl) : JS X T (.Assign [.Tuple nms k pt] (.Tuple es k2 pt2) pos) (sParN is f) :=
  PS.weak (ps_asg (pe_tup ha) (pg_tup hc (pgs_names hN hn hm) hl hst) hs hw h1) fun Dn σ H h => by
    obtain ⟨M, B, L, ρ, p, h⟩ := h
    refine ⟨M, B, L, ρ, p, (post.st h).mono fun ws L1 M1 eA R x q vs rvs => ?_⟩
    cases e : setAll is ws ρ with
    | none => rw [e] at q; exact q.elim
    | some ρ' =>
      rw [e] at q
      dsimp only at q
      by_cases hz : ws.length ≤ sizeL
      · rw [if_pos hz] at q
        refine ⟨by rw [← rvs.length, ← sizeL_eq]; exact hz, fun a ha => ?_⟩
        obtain ⟨R3, E3⟩ := garb (o := .tup vs) R ha
        refine ⟨a, vs, rfl, .inl (.inl upd_same), by rw [← rvs.length]; exact setAll_len e, ?_⟩
        exact gNames_set (M := { M1 with H := upd M1.H a (.tup vs) }) e (rvs.ext R E3) ((p.rs.ext p.rep x).ext R E3) fun σ' rs' => q { M1 with H := upd M1.H a (.tup vs) } σ' eA R3 E3 rs'
      · rw [if_neg hz] at q; exact q.elim
end
end Ev

set_option Elab.async false
set_option linter.all false
set_option maxRecDepth 100000
set_option maxHeartbeats 1000000
set_option autoImplicit false
/-! EvQ: t[::-1], -x, is True, sum, {}, lists put together that change; defs that call themselves. -/
namespace Ev
open PySem PySem.Spec PyProof.Rows L2
section
variable {X : Cx} {T : Tb} {K : PySem.W.Frag} {M : Mem}
/-- an operator of one value by data -/
theorem rd_1 {op : D → Option D} {f : SE} {σ : L2.St} {H : Hp} {Q : VK} {r : V → Hp → VK → Prop} (ok : ∀ (M : Mem) (p z : D) (x : V) (Q : VK), Rep K T M → DV K T M p x → op p = some z → (∀ M' v, M'.A = M.A → Rep K T M' → Ext M M' → RV K T M' z v → Q v M'.H) → r x M.H Q)
    (h : rE K T (e1 op f) σ H Q) : rE K T f σ H fun x H1 => r x H1 Q := by
  obtain ⟨M, B, L, ρ, p, h⟩ := h
  refine ⟨M, B, L, ρ, p, (post.bind h).mono fun w L1 M1 eA R x q v rv => ?_⟩
  obtain ⟨pd, _, dv, q⟩ := q.view R eA rv
  obtain ⟨z, ez, q⟩ := q.opt
  exact ok M1 pd z v Q R dv ez fun M' u a' R' x' ru => q M' (a'.trans eA) R' x' u ru
theorem je_rev {e : Expr} {f : SE} {k : Nat} {p1 p2 p3 pos : Pos} (he : JE X T e f) : JE X T (.Subscript e (.Slice none none (some (.UnaryOp .USub (.Constant (.int 1) k p1) p2)) p3) pos) (e1 opRev f) :=
  PE.weak (pe_revA he) fun σ H Q h => rd_1 (r := fun x H1 Q => (∃ a xs, x = .ref a ∧ SqL X.K H1 a xs ∧ ∀ p, H1 p = none → Q (.ref p) (upd H1 p (.lst xs.reverse))) ∨ (∃ a xs, x = .ref a ∧ SqT X.K H1 a xs ∧ ∀ p, H1 p = none → Q (.ref p) (upd H1 p (.tup xs.reverse)))) (fun M p z x Q R d e k => by
    have rev : ∀ {xs : List D} {vs : List V}, RVs X.K T M xs vs → RVs X.K T M xs.reverse vs.reverse := fun {xs vs} r => by
      induction xs generalizing vs with
      | nil => rw [show vs = [] from r]; exact rfl
      | cons x xs ih =>
        obtain ⟨v, q, rfl, r1, r2⟩ := r
        rw [List.reverse_cons, List.reverse_cons]
        exact (ih r2).append ⟨v, [], rfl, r1, rfl⟩
    cases p with
    | tup xs =>
      have e : (if rowy xs.reverse = false then some (D.tup xs.reverse) else none) = some z := e
      by_cases hr : rowy xs.reverse = false
      · rw [if_pos hr] at e
        cases e
        obtain ⟨a, vs, rfl, s1, r1⟩ := d.tup
        exact .inr ⟨a, vs, rfl, s1, new_tup R hr (rev r1) k⟩
      · rw [if_neg hr] at e; cases e
    | lst xs =>
      cases e
      obtain ⟨a, vs, rfl, s1, r1⟩ := d.lst
      exact .inl ⟨a, vs, rfl, SqL.of s1, new_lst R (rev r1) k⟩
    | _ => cases e) h
theorem je_neg {e : Expr} {f : SE} {pos : Pos} (he : JE X T e f) : JE X T (.UnaryOp .USub e pos) (e1 opNeg f) :=
  PE.weak (pe_un un_neg he) fun σ H Q h => rd_1 (r := rU fun i => .int (-i)) (fun M p z x Q R d e k => by
    cases p with
    | int i => cases e; exact ⟨i, d.int, k M _ rfl R (Ext.refl M) rfl⟩
    | _ => cases e) h
theorem opD_is : OpD X T (compareOp .Is) opIsB := by
  intro pins s σ H x y v u Q I rx ry h
  obtain ⟨M, p, q, z, rfl, R, d1, d2, e, k⟩ := h
  cases p with
  | bl a =>
    cases q with
    | bl b =>
      cases e
      refine op_isBl pins s σ _ x y v u Q I rx ry ⟨a, b, d1.bl, d2.bl, ?_⟩
      have : (a == b) = decide (a = b) := by cases a <;> cases b <;> rfl
      rw [← this]
      exact k M _ rfl R (Ext.refl M) rfl
    | _ => cases e
  | _ => cases q <;> cases e
theorem opIsB_bool : ∀ p q z, opIsB p q = some z → ∃ k, z = .bl k := fun p q z e => by
  cases p with
  | bl a =>
    cases q with
    | bl b => cases e; exact ⟨_, rfl⟩
    | _ => cases e
  | _ => cases q <;> cases e
theorem cd_sum (hc : X.calm = true) : CallD X T (.builtin "sum") bSum := call_D1 rfl (fun _ _ _ => by simp [bSum]) fun pins s σ M p z x u Q I rx R d e k => by
  cases p with
  | lst xs =>
    have e : (match allI xs with | some is => some (D.int is.sum) | none => none) = some z := e
    cases ei : allI xs with
    | none => rw [ei] at e; cases e
    | some is =>
      rw [ei] at e
      cases e
      obtain ⟨a, vs, rfl, s1, r1⟩ := d.lst
      exact cr_sum hc pins s σ _ _ [u] Q I (.cons rx .nil) ⟨a, is, rfl, by rw [← allI_ok ei r1]; exact SqL.of s1, k M _ rfl R (Ext.refl M) rfl⟩
  | _ => cases e
/-- {} as data -/
theorem je_dct0 {pos : Pos} : JE X T (.Dict [] [] pos) (eC (.dct [] [])) := PE.weak pe_dnewK fun σ H Q h p hp => by
  obtain ⟨M, B, L, ρ, pt, h⟩ := h
  have eH := pt.eH
  subst eH
  obtain ⟨R', E'⟩ := garb (o := .dK []) pt.rep hp
  exact h { M with H := upd M.H p (.dK []) } pt.eA R' E' (.ref p) ⟨p, [], rfl, sep_new pt.rep hp, upd_same, rfl, rfl⟩
/-- a + b of lists, that may be changed -/
theorem je_addM {a b : Expr} {fa fb : SE} {pos : Pos} (ha : JE X T a fa) (hb : JE X T b fb) : JE X T (.BinOp a .Add b pos) (eAddM fa fb) :=
  PE.weak (pe_op op_cat ha hb) fun σ H Q h => by
    obtain ⟨M, B, L, ρ, p, h⟩ := h
    refine ⟨M, B, L, ρ, p, (post.bind h).mono fun w L1 M1 eA R x q v rv => ?_⟩
    refine ⟨M1, B, L1, ρ, p.next eA R x, (post.bind q).mono fun w2 L2 M2 eA2 R2 x2 q2 v2 rv2 => ?_⟩
    obtain ⟨pd, _, d1, q3⟩ := q2.view R2 eA2 (rv.ext R x2)
    obtain ⟨qd, _, d2, q4⟩ := q3.view R2 eA2 rv2
    obtain ⟨xs, e1, q5⟩ := q4.opt
    obtain ⟨ys, e2, q6⟩ := q5.opt
    obtain ⟨hl, q7⟩ := q6.guard
    have hl := of_decide_eq_true hl
    clear q2 q3 q4 q5 q6
    cases pd with
    | lst xs' =>
      cases e1
      cases qd with
      | lst ys' =>
        cases e2
        obtain ⟨a1, vs, rfl, s1, r1⟩ := d1.lst
        obtain ⟨a2, us, rfl, s2, r2⟩ := d2.lst
        refine ⟨a1, a2, vs, us, rfl, rfl, s1, s2, by rw [← r1.length, ← r2.length, ← sizeL_eq]; exact hl, fun b hb => ?_⟩
        exact new_place R2 eA2 hb (o := .lst ((xs ++ ys).map .d)) (h := .lst (vs ++ us)) (fun k => ⟨vs ++ us, upd_same, RWs.ofD ((RVs.keeps k _ _ r1).append (RVs.keeps k _ _ r2))⟩) q7
      | _ => cases e2
    | _ => cases e1
/-- sep.join(texts) -/
theorem allS_ok : ∀ {xs : List D} {ss : List (List Nat)} {vs : List V}, allS xs = some ss → RVs K T M xs vs → vs = ss.map fun s => V.str ⟨s.toArray⟩
  | [], ss, vs, e, r => by cases e; exact r
  | x :: xs, ss, vs, e, r => by
    obtain ⟨v, rr, rfl, r1, r2⟩ := r
    cases x with
    | str s =>
      unfold allS at e
      cases q : allS xs with
      | none => rw [q] at e; cases e
      | some js =>
        rw [q] at e
        cases e
        rw [allS_ok q r2, show v = V.str ⟨s.toArray⟩ from r1]
        rfl
    | _ => cases e
theorem joinS_eq (a : List Nat) : ∀ ss : List (List Nat), joinS a ss = TL.joinL a ss
  | [] => rfl
  | [_] => rfl
  | p :: q :: r => by
    show p ++ (a ++ joinS a (q :: r)) = p ++ (a ++ TL.joinL a (q :: r))
    rw [joinS_eq a (q :: r)]
theorem join_str (a : List Nat) (ss : List (List Nat)) : Txt.join (⟨a.toArray⟩ : Str) (ss.map fun s => (⟨s.toArray⟩ : Str)) = ⟨(joinS a ss).toArray⟩ := by
  rw [joinS_eq]
  exact SX.join_S a ss
theorem je_join {x : Str} {sep : List Nat} {j : Nat} {p0 : Pos} {e : Expr} {g : SE} {apos cpos : Pos} (he : JE X T e g) (hx : x = ⟨sep.toArray⟩ := by decide) (hbase : attributeBase (.Constant (.str x) j p0) "join" X.env (eval (.Constant (.str x) j p0) X.env) = eval (.Constant (.str x) j p0) X.env := by rfl)
    (hfew : ((backTo cpos (starEach [e] X.env)).all (fun x => !x.1) && (backToKw cpos (keywordEach [] X.env)).all (fun x => x.1.isSome)
      && decide ([e].length + ([] : List Keyword).length + (if ([] : List Keyword).isEmpty then 0 else 1) < 30)) = true := by rfl)
    (hline : (apos.endLine == cpos.line) = true := by rfl) (hs : starEach [e] X.env = (false, eval e X.env) :: starEach [] X.env := by rfl) (hplain : (backTo cpos (starEach [] X.env)).any (·.1) = false := by rfl) : JE X T (.Call (.Attribute (.Constant (.str x) j p0) "join" apos) [e] [] cpos) (e1 (opJoin (.str sep)) g) := by
  have hA : JA X T [e] (aCons g aNil) := ja_cons he ja_nil hs
  refine PE.weak (pe_bm PySem.F.plainAttrs_str PySem.F.slot_str_join PySem.F.type_str_join mt_join pe_str hA hbase hfew hline hs hplain) fun σ H Q h => ?_
  refine ⟨rfl, ?_⟩
  obtain ⟨M, B, L, ρ, p, h⟩ := h
  refine ⟨M, B, L, ρ, p, ?_⟩
  show post X.K T M B ((g B ρ L).bind fun x L1 => (aNil B ρ L1).bind fun xs L2 => Res.ok (x :: xs) L2) _
  have q := post.bind h
  cases e1 : g B ρ L with
  | exc _ _ _ => rw [e1] at q; exact q.elim
  | bad => rw [e1] at q; exact q.elim
  | ok y L2 =>
    rw [e1] at q
    intro M2 eA2 R2 x2 vs rvs
    obtain ⟨u, r, rfl, ru, rfl⟩ := rvs
    have q3 := q M2 eA2 R2 x2
    obtain ⟨qd, _, d2, q5⟩ := q3.view R2 eA2 ru
    obtain ⟨z, ez, q6⟩ := q5.opt
    cases qd with
    | lst xs =>
      have ez : (match allS xs with | some ss => if (ss.map List.length).sum + ss.length * sep.length ≤ sizeL then some (D.str (joinS sep ss)) else none | none => none) = some z := ez
      cases es : allS xs with
      | none => rw [es] at ez; cases ez
      | some ss =>
        rw [es] at ez
        dsimp only at ez
        split at ez
        · rename_i hl
          cases ez
          obtain ⟨b, us, rfl, s1, r1⟩ := d2.lst
          rw [allS_ok es r1] at s1
          have e2 : (ss.map fun s => V.str ⟨s.toArray⟩) = (ss.map fun s => (⟨s.toArray⟩ : Str)).map V.str := by rw [List.map_map]; rfl
          rw [e2] at s1
          refine ⟨x, b, ss.map fun s => (⟨s.toArray⟩ : Str), rfl, rfl, .inl (SqL.of s1), ?_, ?_⟩
          · have e3 : ((ss.map fun s => (⟨s.toArray⟩ : Str)).map (·.length)) = ss.map List.length := by
              rw [List.map_map]
              refine List.map_congr_left fun s _ => ?_
              exact str_len s
            rw [e3, List.length_map, hx, str_len]
            exact hl
          · rw [hx, join_str]
            exact q6.here eA2 R2 _ rfl
        · cases ez
    | _ => cases ez
end
/-! ### defs that call themselves -/
theorem fn_bad {P : Program} {w : World} {K : PySem.W.Frag} {T : Tb} {mg : Str → Option Value} {base : Heap} {k : Nat} {f : Addr} {fd : FuncData} {ps : List Str} : FnG P w K mg base CX0 k f fd ps (spOf K T ps.length badFn) :=
  ⟨fun vs H Q E h => h.1, fun A ou s H args us vs Q E hg hr he hb hv h => by
    obtain ⟨_, M, B, L, ws, _, _, _, _, h⟩ := h
    exact h.elim⟩
end Ev

set_option Elab.async false
set_option linter.all false
set_option maxRecDepth 100000
set_option maxHeartbeats 1000000
set_option autoImplicit false
/-! EvI: instances: attributes, methods, making. -/
namespace Ev
open PySem PySem.Spec PyProof.Rows L2
section
variable {X : Cx} {T : Tb} {K : PySem.W.Frag} {M : Mem} {B L : Hs}
theorem strInj {s t : List Nat} (h : (⟨s.toArray⟩ : Str) = ⟨t.toArray⟩) : s = t := by
  have := congrArg (fun x : Str => x.cps.toList) h
  simpa using this
theorem lookup_getF {f : List Nat} : ∀ {fs : List (List Nat × W)} {gs : List (Str × V)}, gs.map (·.1) = fs.map (fun p => (⟨p.1.toArray⟩ : Str)) → RWs K T M (fs.map (·.2)) (gs.map (·.2)) →
    (∀ w, getF f fs = some w → ∃ v, gs.lookup ⟨f.toArray⟩ = some v ∧ RW K T M w v) ∧ (getF f fs = none → gs.lookup ⟨f.toArray⟩ = none)
  | [], [], _, _ => ⟨(fun w e => by cases e), fun _ => rfl⟩
  | [], _ :: _, e, _ => by cases e
  | _ :: _, [], e, _ => by cases e
  | (k, x) :: fs, (g, y) :: gs, e, h => by
    have e1 : g = ⟨k.toArray⟩ := (List.cons.inj e).1
    have e2 : gs.map (·.1) = fs.map (fun p => (⟨p.1.toArray⟩ : Str)) := (List.cons.inj e).2
    obtain ⟨v, r, q, h1, h2⟩ := h
    have q : y :: gs.map (·.2) = v :: r := q
    cases q
    have ih := lookup_getF (f := f) e2 h2
    unfold getF
    by_cases hk : k = f
    · rw [if_pos hk]
      have hb : ((⟨f.toArray⟩ : Str) == g) = true := by rw [e1, hk]; exact beq_self_eq_true _
      have l : ((g, y) :: gs).lookup ⟨f.toArray⟩ = some y := by
        show (match ((⟨f.toArray⟩ : Str) == g) with | true => some y | false => gs.lookup _) = _
        rw [hb]
      exact ⟨(fun w z => by cases z; exact ⟨y, l, h1⟩), (fun z => by cases z)⟩
    · rw [if_neg hk]
      have hb : ((⟨f.toArray⟩ : Str) == g) = false := beq_eq_false_iff_ne.mpr fun z => hk (strInj (e1.symm.trans z.symm))
      have l : ((g, y) :: gs).lookup ⟨f.toArray⟩ = gs.lookup ⟨f.toArray⟩ := by
        show (match ((⟨f.toArray⟩ : Str) == g) with | true => some y | false => gs.lookup _) = _
        rw [hb]
      rw [l]
      exact ih
theorem putF_putFs {f : List Nat} {w : W} {v : V} (r : RW K T M w v) : ∀ {fs : List (List Nat × W)} {gs : List (Str × V)}, gs.map (·.1) = fs.map (fun p => (⟨p.1.toArray⟩ : Str)) → RWs K T M (fs.map (·.2)) (gs.map (·.2)) →
    (putF ⟨f.toArray⟩ v gs).map (·.1) = (putFs f w fs).map (fun p => (⟨p.1.toArray⟩ : Str)) ∧ RWs K T M ((putFs f w fs).map (·.2)) ((putF ⟨f.toArray⟩ v gs).map (·.2))
  | [], [], _, _ => ⟨rfl, v, [], rfl, r, rfl⟩
  | [], _ :: _, e, _ => by cases e
  | _ :: _, [], e, _ => by cases e
  | (k, x) :: fs, (g, y) :: gs, e, h => by
    have e1 : g = ⟨k.toArray⟩ := (List.cons.inj e).1
    have e2 : gs.map (·.1) = fs.map (fun p => (⟨p.1.toArray⟩ : Str)) := (List.cons.inj e).2
    obtain ⟨u, t, q, h1, h2⟩ := h
    have q : y :: gs.map (·.2) = u :: t := q
    cases q
    have ih := putF_putFs (f := f) r e2 h2
    unfold putFs putF
    by_cases hk : k = f
    · rw [if_pos hk, if_pos (by rw [e1, hk])]
      exact ⟨by show g :: _ = _ :: _; rw [e1, e2], v, _, rfl, r, h2⟩
    · rw [if_neg hk, if_neg (fun z => hk (strInj (e1.symm.trans z)))]
      exact ⟨by show g :: _ = _ :: _; rw [e1, ih.1], y, _, rfl, h1, ih.2⟩
/-- what an instance is -/
theorem ins_at (R : Rep K T M) (eA : M.A = B ++ L) {x : W} {v : V} {n c : Nat} {fs : List (List Nat × W)} (h : insAt B L x = some (n, c, fs)) (r : RW K T M x v) :
    x = .ref n ∧ M.A[n]? = some (.ins c fs) ∧ v = .ref (M.m n) ∧ ∃ dx gs, M.H (M.m n) = some (.ins (T.cls c) dx gs) ∧ gs.map (·.1) = fs.map (fun p => (⟨p.1.toArray⟩ : Str)) ∧ RWs K T M (fs.map (·.2)) (gs.map (·.2)) := by
  unfold insAt at h
  cases x with
  | d _ => cases h
  | ref k =>
    dsimp only at h
    split at h
    · rename_i c' fs' e
      cases h
      have e : M.A[n]? = some (.ins c fs) := by rw [eA]; exact e
      exact ⟨rfl, e, r.2, R.at_ n _ e⟩
    · cases h
theorem je_fld {o : Expr} {f : SE} {c : Nat} {nm : List Nat} {x : Str} {pos : Pos} (ho : JE X T o f) (hc : Cls X.K (T.cls c)) (hn : NoAttr X.K (T.cls c) x) (hx : x = ⟨nm.toArray⟩ := by decide) (hb : attributeBase o x X.env (eval o X.env) = eval o X.env := by rfl) : JE X T (.Attribute o x pos) (eFld c nm f) :=
  PE.weak (pe_fld ho hb) fun σ H Q h => by
    obtain ⟨M, B, L, ρ, p, h⟩ := h
    refine ⟨M, B, L, ρ, p, (post.bind h).mono fun w L1 M1 eA R ext q v rv => ?_⟩
    obtain ⟨⟨n, c', fs⟩, ei, q1⟩ := q.opt
    obtain ⟨hg, q2⟩ := q1.guard
    have hg' : c' = c := of_decide_eq_true hg
    obtain ⟨u, eu, q3⟩ := q2.opt
    obtain ⟨_, _, ev, dx, gs, h1, h2, h3⟩ := ins_at R eA ei rv
    rw [hg'] at h1
    obtain ⟨y, e1, r1⟩ := (lookup_getF h2 h3).1 u eu
    exact ⟨_, _, dx, gs, y, ev, h1, hc, hn, by rw [hx]; exact e1, q3.here eA R y r1⟩
theorem plain_ins {C dx : Addr} {gs : List (Str × V)} : Plain (.ins C dx gs) := ⟨(fun _ z => by cases z), (fun _ _ z => by cases z)⟩
theorem js_fld {o value : Expr} {f g : SE} {c : Nat} {nm : List Nat} {x : Str} {pos pos' : Pos} (ho : JE X T o f) (hv : JE X T value g) (hc : Cls X.K (T.cls c)) (hn : NoAttr X.K (T.cls c) x) (hx : x = ⟨nm.toArray⟩ := by decide)
    (hs : swapsWith value (some (.Attribute o x pos')) pos.line X.env = pure false := by rfl) : JS X T (.Assign [.Attribute o x pos'] value pos) (Ev.sFld c nm f g) :=
  PS.weak (ps_fld ho hv hs) fun Dn σ H h => by
    obtain ⟨M, B, L, ρ, p, h⟩ := h
    refine ⟨M, B, L, ρ, p, (post.st h).mono fun z L1 M1 eA1 R1 x1 q1 v rv => ?_⟩
    refine ⟨M1, B, L1, ρ, p.next eA1 R1 x1, (post.st q1).mono fun w L2 M2 eA2 R2 x2 q2 u ru => ?_⟩
    obtain ⟨i, ei, q3⟩ := post.opt1 (post.st q2)
    obtain ⟨n, c', fs⟩ := i
    have q4 := q3.here eA2 R2
    obtain ⟨hg, q5⟩ : (decide (c' = c ∧ B.length ≤ n ∧ fs.length < 1000)) = true ∧ postS X.K T M2 B (.next ρ (L2.set (n - B.length) (.ins c (putFs nm z fs)))) Dn := by
      cases e : decide (c' = c ∧ B.length ≤ n ∧ fs.length < 1000) with
      | true => 
        refine ⟨rfl, ?_⟩
        unfold guardR Res.st at q4
        dsimp only at q4
        rw [e] at q4
        exact q4
      | false =>
        unfold guardR Res.st at q4
        dsimp only at q4
        rw [e] at q4
        exact q4.elim
    have hg := of_decide_eq_true hg
    obtain ⟨rfl, hB, hl⟩ := hg
    obtain ⟨rfl, e0, rfl, dx, gs, h1, h2, h3⟩ := ins_at R2 eA2 ei ru
    have hlen : gs.length < 1000 := by
      have := congrArg List.length h2
      rw [List.length_map, List.length_map] at this
      omega
    refine ⟨_, _, dx, gs, rfl, h1, hc, hn, hlen, ?_⟩
    have pp := place_put (o' := .ins c' (putFs nm z fs)) (h' := .ins (T.cls c') dx (putF x v gs)) R2 e0 rfl rfl plain_ins (fun M' em eS eA' eH e => by
      have rz : RW X.K T M' z v := (rv.ext R1 x2).ext R2 e
      have h3' := h3.ext R2 e
      have := putF_putFs (f := nm) rz h2 h3'
      rw [← hx] at this
      exact ⟨dx, _, by rw [eH]; exact upd_same, this.1, this.2⟩)
    have pt2 := (p.next eA1 R1 x1).next eA2 R2 x2
    refine q5 _ σ ?_ pp.1 pp.2 (pt2.rs.ext R2 pp.2)
    show M2.A.set n _ = _
    rw [eA2, List.set_append_right _ _ hB]
end
end Ev

set_option Elab.async false
set_option linter.all false
set_option maxRecDepth 100000
set_option maxHeartbeats 1000000
set_option autoImplicit false
/-! EvI2: methods and making. -/
namespace Ev
open PySem PySem.Spec PyProof.Rows L2
section
variable {X : Cx} {T : Tb} {CX : CXT} {k : Nat} {f C : Addr} {fd : FuncData} {ps : List Str} {sp : Sp} {E : XK} {m x : Str} {o e : Expr} {es : List Expr} {ta : TE} {t : TA} {apos pos p : Pos} {pl : Sem Bool}
theorem pe_methG (he : PE X o ta) (c : Cls X.K C) (hm : Meth X.K C m f) (F : FnG X.prog X.w X.K X.mg X.base CX k f fd ps sp) (hgu : X.A.guards = some []) (hr : Room k X.A) (hb : Binds X.K fd ps []) (hx : Passes CX X E) (ha : PA X (e :: es) t)
    (hst : starEach (e :: es) X.env = (false, eval e X.env) :: starEach es X.env) (hpl : (backTo pos (starEach es X.env)).any (·.1) = false)
    (ht : eval (.Call (.Attribute o m apos) (e :: es) [] pos) X.env = (do
      let ov ← eval o X.env
      standAt apos.atName
      let (f, first) ← holding [ov] (getMethod ov m pl)
      callWith pos f first (backTo pos (starEach (e :: es) X.env)) (backToKw pos (keywordEach [] X.env)))) :
    PE X (.Call (.Attribute o m apos) (e :: es) [] pos) (fun σ H Q => ta σ H fun x H1 => ∃ a dx fs, x = .ref a ∧ H1 a = some (.ins C dx fs) ∧ fs.lookup m = none ∧ t σ H1 fun vs H2 => sp (x :: vs) H2 Q E) := by
  refine ⟨fun pins s σ H Q I h => ?_⟩
  refine PySem.W.methodCall_KW (pl := pl) (thn (he.run pins s σ H _ I h) fun u s1 ⟨x, H1, I1, rx, a, dx, fs, ex, ea, l, q⟩ => ?_) ht
  subst ex
  obtain rfl : u = Value.ref a := rx
  refine getmeth_ok I1 ea c hm l ?_
  refine PySem.W.callWith_K (first := [.ref a]) (h₀ := X.base) I.ok.mod.kin hm.kp (thn (ha.run pos pins s1 σ H1 _ I1 q) fun us s2 ⟨vs, H2, I2, r, q2⟩ => ⟨I2.kIn, ?_⟩) hst hpl
  have rr : Vals (V.ref a :: vs) (Value.ref a :: us) := .cons rfl r
  have ll : ((Value.ref a :: us) ++ ([] : List Value)).length = ps.length := by rw [List.append_nil, ← rr.length]; exact F.ln _ _ _ _ q2
  have b := hb s2 (Value.ref a :: us) I2.kIn ll
  rw [List.append_nil] at b
  exact F.call hgu hr hx I2 b rr q2
theorem pe_methG0 (he : PE X o ta) (c : Cls X.K C) (hm : Meth X.K C m f) (F : FnG X.prog X.w X.K X.mg X.base CX k f fd ps sp) (hgu : X.A.guards = some []) (hr : Room k X.A) (hb : Binds X.K fd ps []) (hx : Passes CX X E)
    (ht : eval (.Call (.Attribute o m apos) [] [] pos) X.env = (do
      let ov ← eval o X.env
      standAt apos.atName
      let (f, first) ← holding [ov] (getMethod ov m pl)
      callWith pos f first (backTo pos (starEach [] X.env)) (backToKw pos (keywordEach [] X.env)))) :
    PE X (.Call (.Attribute o m apos) [] [] pos) (fun σ H Q => ta σ H fun x H1 => ∃ a dx fs, x = .ref a ∧ H1 a = some (.ins C dx fs) ∧ fs.lookup m = none ∧ sp [x] H1 Q E) := by
  refine ⟨fun pins s σ H Q I h => ?_⟩
  refine PySem.W.methodCall_KW (pl := pl) (thn (he.run pins s σ H _ I h) fun u s1 ⟨x, H1, I1, rx, a, dx, fs, ex, ea, l, q⟩ => ?_) ht
  subst ex
  obtain rfl : u = Value.ref a := rx
  refine getmeth_ok I1 ea c hm l ?_
  refine PySem.W.callWith_K0 (first := [.ref a]) I1.kIn hm.kp ?_
  have rr : Vals [V.ref a] [Value.ref a] := .cons rfl .nil
  have ll : ([Value.ref a] ++ ([] : List Value)).length = ps.length := by rw [List.append_nil, ← rr.length]; exact F.ln _ _ _ _ q
  have b := hb s1 [Value.ref a] I1.kIn ll
  rw [List.append_nil] at b
  exact F.call hgu hr hx I1 b rr q
theorem run_makeG {pins : List (Addr × Obj)} {σ : L2.St} {H : Hp} {s : Shared} {Q : VK} {us : List Value} {vs : List V} (M : Mk X.K C f) (F : FnG X.prog X.w X.K X.mg X.base CX k f fd ps sp) (hgu : X.A.guards = some []) (hr : Room (k + 1) X.A) (hb : Binds X.K fd ps [])
    (hx : Passes CX X E) (I : Inv X pins σ H s) (r : Vals vs us)
    (h : ∀ x dx, H x = none → H dx = none → dx ≠ x → sp (.ref x :: vs) (upd (upd H dx (.own x)) x (.ins C dx [])) (fun v H2 => v = .non ∧ Q (.ref x) H2) E) :
    wpAny (model X.prog X.w) X.A (PySem.call (.ref C) us) (EP X pins σ Q) X.xe s := by
  have hq := h (s.heap.objs.size + 1) s.heap.objs.size (I.hok.fresh (Nat.le_succ _)) (I.hok.fresh (Nat.le_refl _)) (Nat.ne_of_lt (Nat.lt_succ_self _))
  have I2 := Inv.made (C := C) I
  have r2 : Vals (V.ref (s.heap.objs.size + 1) :: vs) (Value.ref (s.heap.objs.size + 1) :: us) := .cons rfl r
  have hl : ((Value.ref (s.heap.objs.size + 1) :: us) ++ ([] : List Value)).length = ps.length := by rw [List.append_nil, ← r2.length]; exact F.ln _ _ _ _ hq
  have b := hb _ (Value.ref (s.heap.objs.size + 1) :: us) I2.kIn hl
  rw [List.append_nil] at b
  refine wpAny_call (make_map (f := f) I.kIn M.makes M.init (beq_iff_eq.mp M.fn) (codeAny_mono (F.go _ X.stack _ _ ⟨Value.ref (s.heap.objs.size + 1) :: us, []⟩ (Value.ref (s.heap.objs.size + 1) :: us) _ _ E hgu (hr.make C us [])
    (I2.env0.make C us []) b r2 hq) fun r s' hq' => ?_))
  cases r with
  | error e => exact hx pins σ _ _ e s' I2 hq'
  | ok fl =>
    cases fl with
    | ret u =>
      obtain ⟨v, H', I3, rv, ev, q3⟩ := I2.after hq'
      subst ev
      exact ⟨rv, ⟨V.ref (s.heap.objs.size + 1), H', I3, rfl, q3⟩⟩
    | next => exact False.elim hq'
    | brk => exact False.elim hq'
    | cont => exact False.elim hq'
theorem pe_makeG (M : Mk X.K C f) (F : FnG X.prog X.w X.K X.mg X.base CX k f fd ps sp) (hgu : X.A.guards = some []) (hr : Room (k + 1) X.A) (hg : Gl X x) (hm : X.mg x = some (.ref C)) (hb : Binds X.K fd ps []) (hx : Passes CX X E)
    (ha : PA X (e :: es) t) (hdb : (x == ("__debug__" : Str)) = false) (he : starEach (e :: es) X.env = (false, eval e X.env) :: starEach es X.env) (hpl : (backTo pos (starEach es X.env)).any (·.1) = false) :
    PE X (.Call (.Name x p) (e :: es) [] pos) (fun σ H Q => t σ H fun vs H1 => ∀ x dx, H1 x = none → H1 dx = none → dx ≠ x → sp (.ref x :: vs) (upd (upd H1 dx (.own x)) x (.ins C dx [])) (fun v H2 => v = .non ∧ Q (.ref x) H2) E) := by
  refine ⟨fun pins s σ H Q I h => ?_⟩
  refine wpAny_Call_Name_kw (ld_glob I hg hm ?_ hdb)
  refine PySem.W.callWith_K (h₀ := X.base) I.ok.mod.kin M.kp (thn (ha.run pos pins s σ H _ I h) fun us s1 ⟨vs, H1, I1, r, q⟩ => ⟨I1.kIn, ?_⟩) he hpl
  exact run_makeG M F hgu hr hb hx I1 r q
end
section
variable {X : Cx} {T : Tb} {k : Nat} {f : Addr} {fd : FuncData} {ps : List Str} {m x : Str} {o e : Expr} {es : List Expr} {apos pos p : Pos} {pl : Sem Bool} {c np : Nat} {nm : List Nat} {F : Fn} {fo : SE} {a : SA}
theorem je_meth (ho : JE X T o fo) (hc : Cls X.K (T.cls c)) (hm : Meth X.K (T.cls c) m f) (G : FnG X.prog X.w X.K X.mg X.base CX0 k f fd ps (spOf X.K T np F)) (hgu : X.A.guards = some []) (hr : Room k X.A) (hb : Binds X.K fd ps []) (ha : JA X T (e :: es) a) (hx : m = ⟨nm.toArray⟩ := by decide)
    (hst : starEach (e :: es) X.env = (false, eval e X.env) :: starEach es X.env := by rfl) (hpl : (backTo pos (starEach es X.env)).any (·.1) = false := by rfl)
    (ht : eval (.Call (.Attribute o m apos) (e :: es) [] pos) X.env = (do
      let ov ← eval o X.env
      standAt apos.atName
      let (f, first) ← holding [ov] (getMethod ov m pl)
      callWith pos f first (backTo pos (starEach (e :: es) X.env)) (backToKw pos (keywordEach [] X.env))) := by rfl) : JE X T (.Call (.Attribute o m apos) (e :: es) [] pos) (eMeth c nm np F fo a) :=
  PE.weak (pe_methG ho hc hm G hgu hr hb pass0 ha hst hpl ht) fun σ H Q h => by
    obtain ⟨M, B, L, ρ, p, h⟩ := h
    refine ⟨M, B, L, ρ, p, (post.bind h).mono fun w L1 M1 eA R ext q v rv => ?_⟩
    obtain ⟨⟨n, c', fs⟩, ei, q1⟩ := q.opt
    obtain ⟨hg, q2⟩ := q1.guard
    rw [Bool.and_eq_true] at hg
    have hg' : c' = c := of_decide_eq_true hg.1
    obtain ⟨ew, _, ev, dx, gs, h1, h2, h3⟩ := ins_at R eA ei rv
    rw [hg'] at h1
    refine ⟨_, dx, gs, ev, h1, by rw [hx]; exact (lookup_getF h2 h3).2 (Option.isNone_iff_eq_none.mp hg.2), M1, B, L1, ρ, p.next eA R ext, (post.bind q2).mono fun ws L2 M2 eA2 R2 x2 q3 vs rvs => ?_⟩
    obtain ⟨hl, q4⟩ := q3.guard
    have hl : ws.length + 1 = np := of_decide_eq_true hl
    exact ⟨by show vs.length + 1 = np; rw [← rvs.length]; exact hl, M2, B, L2, w :: ws, rfl, eA2, R2, ⟨v, vs, rfl, rv.ext R x2, rvs⟩, q4⟩
theorem je_meth0 (ho : JE X T o fo) (hc : Cls X.K (T.cls c)) (hm : Meth X.K (T.cls c) m f) (G : FnG X.prog X.w X.K X.mg X.base CX0 k f fd ps (spOf X.K T 1 F)) (hgu : X.A.guards = some []) (hr : Room k X.A) (hb : Binds X.K fd ps []) (hx : m = ⟨nm.toArray⟩ := by decide)
    (ht : eval (.Call (.Attribute o m apos) [] [] pos) X.env = (do
      let ov ← eval o X.env
      standAt apos.atName
      let (f, first) ← holding [ov] (getMethod ov m pl)
      callWith pos f first (backTo pos (starEach [] X.env)) (backToKw pos (keywordEach [] X.env))) := by rfl) : JE X T (.Call (.Attribute o m apos) [] [] pos) (eMeth c nm 1 F fo aNil) :=
  PE.weak (pe_methG0 ho hc hm G hgu hr hb pass0 ht) fun σ H Q h => by
    obtain ⟨M, B, L, ρ, p, h⟩ := h
    refine ⟨M, B, L, ρ, p, (post.bind h).mono fun w L1 M1 eA R ext q v rv => ?_⟩
    obtain ⟨⟨n, c', fs⟩, ei, q1⟩ := q.opt
    obtain ⟨hg, q2⟩ := q1.guard
    rw [Bool.and_eq_true] at hg
    have hg' : c' = c := of_decide_eq_true hg.1
    obtain ⟨ew, _, ev, dx, gs, h1, h2, h3⟩ := ins_at R eA ei rv
    rw [hg'] at h1
    exact ⟨_, dx, gs, ev, h1, by rw [hx]; exact (lookup_getF h2 h3).2 (Option.isNone_iff_eq_none.mp hg.2), rfl, M1, B, L1, [w], rfl, eA, R, ⟨v, [], rfl, rv, rfl⟩, q2⟩
theorem je_make (hM : Mk X.K (T.cls c) f) (G : FnG X.prog X.w X.K X.mg X.base CX0 k f fd ps (spOf X.K T np F)) (hgu : X.A.guards = some []) (hr : Room (k + 1) X.A) (hm : X.mg x = some (.ref (T.cls c))) (hb : Binds X.K fd ps []) (ha : JA X T (e :: es) a) (hg : Gl X x := by rfl)
    (hdb : (x == ("__debug__" : Str)) = false := by decide) (he : starEach (e :: es) X.env = (false, eval e X.env) :: starEach es X.env := by rfl) (hpl : (backTo pos (starEach es X.env)).any (·.1) = false := by rfl) : JE X T (.Call (.Name x p) (e :: es) [] pos) (eMake c np F a) :=
  PE.weak (pe_makeG hM G hgu hr hg hm hb pass0 ha hdb he hpl) fun σ H Q h => by
    obtain ⟨M, B, L, ρ, p, h⟩ := h
    refine ⟨M, B, L, ρ, p, (post.bind h).mono fun ws L1 M1 eA R ext q vs rvs y dx hy hdx hne => ?_⟩
    obtain ⟨hl, q1⟩ := q.guard
    have hl : ws.length + 1 = np := of_decide_eq_true hl
    have g1 := garb (o := .own y) R hdx
    have hy' : ({ M1 with H := upd M1.H dx (.own y) } : Mem).H y = none := (upd_ne (fun z : y = dx => hne z.symm)).trans hy
    have R2 := more_rep (p := y) (h := .ins (T.cls c) dx []) (o := .ins c []) (S := M1.S) g1.1 (.inl hy') (fun a ha => ⟨ha, fun z => by
      obtain ⟨⟨u, h1, _⟩, _⟩ := R.sc a ha
      rw [z, hy] at h1
      cases h1⟩) ⟨dx, [], upd_same, rfl, rfl⟩
    have x2 := more_ext (p := y) (h := .ins (T.cls c) dx []) (o := .ins c []) (Ext0.refl { M1 with H := upd M1.H dx (.own y) }) hy' (fun _ _ => rfl) g1.1
    have x3 := g1.2.trans x2
    have lA : M1.A.length = B.length + L1.length := by rw [eA, List.length_append]
    have eA2 : (({ M1 with H := upd M1.H dx (.own y) } : Mem).more y (.ins (T.cls c) dx []) (.ins c []) M1.S).A = B ++ (L1 ++ [.ins c []]) := by
      show M1.A ++ [Ob.ins c []] = _
      rw [eA, List.append_assoc]
    have m0 : (({ M1 with H := upd M1.H dx (.own y) } : Mem).more y (.ins (T.cls c) dx []) (.ins c []) M1.S).m (B.length + L1.length) = y := by
      show (if B.length + L1.length = M1.A.length then y else _) = y
      rw [if_pos lA.symm]
    refine ⟨by show vs.length + 1 = np; rw [← rvs.length]; exact hl, _, B, L1 ++ [.ins c []], .ref (B.length + L1.length) :: ws, rfl, eA2, R2, ⟨.ref y, vs, rfl, ⟨?_, by rw [m0]⟩, rvs.ext R x3⟩, ?_⟩
    · rw [eA2, List.length_append, List.length_append]
      show _ < _ + (_ + 1)
      omega
    · refine (post.bind (post.later q1 x3)).mono fun z L2 M3 eA3 R3 x4 q2 v rv => ?_
      obtain ⟨hz, q3⟩ := q2.guard
      have ez : z = .d .non := by
        unfold nonW at hz
        split at hz
        · rfl
        · cases hz
      subst ez
      refine ⟨rv, q3.here eA3 R3 (.ref y) ⟨?_, ?_⟩⟩
      · refine Nat.lt_of_lt_of_le ?_ x4.len
        rw [eA2, List.length_append, List.length_append]
        show _ < _ + (_ + 1)
        omega
      · rw [x4.same _ (by
          rw [eA2, List.length_append, List.length_append]
          show _ < _ + (_ + 1)
          omega), m0]
end
end Ev

set_option Elab.async false
set_option linter.all false
set_option maxRecDepth 100000
set_option maxHeartbeats 1000000
set_option autoImplicit false
/-! EvZ: zip of two lists, of two tuples. -/
namespace Ev
open PySem PySem.Spec PyProof.Rows L2
def zipD : D → D → Option (List D)
  | .lst xs, .lst ys => if (xs.zip ys).all (fun p => !rowy [p.1, p.2]) = true then some ((xs.zip ys).map fun p => .tup [p.1, p.2]) else none
  | .tup xs, .tup ys => if (xs.zip ys).all (fun p => !rowy [p.1, p.2]) = true then some ((xs.zip ys).map fun p => .tup [p.1, p.2]) else none
  | _, _ => none
def zipW : List W → Option (List D)
  | [.d p, .d q] => zipD p q
  | _ => none
def iZip (a : SA) : SI := fun B ρ L => (a B ρ L).bind fun ws L1 => ofOpt (zipW ws) L1
section
variable {X : Cx} {T : Tb} {K : PySem.W.Frag} {B : Hs} {M0 : Mem}
theorem wk_zip {J : It} {xs ys : List D} {us vs : List V} (nr : (xs.zip ys).all (fun p => !rowy [p.1, p.2]) = true) (R0 : Rep K T M0) (ru : RVs K T M0 xs us) (rv : RVs K T M0 ys vs)
    (go : ∀ H i x y, At K T B M0 H → us[i]? = some x → vs[i]? = some y → J.go i H) (stop : ∀ H i, At K T B M0 H → us.length ≤ i ∨ vs.length ≤ i → J.stop i H)
    (yld : ∀ H i v H', At K T B M0 H → J.yld i H v H' → ∃ t x y, v = .ref t ∧ H t = none ∧ H' = upd H t (.tup [x, y]) ∧ us[i]? = some x ∧ vs[i]? = some y) :
    Wk K T J ((xs.zip ys).map fun p => .tup [p.1, p.2]) B M0 := by
  have ln : ((xs.zip ys).map fun p => D.tup [p.1, p.2]).length = min us.length vs.length := by rw [List.length_map, List.length_zip, ru.length, rv.length]
  refine ⟨fun i H v H' => ∃ t x y, v = .ref t ∧ H t = none ∧ H' = upd H t (.tup [x, y]) ∧ us[i]? = some x ∧ vs[i]? = some y, ⟨fun i H hi g => ?_, fun H g => ?_, fun i H v H' hi g y => yld H i v H' g y⟩, fun i v H' M L' x y eA R e hx => ?_⟩
  · rw [ln] at hi
    exact go H i _ _ g (List.getElem?_eq_getElem (by omega)) (List.getElem?_eq_getElem (by omega))
  · rw [ln]
    exact stop H _ g (by omega)
  · obtain ⟨t, x1, y1, rfl, ht, rfl, h1, h2⟩ := y
    rw [List.getElem?_map] at hx
    cases hz : (xs.zip ys)[i]? with
    | none => rw [hz] at hx; cases hx
    | some p =>
      rw [hz] at hx
      cases hx
      obtain ⟨z1, z2⟩ := p
      have nr' : rowy [z1, z2] = false := by
        have := List.all_eq_true.mp nr _ (List.mem_of_getElem? hz)
        rw [Bool.not_eq_true'] at this
        exact this
      have hz := List.getElem?_zip_eq_some.mp hz
      have g := garb (o := .tup [x1, y1]) R ht
      obtain ⟨u1, e1, r1⟩ := ru.get hz.1
      obtain ⟨u2, e2, r2⟩ := rv.get hz.2
      rw [h1] at e1
      rw [h2] at e2
      cases e1
      cases e2
      refine ⟨{ M with H := upd M.H t (.tup [x1, y1]) }, rfl, rfl, g.1, g.2, t, [x1, y1], rfl, ⟨.inl (.inl upd_same), fun z => by rw [nr'] at z; cases z⟩, x1, [y1], rfl, RV.ext R g.2 _ _ (RV.ext0 R0 e _ _ r1), y1, [], rfl, RV.ext R g.2 _ _ (RV.ext0 R0 e _ _ r2), rfl⟩
theorem sq_l {a : Addr} {us : List V} {H : Hp} (s : Sep M0 a) (l : M0.H a = some (.lst us)) (g : At K T B M0 H) : SqL K H a us := by
  obtain ⟨M, L', rfl, _, _, e⟩ := g
  exact .inl (.inl (e.keep _ _ l s))
theorem sq_t {a : Addr} {us : List V} {H : Hp} (R0 : Rep K T M0) (l : SqT K M0.H a us) (g : At K T B M0 H) : SqT K H a us := by
  obtain ⟨M, L', rfl, _, _, e⟩ := g
  exact e.sqT R0 l
theorem ji_zip {e e2 : Expr} {f : SA} {p pos tpos : Pos} {elts : List Expr} {kk : Nat} (hm : X.mg "zip" = none) (ha : JA X T [e, e2] f) (hg : Gl X "zip" := by rfl)
    (hs : starEach [e, e2] X.env = (false, eval e X.env) :: starEach [e2] X.env := by rfl) (hpl : (backTo pos (starEach [e2] X.env)).any (·.1) = false := by rfl) :
    JI X T (.Tuple elts kk tpos) (.Call (.Name "zip" p) [e, e2] [] pos) (Ev.iZip f) := by
  refine PI.weak (RZ.pi_zipA hg hm ha hs hpl) fun σ H R h => ?_
  obtain ⟨M, B, L, ρ, p, h⟩ := h
  refine ⟨M, B, L, ρ, p, (post.bind h).mono fun ws L1 M1 eA R1 x q vs rvs => ?_⟩
  obtain ⟨zs, ez, q⟩ := post.opt1 q
  unfold zipW at ez
  split at ez
  · rename_i d1 d2
    obtain ⟨v1, r1, rfl, h1, v2, r2, rfl, h2, rfl⟩ := rvs
    have h1 : RV X.K T M1 d1 v1 := h1
    have h2 : RV X.K T M1 d2 v2 := h2
    unfold zipD at ez
    split at ez
    · rename_i xs ys
      split at ez
      rotate_left
      · cases ez
      rename_i nr
      cases ez
      obtain ⟨a, us, rfl, sa, la, ra⟩ := h1
      obtain ⟨b, ts, rfl, sb, lb, rb⟩ := h2
      refine ⟨a, b, us, ts, rfl, .inl ⟨.inl (.inl la), .inl (.inl lb), q.here eA R1 _ (wk_zip nr R1 ra rb (fun H i x y g hx hy => ?_) (fun H i g hh => ?_) (fun H i v H' g y => ?_))⟩⟩
      · exact ⟨us, ts, x, y, sq_l sa la g, sq_l sb lb g, hx, hy⟩
      · exact ⟨us, ts, sq_l sa la g, sq_l sb lb g, hh⟩
      · obtain ⟨t, x, y, e1, e2, e3, f1, f2⟩ := y
        exact ⟨t, x, y, e1, e2, e3, f1 us (sq_l sa la g), f2 ts (sq_l sb lb g)⟩
    · rename_i xs ys
      split at ez
      rotate_left
      · cases ez
      rename_i nr
      cases ez
      obtain ⟨a, us, rfl, la, ra⟩ := h1
      obtain ⟨b, ts, rfl, lb, rb⟩ := h2
      have la := la.1
      have lb := lb.1
      refine ⟨a, b, us, ts, rfl, .inr ⟨la, lb, q.here eA R1 _ (wk_zip nr R1 ra rb (fun H i x y g hx hy => ?_) (fun H i g hh => ?_) (fun H i v H' g y => ?_))⟩⟩
      · exact ⟨us, ts, x, y, sq_t R1 la g, sq_t R1 lb g, hx, hy⟩
      · exact ⟨us, ts, sq_t R1 la g, sq_t R1 lb g, hh⟩
      · obtain ⟨t, x, y, e1, e2, e3, f1, f2⟩ := y
        exact ⟨t, x, y, e1, e2, e3, f1 us (sq_t R1 la g), f2 ts (sq_t R1 lb g)⟩
    · cases ez
  · cases ez
end
end Ev

set_option Elab.async false
set_option linter.all false
set_option maxRecDepth 100000
set_option maxHeartbeats 1000000
set_option autoImplicit false
/-! EvN: dicts with tuple keys, read. -/
namespace Ev
open PySem PySem.Spec PyProof.Rows L2
def nkGet {α : Type} (k : D) : List D → List α → Option α
  | a :: ks, y :: ys => if eqD a k = true then some y else nkGet k ks ys
  | _, _ => none
def dcnAt (B L : Hs) : W → Option (List D × List W)
  | .ref n => match look B L n with
    | some (.dcn ks ws) => some (ks, ws)
    | _ => none
  | _ => none
/-- d[k] -/
def eIxN (o i : SE) : SE := fun B ρ L => (o B ρ L).bind fun x L1 => (i B ρ L1).bind fun y L2 => (vwR B L2 y).bind fun p L2 => (ofOpt (dcnAt B L2 x) L2).bind fun kw L2 => (guardR (isNK p) L2).bind fun _ L2 => (ofOpt (nkGet p kw.1 kw.2) L2).bind fun w L2 => .ok w L2
section
variable {X : Cx} {T : Tb} {K : PySem.W.Frag} {M : Mem} {B L : Hs}
theorem nr_get {k : D} {kk : NestedKey} (hk : nk k = some kk) : ∀ {kvs : List NV} {xs : List (NestedKey × Addr × Value)} {ks : List D} {ws : List W}, Paired NR kvs xs → ks.map nk = kvs.map (fun p => some p.1) → RWs K T M ws (kvs.map (·.2.2)) →
    (∀ w, nkGet k ks ws = some w → ∃ v q, atKey xs kk = some q ∧ RW K T M w v ∧ RelV v q.2) ∧ (nkGet k ks ws = none → atKey xs kk = none)
  | _, _, [], ws, .nil, _, _ => ⟨(fun w e => by cases e), fun _ => rfl⟩
  | _, _, _ :: _, ws, .nil, e, _ => by cases e
  | _, _, [], ws, .cons _ _, e, _ => by cases e
  | _, _, d :: ks, ws, .cons (a := p) (b := q) (l₁ := ps) (l₂ := qs) h t, e, r => by
    have e1 : nk d = some p.1 := (List.cons.inj e).1
    have e2 : ks.map nk = ps.map (fun p => some p.1) := (List.cons.inj e).2
    cases ws with
    | nil => cases (show p.2.2 :: ps.map (·.2.2) = [] from r)
    | cons y ys =>
      obtain ⟨v, r1, q1, h1, h2⟩ := r
      have q1 : p.2.2 :: ps.map (·.2.2) = v :: r1 := q1
      cases q1
      have ih := nr_get hk t e2 h2
      unfold nkGet
      have d1 := eqD_dec e1 hk
      unfold atKey
      by_cases hh : p.1 = kk
      · rw [d1, decide_eq_true hh, if_pos rfl]
        have : (q :: qs).find? (fun x => decide (x.1 = kk)) = some q := by
          rw [List.find?_cons, show decide (q.1 = kk) = true from decide_eq_true (h.1.symm.trans hh)]
        rw [this]
        exact ⟨(fun w e => by cases e; exact ⟨_, _, rfl, h1, h.2.2⟩), (fun e => by cases e)⟩
      · rw [d1, decide_eq_false hh, if_neg Bool.false_ne_true]
        have : (q :: qs).find? (fun x => decide (x.1 = kk)) = qs.find? (fun x => decide (x.1 = kk)) := by
          rw [List.find?_cons, show decide (q.1 = kk) = false from decide_eq_false fun z => hh (h.1.trans z)]
        rw [this]
        exact ih
def rIxN (K : PySem.W.Frag) (T : Tb) : R2 := fun x y H Q => ∃ M p n ks ws w, M.H = H ∧ Rep K T M ∧ DV K T M p y ∧ x = .ref (M.m n) ∧ M.A[n]? = some (.dcn ks ws) ∧ isNK p = true ∧ nkGet p ks ws = some w ∧ ∀ v, RW K T M w v → Q v H
theorem ix_N (tw : T.w = X.w) (tp : T.P = X.prog) (hu : X.A.units + 10 < cLine) : IxR X (rIxN X.K T) := by
  intro value slice pins s σ H x y v u Q I rx ry h hs
  obtain ⟨M, p, n, ks, ws, w, rfl, R, d, rfl, en, hk, hw, q⟩ := h
  obtain ⟨kvs, e1, e2, e3, e4, e5⟩ := R.at_ n _ en
  rw [tw, tp] at e1
  obtain ⟨kk, k1, k2⟩ := isNK_ok hk
  have rp := dn_rv hk d
  obtain ⟨z, hd, xs, rel, dd⟩ := dn_of I e1 e2 e3 e4
  obtain rfl : v = Value.ref (M.m n) := rx
  cases p with
  | tup ys =>
    obtain ⟨a, vs, rfl, sq, rv⟩ := rp
    obtain rfl : u = Value.ref a := ry
    have ki := nest_is I (.tup ys) _ _ _ ⟨a, vs, rfl, sq, rv⟩ (show RelV (.ref a) (.ref a) from rfl) k1
    obtain ⟨v', qq, g1, g2, g3⟩ := (nr_get k1 rel e3 e5).1 w hw
    exact tail_any dd.typeIs PySem.F.slot_dict_getitem.lookup (wpAny_getItem_heap (room9 hu) ⟨ki, k2⟩ dd g1 ⟨v', M.H, I.tok _, g3, q v' g2⟩) hs
  | _ => cases hk
theorem dcn_at (eA : M.A = B ++ L) {x : W} {v : V} {kw : List D × List W} (h : dcnAt B L x = some kw) (r : RW K T M x v) : ∃ n, v = .ref (M.m n) ∧ M.A[n]? = some (.dcn kw.1 kw.2) := by
  unfold dcnAt at h
  cases x with
  | d _ => cases h
  | ref k =>
    dsimp only at h
    split at h
    · rename_i ks ws e
      cases h
      exact ⟨k, r.2, by rw [eA]; exact e⟩
    · cases h
theorem je_ixN {a b : Expr} {fa fb : SE} {pos : Pos} (tw : T.w = X.w) (tp : T.P = X.prog) (hu : X.A.units + 10 < cLine) (ha : JE X T a fa) (hb : JE X T b fb) (hs : PlainIx b := by exact fun _ _ => rfl) : JE X T (.Subscript a b pos) (eIxN fa fb) :=
  PE.weak (pe_ix (ix_N tw tp hu) ha hb hs) fun σ H Q h => by
    obtain ⟨M, B, L, ρ, p, h⟩ := h
    refine ⟨M, B, L, ρ, p, (post.bind h).mono fun w L1 M1 eA R x q v rv => ?_⟩
    refine ⟨M1, B, L1, ρ, p.next eA R x, (post.bind q).mono fun w2 L2 M2 eA2 R2 x2 q2 v2 rv2 => ?_⟩
    obtain ⟨pd, e1, d1, q3⟩ := q2.view R2 eA2 rv2
    obtain ⟨kw, e2, q4⟩ := q3.opt
    obtain ⟨hk, q5⟩ := q4.guard
    obtain ⟨w3, e3, q6⟩ := q5.opt
    obtain ⟨n, rfl, en⟩ := dcn_at eA2 e2 (rv.ext R x2)
    exact ⟨M2, pd, n, kw.1, kw.2, w3, rfl, R2, d1, rfl, en, hk, e3, q6.here eA2 R2⟩
end
end Ev

set_option Elab.async false
set_option linter.all false
set_option maxRecDepth 100000
set_option maxHeartbeats 1000000
set_option autoImplicit false
/-! EvN2: d.get(k, x) with tuple keys. -/
namespace Ev
open PySem PySem.Spec PyProof.Rows L2
def eGetN (o k x : SE) : SE := fun B ρ L => (o B ρ L).bind fun w L1 => (guardR (dcnAt B L1 w).isSome L1).bind fun _ L1 => (k B ρ L1).bind fun y L2 => (x B ρ L2).bind fun z L3 => (vwR B L3 y).bind fun p L3 => (ofOpt (dcnAt B L3 w) L3).bind fun kw L3 =>
  (guardR (isNK p) L3).bind fun _ L3 => .ok ((nkGet p kw.1 kw.2).getD z) L3
section
variable {X : Cx} {T : Tb} {K : PySem.W.Frag} {M : Mem} {B L : Hs} {o e f : Expr} {td ty tx : TE} {apos cpos : Pos}
theorem dcn_ty {pins : List (Addr × Obj)} {σ : L2.St} {s : Shared} {n : Nat} {ks : List D} {ws : List W} (tw : T.w = X.w) (tp : T.P = X.prog) (I : Inv X pins σ M.H s) (R : Rep X.K T M) (en : M.A[n]? = some (.dcn ks ws)) :
    s.TypeIs (.ref (M.m n)) "dict" ∧ (∀ b, Value.ref (M.m n) = .ref b → ∃ ob, s.heap.get? b = some ob ∧ ob.dict = none) := by
  obtain ⟨kvs, e1, e2, e3, e4, e5⟩ := R.at_ n _ en
  rw [tw, tp] at e1
  obtain ⟨z, hd, xs, rel, dd⟩ := dn_of I e1 e2 e3 e4
  refine ⟨dd.typeIs, fun b q => ?_⟩
  cases q
  obtain ⟨ob, es, ep, h1, h2, _⟩ := dd
  exact ⟨ob, h1, h2.2.1⟩
theorem pe_getN (tw : T.w = X.w) (tp : T.P = X.prog) (hu : X.A.units + 10 < cLine) (ho : PE X o td) (he : PE X e ty) (hf : PE X f tx) (m : M2 X o "get" apos e f cpos) : PE X (.Call (.Attribute o "get" apos) [e, f] [] cpos)
    (fun σ H Q => td σ H fun x H1 => (∃ M n ks ws, M.H = H1 ∧ Rep X.K T M ∧ x = .ref (M.m n) ∧ M.A[n]? = some (.dcn ks ws)) ∧ ty σ H1 fun y H2 => tx σ H2 fun z H3 =>
      ∃ M n ks ws p w3, M.H = H3 ∧ Rep X.K T M ∧ x = .ref (M.m n) ∧ M.A[n]? = some (.dcn ks ws) ∧ DV X.K T M p y ∧ isNK p = true ∧ RW X.K T M w3 z ∧ ∀ v, RW X.K T M ((nkGet p ks ws).getD w3) v → Q v H3) := by
  refine ⟨fun pins s σ H Q I h => ?_⟩
  refine wpAny_Call_method m.base m.few m.line PySem.F.plainAttrs_dict PySem.F.slot_dict_get PySem.F.type_dict_get (thn (ho.run pins s σ H _ I h) fun u s1 ⟨x, H1, I1, rx, ⟨M, n, ks, ws, eH, R, ex, en⟩, q1⟩ => ?_)
  subst ex eH
  obtain rfl : u = Value.ref (M.m n) := rx
  obtain ⟨t1, t2⟩ := dcn_ty tw tp I1 R en
  refine ⟨t1, t2, ?_⟩
  rw [m.trees]
  refine Calls.callWith_builtin rfl (Calls.evalArgs_plain (Calls.spliced_cons (thn (he.run pins s1 σ M.H _ I1 q1) fun iv s2 ⟨y, H2, I2, ry, q2⟩ =>
    Calls.spliced_cons (thn (hf.run pins s2 σ H2 _ I2 q2) fun fv s3 ⟨z, H3, I3, rz, M3, n3, ks3, ws3, p, w3, eH3, R3, ex3, en3, d3, hk, r3, q3⟩ => Calls.spliced_nil ?_))))
  subst eH3
  obtain ⟨kvs, e1, e2, e3, e4, e5⟩ := R3.at_ n3 _ en3
  rw [tw, tp] at e1
  obtain ⟨kk, k1, k2⟩ := isNK_ok hk
  have rp := dn_rv hk d3
  obtain ⟨zz, hd, xs, rel, dd⟩ := dn_of I3 e1 e2 e3 e4
  cases p with
  | tup ys =>
    obtain ⟨a, vs, rfl, sq, rv⟩ := rp
    obtain rfl : iv = Value.ref a := ry
    have ki := nest_is I3 (.tup ys) _ _ _ ⟨a, vs, rfl, sq, rv⟩ (show RelV (.ref a) (.ref a) from rfl) k1
    have em : M.m n = M3.m n3 := V.ref.inj ex3
    rw [em]
    have g := nr_get k1 rel e3 e5
    refine call_meetsIn PySem.F.slot_dict_get dd.typeIs PySem.F.entry_dict_get (PySem.F.args_dict_get_3 _ _ _) (meetsH_dict_get_default (nestedKind X.prog X.w) _ a hd fv) ⟨room9 hu, _, xs, ⟨ki, k2⟩, dd, ?_⟩
    cases hw : nkGet (.tup ys) ks3 ws3 with
    | none =>
      rw [g.2 hw]
      rw [hw] at q3
      exact ⟨z, M3.H, I3.tok _, rz, q3 z r3⟩
    | some w =>
      obtain ⟨v', qq, g1, g2, g3⟩ := g.1 w hw
      rw [g1]
      rw [hw] at q3
      exact ⟨v', M3.H, I3.tok _, g3, q3 v' g2⟩
  | _ => cases hk
theorem je_getN {fo fe ff : SE} (tw : T.w = X.w) (tp : T.P = X.prog) (hu : X.A.units + 10 < cLine) (ho : JE X T o fo) (he : JE X T e fe) (hf : JE X T f ff) (m : M2 X o "get" apos e f cpos := by exact ⟨rfl, rfl, rfl, rfl⟩) : JE X T (.Call (.Attribute o "get" apos) [e, f] [] cpos) (eGetN fo fe ff) :=
  PE.weak (pe_getN tw tp hu ho he hf m) fun σ H Q h => by
    obtain ⟨M, B, L, ρ, p, h⟩ := h
    refine ⟨M, B, L, ρ, p, (post.bind h).mono fun w L1 M1 eA R x q v rv => ?_⟩
    obtain ⟨hg, q0⟩ := q.guard
    obtain ⟨kw0, e0⟩ := Option.isSome_iff_exists.mp hg
    obtain ⟨n0, ev0, en0⟩ := dcn_at eA e0 rv
    refine ⟨⟨M1, n0, kw0.1, kw0.2, rfl, R, ev0, en0⟩, M1, B, L1, ρ, p.next eA R x, (post.bind q0).mono fun w2 L2 M2 eA2 R2 x2 q2 v2 rv2 => ?_⟩
    refine ⟨M2, B, L2, ρ, (p.next eA R x).next eA2 R2 x2, (post.bind q2).mono fun w3 L3 M3 eA3 R3 x3 q3 v3 rv3 => ?_⟩
    obtain ⟨pd, e1, d1, q4⟩ := q3.view R3 eA3 (rv2.ext R2 x3)
    obtain ⟨kw, e2, q5⟩ := q4.opt
    obtain ⟨hk, q6⟩ := q5.guard
    obtain ⟨n, ev, en⟩ := dcn_at eA3 e2 ((rv.ext R x2).ext R2 x3)
    exact ⟨M3, n, kw.1, kw.2, pd, w3, rfl, R3, ev, en, d1, hk, rv3, q6.here eA3 R3⟩
end
end Ev

set_option Elab.async false
set_option linter.all false
set_option maxRecDepth 100000
set_option maxHeartbeats 1000000
set_option autoImplicit false
/-! EvSt: sorting pairs of texts. -/
namespace Ev
open PySem PySem.Spec PyProof.Rows L2 Srt SrtO
abbrev SS2 := List Nat × List Nat
def lexP (p q : SS2) : Bool := if p.1 = q.1 then decide (p.2 < q.2) else decide (p.1 < q.1)
def IsPairS (h : Heap) (v : Value) (p : SS2) : Prop := ∃ a o t u n, v = .ref a ∧ h.get? a = some o ∧ o.cls = .type "tuple" ∧ o.data = .seq #[.str ⟨p.1.toArray⟩ t, .str ⟨p.2.toArray⟩ u] n
theorem IsPairS.keeps {h h' : Heap} {v : Value} {p : SS2} (x : IsPairS h v p) (k : ∀ b o, h.get? b = some o → o.cls = .type "tuple" → h'.get? b = some o) : IsPairS h' v p := by
  obtain ⟨a, o, t, u, n, e, ho, hc, hd⟩ := x
  exact ⟨a, o, t, u, n, e, k _ _ ho hc, hc, hd⟩
theorem ltN_irr (s : List Nat) : ¬ s < s := List.lt_irrefl s
theorem swo_lexP (k : Value → SS2) : Swo fun v u => lexP (k v) (k u) := by
  refine ⟨fun x y h => ?_, fun x y z h1 h2 => ?_⟩
  · unfold lexP at h ⊢
    by_cases e : (k x).1 = (k y).1
    · rw [if_pos e] at h
      rw [if_pos e.symm]
      exact decide_eq_false fun z => List.lt_asymm (of_decide_eq_true h) z
    · rw [if_neg e] at h
      rw [if_neg fun z => e z.symm]
      exact decide_eq_false fun z => List.lt_asymm (of_decide_eq_true h) z
  · unfold lexP at h1 h2 ⊢
    by_cases e : (k y).1 = (k x).1
    · rw [if_pos e] at h1
      by_cases f : (k z).1 = (k y).1
      · rw [if_pos f] at h2
        rw [if_pos (f.trans e)]
        refine decide_eq_false fun w => ?_
        have a := List.not_lt.mp (of_decide_eq_false h1)
        have b := List.not_lt.mp (of_decide_eq_false h2)
        exact List.not_lt.mpr (List.le_trans a b) w
      · rw [if_neg f] at h2
        rw [if_neg fun w => f (w.trans e.symm), ← e]
        exact h2
    · rw [if_neg e] at h1
      by_cases f : (k z).1 = (k y).1
      · rw [if_neg fun w => e (f.symm.trans w), f]
        exact h1
      · rw [if_neg f] at h2
        have a := List.not_lt.mp (of_decide_eq_false h1)
        have b := List.not_lt.mp (of_decide_eq_false h2)
        have c : (k x).1 ≤ (k z).1 := List.le_trans a b
        by_cases g : (k z).1 = (k x).1
        · rw [g] at b
          exact absurd (List.le_antisymm b a) e
        · rw [if_neg g]
          exact decide_eq_false fun w => List.not_lt.mpr c w
section
variable {prog : Program} {w : World} {A : Around} {s : Shared}
theorem str_beq {x y : List Nat} : ((⟨x.toArray⟩ : Str) == ⟨y.toArray⟩) = decide (x = y) := by
  by_cases q : x = y
  · rw [decide_eq_true q, q]; exact beq_self_eq_true _
  · rw [decide_eq_false q]
    refine beq_eq_false_iff_ne.mpr fun z => q ?_
    have := congrArg (fun x : Str => x.cps.toList) z
    simpa using this
theorem pair_cmpS {vs : List Value} {k : Value → SS2} (hp : ∀ v ∈ vs, IsPairS s.heap v (k v)) : Cmp prog w A s (tuples' true) (fun p => p.1 ∈ vs) (lt2 fun v u => lexP (k v) (k u)) := by
  intro p q hm hm'
  have h1 := hp _ hm
  have h2 := hp _ hm'
  show wpAny (model prog w) A (keyLt' (tuples' true) p.1 q.1) (fun r s' => s' = s ∧ r = lexP (k p.1) (k q.1)) (fun _ _ => False) s
  unfold lexP
  obtain ⟨a, o, t, u, n, e, ho, hc, hd⟩ := h1
  obtain ⟨a', o', t', u', n', e', ho', hc', hd'⟩ := h2
  generalize k p.1 = X at hd ⊢
  generalize k q.1 = Y at hd' ⊢
  obtain ⟨x, y⟩ := X
  obtain ⟨x', y'⟩ := Y
  dsimp only at hd hd' ⊢
  rw [e, e']
  refine PySem.W.kat_lt ho hd ho' hd' ?_
  show PySem.W.KatLex prog w A true (decide (2 < 2)) _ [(.str ⟨x.toArray⟩ t, .str ⟨x'.toArray⟩ t'), (.str ⟨y.toArray⟩ u, .str ⟨y'.toArray⟩ u')] 0 s
  refine PySem.W.kat_cons (SeqAt.EqAt.str_str _ t _ t' prog w _ _ ?_)
  refine PySem.W.kat_go (fun e1 => ?_) (fun e1 => ?_)
  · have ex : x = x' := by rw [str_beq] at e1; exact of_decide_eq_true e1
    refine PySem.W.kat_yes (PySem.W.kat_cons (SeqAt.EqAt.str_str _ u _ u' prog w _ _ ?_))
    refine PySem.W.kat_go (fun e2 => ?_) (fun e2 => ?_)
    · have ey : y = y' := by rw [str_beq] at e2; exact of_decide_eq_true e2
      have e3 : (if x = x' then decide (y < y') else decide (x < x')) = false := by
        rw [if_pos ex, ey]
        exact decide_eq_false (List.lt_irrefl _)
      exact PySem.W.kat_yes (PySem.W.kat_nil ⟨rfl, e3.symm⟩)
    · have e3 : (if x = x' then decide (y < y') else decide (x < x')) = decide (y < y') := if_pos ex
      refine PySem.W.kat_no (PySem.W.kat_one _ _ (PyProof.Rows.lt_str ?_))
      exact (show s = s ∧ decide (y < y') = (if x = x' then decide (y < y') else decide (x < x')) from ⟨rfl, e3.symm⟩)
  · have ex : ¬ x = x' := by rw [str_beq] at e1; exact of_decide_eq_false e1
    have e3 : (if x = x' then decide (y < y') else decide (x < x')) = decide (x < x') := if_neg ex
    exact PySem.W.kat_no (oneLt_str ⟨rfl, e3.symm⟩)
theorem firstsS {h : Heap} : ∀ {vs : List Value}, (∀ v ∈ vs, ∃ p, IsPairS h v p) → ∃ fs : List Value, PySem.W.KatTups h vs fs ∧ fs.length = vs.length ∧ ∀ f ∈ fs, ∃ x t, f = Value.str x t
  | [], _ => ⟨[], PySem.W.KatTups.nil, rfl, fun _ hm => by simp at hm⟩
  | v :: vs, hp => by
    obtain ⟨fs, h1, h2, h3⟩ := firstsS (vs := vs) fun v' hm => hp v' (List.mem_cons_of_mem _ hm)
    obtain ⟨p, a, o, t, u, n, e, ho, hc, hd⟩ := hp v (List.mem_cons_self ..)
    subst e
    refine ⟨.str ⟨p.1.toArray⟩ t :: fs, PySem.W.KatTups.cons ho hc hd rfl h1, by rw [List.length_cons, List.length_cons, h2], fun f hm => ?_⟩
    rcases List.mem_cons.mp hm with rfl | hm
    · exact ⟨_, t, rfl⟩
    · exact h3 f hm
theorem pairsS_sortable {a : Addr} {vs : List Value} {k : Value → SS2} (h0 : 0 < vs.length) (hp : ∀ v ∈ vs, IsPairS s.heap v (k v)) (ha : ∀ o, s.heap.get? a = some o → o.cls ≠ .type "tuple") : SortableO prog w A s a vs fun v u => lexP (k v) (k u) := by
  intro h' keep
  have hp' : ∀ v ∈ vs, IsPairS h' v (k v) := fun v hm => (hp v hm).keeps fun b o e c => keep b o (fun z => by subst z; exact ha o e c) e
  obtain ⟨fs, h1, h2, h3⟩ := firstsS fun v hm => ⟨_, hp' v hm⟩
  refine ⟨tuples' true, fun Q E hq => ?_, pair_cmpS hp'⟩
  refine PySem.W.kat_kind (T := .type "str") h1 (by omega) (fun f hm => ?_) (by rfl) ?_
  · obtain ⟨x, t, rfl⟩ := h3 f hm
    exact PySem.W.Looks.now
  · have e : (Value.type "str" != Value.type "tuple") = true := by first | decide +kernel | rfl | decide
    rw [e]
    exact hq
end
end Ev

set_option Elab.async false
set_option linter.all false
set_option maxRecDepth 100000
set_option maxHeartbeats 1000000
set_option autoImplicit false
/-! EvSr: sorted(x), x a thing that is walked. -/
namespace Ev
open PySem PySem.Spec PyProof.Rows L2 Srt SrtO
section
variable {prog : Program} {w : World} {A : Around} {E : Value → Shared → Prop} {s : Shared} {T : String} {r d : Addr} {n : Nat} {P : Nat → Value → Prop} {OK : Heap → Prop} {ltv : Value → Value → Bool} {Q : Value → Shared → Prop}
theorem sorted_src (O : Swo ltv) (K : PySem.W.KdlSrc prog w T r d n P OK) (hh : A.handled = none) (hok : OK s.heap) (hn : n ≤ sizeLine)
    (hS : ∀ (s1 : Shared) (a : Addr) (vs : List Value), vs.length = n → (∀ (j : Nat) (v : Value), vs[j]? = some v → P j v) → s1.heap.get? a = some (seqObj "list" vs.toArray 0) → (∀ b o, s.heap.get? b = some o → b ≠ a ∧ s1.heap.get? b = some o) → 2 ≤ n → SortableO prog w A.in1.in1 s1 a vs ltv)
    (h : ∀ (h' : Heap) (tk : Nat) (a : Addr) (vs out : List Value), vs.length = n → (∀ (j : Nat) (v : Value), vs[j]? = some v → P j v) → Srtd ltv out → Stb ltv out vs → (∀ b o, s.heap.get? b = some o → h'.get? b = some o) → s.heap.get? a = none → (∃ m, h'.get? a = some (seqObj "list" out.toArray m)) → Q (.ref a) { s with heap := h', toks := tk }) :
    wpAny (model prog w) A (PySem.call (.builtin "sorted") [.ref r]) Q E s := by
  refine Calls.call_function_entry kind_sorted plain_sorted entry_sorted (args_sorted1 _) ?_
  unfold Builtin.«sorted»
  refine wpAny_bind (m := checkCount "sorted" 1 1 _) (wpAny_pure ?_)
  refine wpAny_bind (PySem.W.kdu_collect (A := A.in1) K hh hok hn fun h' tk acc hk hacc => ?_)
  have hl : acc.toList.length = n := by rw [Array.length_toList]; exact hacc.1
  have hP : ∀ (j : Nat) (v : Value), acc.toList[j]? = some v → P j v := fun j v e => hacc.2 j v (by rw [← Array.getElem?_toList]; exact e)
  refine wpAny_bind (wpAny_newList ?_ (by rw [hl]; exact hn))
  generalize acc.toList = vs at hl hP ⊢
  have hoL : (h'.push (seqObj "list" vs.toArray 0)).get? h'.objs.size = some (seqObj "list" vs.toArray 0) := Heap.get?_push_size _ rfl
  have keep : ∀ b o, s.heap.get? b = some o → b ≠ h'.objs.size ∧ (h'.push (seqObj "list" vs.toArray 0)).get? b = some o := fun b o q =>
    ⟨Nat.ne_of_lt (Heap.lt_size (hk b o q)), Heap.get?_push_of_some _ (hk b o q)⟩
  show wpAny _ _ _ _ _ { s with heap := h'.push (seqObj "list" vs.toArray 0), toks := tk }
  refine wpAny_bind (wpAny_holding (wpAny_call_entry slot_list_sort ⟨_, hoL, rfl⟩ entry_list_sort (list_sort_ord O hoL (by rw [hl]; exact hn) (fun h2 => hS _ _ vs hl hP hoL keep (by omega)) fun out hs hb => ⟨_, rfl, ?_⟩) (args_list_sort _)))
  refine wpAny_pure ⟨_, rfl, h _ tk _ vs out hl hP hs hb (fun b o q => ?_) ?_ ?_⟩
  · rw [show ({ s with heap := h'.push (seqObj "list" vs.toArray 0), toks := tk } : Shared).heap = h'.push (seqObj "list" vs.toArray 0) from rfl, sortedHeap_old (keep b o q).1 (Heap.lt_size (keep b o q).2)]
    exact (keep b o q).2
  · cases e : s.heap.get? h'.objs.size with
    | none => rfl
    | some o => exact absurd (Heap.lt_size (hk _ _ e)) (Nat.lt_irrefl _)
  · exact sortedHeap_at hoL
end
end Ev

set_option Elab.async false
set_option linter.all false
set_option maxRecDepth 100000
set_option maxHeartbeats 1000000
set_option autoImplicit false
/-! EvSp: pairs of texts in order, by insertion. -/
namespace Ev
open SrtO
def insP (p : SS2) : List SS2 → List SS2
  | [] => [p]
  | q :: r => if lexP q p = true then q :: insP p r else p :: q :: r
def sortP : List SS2 → List SS2
  | [] => []
  | p :: r => insP p (sortP r)
theorem lexP_anti {x y : SS2} (h1 : lexP x y = false) (h2 : lexP y x = false) : x = y := by
  obtain ⟨a, b⟩ := x
  obtain ⟨c, d⟩ := y
  unfold lexP at h1 h2
  dsimp only at h1 h2
  by_cases e : a = c
  · rw [if_pos e] at h1
    rw [if_pos e.symm] at h2
    rw [e, List.le_antisymm (List.not_lt.mp (of_decide_eq_false h2)) (List.not_lt.mp (of_decide_eq_false h1))]
  · rw [if_neg e] at h1
    rw [if_neg fun z => e z.symm] at h2
    exact absurd (List.le_antisymm (List.not_lt.mp (of_decide_eq_false h2)) (List.not_lt.mp (of_decide_eq_false h1))) e
theorem swoP : Swo lexP := by
  have s := fun k => swo_lexP k
  refine ⟨fun x y h => ?_, fun x y z h1 h2 => ?_⟩
  · have := (s fun v => match v with | .none => x | _ => y).asym (.none) (.bool true) h
    exact this
  · have := (s fun v => match v with | .none => x | .bool true => y | _ => z).tr (.none) (.bool true) (.bool false) h1 h2
    exact this
theorem insP_perm (p : SS2) : ∀ l : List SS2, (insP p l).Perm (p :: l)
  | [] => List.Perm.refl _
  | q :: r => by
    unfold insP
    split
    · exact (List.Perm.cons q (insP_perm p r)).trans (List.Perm.swap p q r)
    · exact List.Perm.refl _
theorem sortP_perm : ∀ l : List SS2, (sortP l).Perm l
  | [] => List.Perm.refl _
  | p :: r => (insP_perm p (sortP r)).trans (List.Perm.cons p (sortP_perm r))
theorem insP_srtd (p : SS2) : ∀ l : List SS2, Srtd lexP l → Srtd lexP (insP p l)
  | [], _ => srtd_one p
  | q :: r, h => by
    have h' := List.pairwise_cons.mp h
    unfold insP
    split
    · rename_i c
      refine List.pairwise_cons.mpr ⟨fun y hy => ?_, insP_srtd p r h'.2⟩
      rcases List.mem_cons.mp ((insP_perm p r).mem_iff.mp hy) with rfl | hy
      · exact swoP.asym _ _ c
      · exact h'.1 y hy
    · rename_i c
      have c : lexP q p = false := by
        cases e : lexP q p
        · rfl
        · exact absurd e c
      refine List.pairwise_cons.mpr ⟨fun y hy => ?_, h⟩
      rcases List.mem_cons.mp hy with rfl | hy
      · exact c
      · exact swoP.tr _ _ _ c (h'.1 y hy)
theorem sortP_srtd : ∀ l : List SS2, Srtd lexP (sortP l)
  | [] => List.Pairwise.nil
  | p :: r => insP_srtd p _ (sortP_srtd r)
theorem srtd_uniq : ∀ {l m : List SS2}, Srtd lexP l → Srtd lexP m → l.Perm m → l = m
  | [], m, _, _, p => by rw [List.Perm.nil_eq p]
  | a :: l, [], _, _, p => by cases List.Perm.eq_nil p
  | a :: l, b :: m, h1, h2, p => by
    have g1 := List.pairwise_cons.mp h1
    have g2 := List.pairwise_cons.mp h2
    have e : a = b := by
      rcases List.mem_cons.mp (p.mem_iff.mp (List.mem_cons_self ..) : a ∈ b :: m) with e | ha
      · exact e
      · rcases List.mem_cons.mp (p.mem_iff.mpr (List.mem_cons_self ..) : b ∈ a :: l) with e | hb
        · exact e.symm
        · exact lexP_anti (g2.1 a ha) (g1.1 b hb)
    subst e
    rw [srtd_uniq g1.2 g2.2 (List.Perm.cons_inv p)]
theorem sortP_uniq {l ps : List SS2} (h : Srtd lexP l) (p : l.Perm ps) : l = sortP ps := srtd_uniq h (sortP_srtd ps) (p.trans (sortP_perm ps).symm)
end Ev

set_option Elab.async false
set_option linter.all false
set_option maxRecDepth 100000
set_option maxHeartbeats 1000000
set_option autoImplicit false
/-! EvSn: sorted(d), d a dict whose keys are pairs of texts. -/
namespace Ev
open PySem PySem.Spec PyProof.Rows L2 Srt SrtO
def pairD (p : SS2) : D := .tup [.str p.1, .str p.2]
def unD : D → Option SS2
  | .tup [.str a, .str b] => some (a, b)
  | _ => none
def unDs : List D → Option (List SS2)
  | [] => some []
  | x :: xs => match unD x, unDs xs with
    | some p, some ps => some (p :: ps)
    | _, _ => none
def eSortN (o : SE) : SE := fun B ρ L => (o B ρ L).bind fun x L1 => (ofOpt (dcnAt B L1 x) L1).bind fun kw L1 => (ofOpt (unDs kw.1) L1).bind fun ps L1 => .ok (.d (.lst ((sortP ps).map pairD))) L1
theorem unD_eq {x : D} {p : SS2} (h : unD x = some p) : x = pairD p := by
  unfold unD at h
  split at h
  · cases h; rfl
  · cases h
theorem unDs_eq : ∀ {xs : List D} {ps : List SS2}, unDs xs = some ps → xs = ps.map pairD
  | [], ps, h => by cases h; rfl
  | x :: xs, ps, h => by
    unfold unDs at h
    split at h
    · rename_i p qs e1 e2
      cases h
      rw [unD_eq e1, unDs_eq e2]
      rfl
    · cases h
theorem isPairS_fun {h : Heap} {v : Value} {p q : SS2} (x : IsPairS h v p) (y : IsPairS h v q) : p = q := by
  obtain ⟨a, o, t, u, n, e, ho, hc, hd⟩ := x
  obtain ⟨a', o', t', u', n', e', ho', hc', hd'⟩ := y
  rw [e] at e'
  cases e'
  rw [ho] at ho'
  cases ho'
  rw [hd] at hd'
  injection hd' with h1 _
  have h2 := congrArg Array.toList h1
  simp only [List.cons.injEq, Value.str.injEq] at h2
  obtain ⟨⟨h3, _⟩, ⟨h4, _⟩, _⟩ := h2
  have h3 := congrArg (fun x : Str => x.cps.toList) h3
  have h4 := congrArg (fun x : Str => x.cps.toList) h4
  simp at h3 h4
  exact Prod.ext h3 h4
open Classical in
noncomputable def keyP (h : Heap) (v : Value) : SS2 := if x : ∃ p, IsPairS h v p then Classical.choose x else ([], [])
theorem keyP_eq {h : Heap} {v : Value} {p : SS2} (x : IsPairS h v p) : keyP h v = p := by
  unfold keyP
  rw [dif_pos ⟨p, x⟩]
  exact isPairS_fun (Classical.choose_spec (⟨p, x⟩ : ∃ p, IsPairS h v p)) x
section
variable {X : Cx} {T : Tb} {K : PySem.W.Frag} {M : Mem} {B L : Hs} {pins : List (Addr × Obj)} {σ : L2.St} {s : Shared}
theorem pair_is (I : Inv X pins σ M.H s) {p : SS2} {a : Addr} (r : RV X.K T M (pairD p) (.ref a)) : IsPairS s.heap (.ref a) p := by
  obtain ⟨b, vs, e, sq, rv⟩ := r
  cases e
  obtain ⟨v1, r1, rfl, e1, v2, r2, rfl, e2, e3⟩ := rv
  obtain rfl : r2 = [] := e3
  obtain rfl : v1 = .str ⟨p.1.toArray⟩ := e1
  obtain rfl : v2 = .str ⟨p.2.toArray⟩ := e2
  obtain ⟨its, rr, ⟨o, ho, hc, n, hd⟩, _⟩ := I.tuple sq.1
  obtain ⟨u1, u2, rfl, ri, rj⟩ := vals2 rr
  obtain ⟨t1, rfl⟩ := ri
  obtain ⟨t2, rfl⟩ := rj
  exact ⟨a, o, t1, t2, n, rfl, ho, hc, hd⟩
def rSortN (K : PySem.W.Frag) (T : Tb) : List V → Hp → VK → Prop := fun xs H Q => ∃ M n ks ws ps, M.H = H ∧ Rep K T M ∧ xs = [V.ref (M.m n)] ∧ M.A[n]? = some (.dcn ks ws) ∧ unDs ks = some ps ∧ ∀ M' v, M'.A = M.A → Rep K T M' → Ext M M' → RV K T M' (.lst ((sortP ps).map pairD)) v → Q v M'.H
theorem rvs_get : ∀ {xs : List D} {vs : List V} {i : Nat} {v : V}, RVs K T M xs vs → vs[i]? = some v → ∃ d, xs[i]? = some d ∧ RV K T M d v
  | [], vs, i, v, h, e => by
    rw [show vs = [] from h] at e
    simp at e
  | x :: xs, vs, i, v, h, e => by
    obtain ⟨u, r, rfl, h1, h2⟩ := h
    cases i with
    | zero => cases e; exact ⟨x, rfl, h1⟩
    | succ i =>
      obtain ⟨d, h3, h4⟩ := rvs_get (xs := xs) (i := i) h2 e
      exact ⟨d, h3, h4⟩
theorem paired_get {α β : Type} {R : α → β → Prop} {xs : List α} {ys : List β} (h : Paired R xs ys) : ∀ {i : Nat} {y : β}, ys[i]? = some y → ∃ x, xs[i]? = some x ∧ R x y := by
  induction h with
  | nil => intro i y e; simp at e
  | cons h t ih =>
    intro i y e
    cases i with
    | zero => cases e; exact ⟨_, rfl, h⟩
    | succ i => exact ih e
theorem rvs_out {f : Value → SS2} : ∀ {out : List Value}, (∀ v ∈ out, ∃ a, v = .ref a ∧ RV K T M (pairD (f v)) (.ref a)) → RVs K T M ((out.map f).map pairD) (out.map backV)
  | [], _ => rfl
  | v :: out, h => by
    obtain ⟨a, e, r⟩ := h v List.mem_cons_self
    refine ⟨.ref a, out.map backV, by subst e; rfl, r, rvs_out fun u hu => h u (List.mem_cons_of_mem _ hu)⟩
theorem cr_sortN (tw : T.w = X.w) (tp : T.P = X.prog) (hc : X.calm = true) : CallR X (.builtin "sorted") (rSortN X.K T) := by
  intro pins s σ H xs us Q I r h
  obtain ⟨M, n, ks, ws, ps, rfl, R, rfl, en, ek, k⟩ := h
  rw [Vals.ref1 r]
  obtain ⟨kvs, e1, e2, e3, e4, e5⟩ := R.at_ n _ en
  rw [tw, tp] at e1
  obtain ⟨hz, lo, xs, rel, dd⟩ := dn_of I e1 e2 e3 e4
  obtain ⟨es, ep, raw, hsz, hes⟩ := dd.raw
  have hks := unDs_eq ek
  have lkv : kvs.length = xs.length := rel.length
  have lks : ks.length = kvs.length := by have := congrArg List.length e3; simpa using this
  -- the i-th key
  have key : ∀ (i : Nat) (v : Value), (∃ hi : i < es.size, v = es[i].key) → ∃ a p, v = .ref a ∧ ps[i]? = some p ∧ RV X.K T M (pairD p) (.ref a) := fun i v ⟨hi, e⟩ => by
    obtain ⟨y, hy, hk, _, _⟩ := hes i hi
    obtain ⟨x, hx, hr⟩ := paired_get rel hy
    have hx' : (kvs.map fun p => V.ref p.2.1)[i]? = some (V.ref x.2.1) := by rw [List.getElem?_map, hx]; rfl
    obtain ⟨d, hd, rd⟩ := rvs_get e4 hx'
    rw [hks, List.getElem?_map] at hd
    cases hp : ps[i]? with
    | none => rw [hp] at hd; cases hd
    | some p =>
      rw [hp] at hd
      cases hd
      refine ⟨x.2.1, p, ?_, rfl, rd⟩
      rw [e, hk, hr.2.1]
  have hkey : ∀ (i : Nat) (v : Value), (∃ hi : i < es.size, v = es[i].key) → ps[i]? = some (keyP s.heap v) ∧ IsPairS s.heap v (keyP s.heap v) ∧ ∃ a, v = .ref a ∧ RV X.K T M (pairD (keyP s.heap v)) (.ref a) := fun i v h => by
    obtain ⟨a, p, rfl, hp, rp⟩ := key i v h
    have hi := pair_is I rp
    rw [keyP_eq hi]
    exact ⟨hp, hi, a, rfl, rp⟩
  have hn : es.size ≤ sizeLine := by rw [hsz, ← lkv]; exact hz
  refine sorted_src (ltv := fun v u => lexP (keyP s.heap v) (keyP s.heap u)) (swo_lexP _) (PySem.KdlSrc.rawDict (es := es) (ep := ep) lo) (I.ok.hd hc) raw hn (fun s1 a vs hl hP ha keep h2 => ?_) (fun h' tk a vs out hl hP hs hb kp hna hout => ?_)
  · refine pairsS_sortable (by omega) (fun v hv => ?_) (fun o ho => ?_)
    · obtain ⟨i, hi⟩ := List.getElem?_of_mem hv
      exact (hkey i v (hP i v hi)).2.1.keeps fun b o hb _ => (keep b o hb).2
    · rw [ha] at ho
      cases ho
      exact (by decide : Value.type "list" ≠ Value.type "tuple")
  · have hmem : ∀ v ∈ out, ∃ b, v = .ref b ∧ RV X.K T M (pairD (keyP s.heap v)) (.ref b) := fun v hv => by
      obtain ⟨i, hi⟩ := List.getElem?_of_mem (hb.perm.mem_iff.mp hv)
      exact (hkey i v (hP i v hi)).2.2
    have hvs : vs.map (keyP s.heap) = ps := by
      refine List.ext_getElem? fun i => ?_
      rw [List.getElem?_map]
      cases hi : vs[i]? with
      | none =>
        have l1 := List.getElem?_eq_none_iff.mp hi
        have l2 : ps.length = ks.length := by rw [hks, List.length_map]
        exact (List.getElem?_eq_none_iff.mpr (by omega)).symm
      | some v => exact (hkey i v (hP i v hi)).1.symm
    have hout' : out.map (keyP s.heap) = sortP ps := sortP_uniq (srtd_map (lt := lexP) hs) (by rw [← hvs]; exact hb.perm.map _)
    have hne : M.H a = none := I.hok.gone hna
    obtain ⟨m, hm⟩ := hout
    have rr : RVs X.K T M ((sortP ps).map pairD) (out.map backV) := by rw [← hout']; exact rvs_out hmem
    refine ⟨.ref a, upd M.H a (.lst (out.map backV)), I.laidN kp hna hne ⟨?_, out, m, vals_back fun u hu => ?_, hm⟩, rfl, new_lst R rr k a hne⟩
    · rw [List.length_map, hb.len, hl]
      exact hn
    · obtain ⟨b, e, _⟩ := hmem u hu
      exact ⟨b, e⟩
theorem je_sortN {e : Expr} {f : SE} {p pos : Pos} (tw : T.w = X.w) (tp : T.P = X.prog) (hc : X.calm = true) (hm : X.mg "sorted" = none) (ha : JE X T e f) (hg : Gl X "sorted" := by rfl) (hv : bootBuiltins "sorted" = some (.builtin "sorted") := by decide +kernel)
    (hs : starEach [e] X.env = [(false, eval e X.env)] := by rfl) (hpl : (backTo pos (starEach ([] : List Expr) X.env)).any (·.1) = false := by rfl) : JE X T (.Call (.Name "sorted" p) [e] [] pos) (eSortN f) := by
  have hA : JA X T [e] (aCons f aNil) := ja_cons ha ja_nil (by rw [hs]; rfl)
  refine PE.weak (pe_callB (cr_sortN tw tp hc) hg hm hv hA (by decide) (by decide) (by rw [hs]; rfl) hpl) fun σ H Q h => ?_
  obtain ⟨M, B, L, ρ, p, h⟩ := h
  refine ⟨M, B, L, ρ, p, ?_⟩
  show post X.K T M B ((f B ρ L).bind fun x L1 => (aNil B ρ L1).bind fun xs L2 => Res.ok (x :: xs) L2) _
  unfold eSortN at h
  have h := post.bind h
  cases e1 : f B ρ L with
  | exc _ _ _ => rw [e1] at h; exact h.elim
  | bad => rw [e1] at h; exact h.elim
  | ok w L1 =>
    rw [e1] at h
    intro M1 eA R x vs rvs
    obtain ⟨v, r, rfl, rv, rfl⟩ := rvs
    have q := h M1 eA R x
    obtain ⟨kw, e2, q⟩ := q.opt
    obtain ⟨ps, e3, q⟩ := q.opt
    obtain ⟨n, rfl, en⟩ := dcn_at eA e2 rv
    exact ⟨M1, n, kw.1, kw.2, ps, rfl, R, rfl, en, e3, fun M' v a' R' x' rv => q M' (a'.trans eA) R' x' v rv⟩
end
end Ev

set_option Elab.async false
set_option linter.all false
set_option maxRecDepth 100000
set_option maxHeartbeats 1000000
set_option autoImplicit false
/-! EvSs: sorted(d), d a dict whose keys are texts. -/
namespace Ev
open PySem PySem.Spec PyProof.Rows L2 Srt SrtO
def ltS (p q : List Nat) : Bool := decide (p < q)
def insS (p : List Nat) : List (List Nat) → List (List Nat)
  | [] => [p]
  | q :: r => if ltS q p = true then q :: insS p r else p :: q :: r
def sortS : List (List Nat) → List (List Nat)
  | [] => []
  | p :: r => insS p (sortS r)
theorem ltS_anti {x y : List Nat} (h1 : ltS x y = false) (h2 : ltS y x = false) : x = y :=
  List.le_antisymm (List.not_lt.mp (of_decide_eq_false h2)) (List.not_lt.mp (of_decide_eq_false h1))
theorem swoS : Swo ltS := ⟨fun x y h => decide_eq_false fun z => List.lt_asymm (of_decide_eq_true h) z, fun x y z h1 h2 => decide_eq_false fun w =>
  List.not_lt.mpr (List.le_trans (List.not_lt.mp (of_decide_eq_false h1)) (List.not_lt.mp (of_decide_eq_false h2))) w⟩
theorem insS_perm (p : List Nat) : ∀ l : List (List Nat), (insS p l).Perm (p :: l)
  | [] => List.Perm.refl _
  | q :: r => by
    unfold insS
    split
    · exact (List.Perm.cons q (insS_perm p r)).trans (List.Perm.swap p q r)
    · exact List.Perm.refl _
theorem sortS_perm : ∀ l : List (List Nat), (sortS l).Perm l
  | [] => List.Perm.refl _
  | p :: r => (insS_perm p (sortS r)).trans (List.Perm.cons p (sortS_perm r))
theorem insS_srtd (p : List Nat) : ∀ l : List (List Nat), Srtd ltS l → Srtd ltS (insS p l)
  | [], _ => srtd_one p
  | q :: r, h => by
    have h' := List.pairwise_cons.mp h
    unfold insS
    split
    · rename_i c
      refine List.pairwise_cons.mpr ⟨fun y hy => ?_, insS_srtd p r h'.2⟩
      rcases List.mem_cons.mp ((insS_perm p r).mem_iff.mp hy) with rfl | hy
      · exact swoS.asym _ _ c
      · exact h'.1 y hy
    · rename_i c
      have c : ltS q p = false := by
        cases e : ltS q p
        · rfl
        · exact absurd e c
      refine List.pairwise_cons.mpr ⟨fun y hy => ?_, h⟩
      rcases List.mem_cons.mp hy with rfl | hy
      · exact c
      · exact swoS.tr _ _ _ c (h'.1 y hy)
theorem sortS_srtd : ∀ l : List (List Nat), Srtd ltS (sortS l)
  | [] => List.Pairwise.nil
  | p :: r => insS_srtd p _ (sortS_srtd r)
theorem srtdS_uniq : ∀ {l m : List (List Nat)}, Srtd ltS l → Srtd ltS m → l.Perm m → l = m
  | [], m, _, _, p => by rw [List.Perm.nil_eq p]
  | a :: l, [], _, _, p => by cases List.Perm.eq_nil p
  | a :: l, b :: m, h1, h2, p => by
    have g1 := List.pairwise_cons.mp h1
    have g2 := List.pairwise_cons.mp h2
    have e : a = b := by
      rcases List.mem_cons.mp (p.mem_iff.mp (List.mem_cons_self ..) : a ∈ b :: m) with e | ha
      · exact e
      · rcases List.mem_cons.mp (p.mem_iff.mpr (List.mem_cons_self ..) : b ∈ a :: l) with e | hb
        · exact e.symm
        · exact ltS_anti (g2.1 a ha) (g1.1 b hb)
    subst e
    rw [srtdS_uniq g1.2 g2.2 (List.Perm.cons_inv p)]
theorem sortS_uniq {l ps : List (List Nat)} (h : Srtd ltS l) (p : l.Perm ps) : l = sortS ps := srtdS_uniq h (sortS_srtd ps) (p.trans (sortS_perm ps).symm)
def sv (v : Value) : List Nat := (strOf v).cps.toList
theorem swo_sv : Swo fun v u => ltS (sv v) (sv u) := ⟨fun x y h => swoS.asym _ _ h, fun x y z h1 h2 => swoS.tr _ _ _ h1 h2⟩
section
variable {prog : Program} {w : World} {A : Around} {s : Shared}
theorem str_cmpS {vs : List Value} (hp : ∀ v ∈ vs, ∃ x t, v = Value.str x t) : Cmp prog w A s oneType' (fun p => p.1 ∈ vs) (lt2 fun v u => ltS (sv v) (sv u)) := by
  intro p q hm hm'
  obtain ⟨a, t, e⟩ := hp _ hm
  obtain ⟨b, u, e'⟩ := hp _ hm'
  show wpAny (model prog w) A (keyLt' oneType' p.1 q.1) (fun r s' => s' = s ∧ r = ltS (sv p.1) (sv q.1)) (fun _ _ => False) s
  rw [e, e', keyLt'_oneType]
  exact oneLt_str ⟨rfl, rfl⟩
theorem strs_sortable {a : Addr} {vs : List Value} (hp : ∀ v ∈ vs, ∃ x t, v = Value.str x t) (h2 : 2 ≤ vs.length) : SortableO prog w A s a vs fun v u => ltS (sv v) (sv u) := by
  intro h' _
  refine ⟨oneType', fun Q E hq => ?_, str_cmpS hp⟩
  have hS := strsAre_map vs hp
  match vs, hS, h2 with
  | v1 :: v2 :: rest, hI, _ =>
    rw [keyKind_strs hI]
    exact wpAny_pure hq
  | [], _, h => exact absurd h (by decide)
  | [v], _, h => exact absurd h (by simp)
end
def bSorted : List D → Option D
  | [.dct ks _] => match allS ks with
    | some ss => some (.lst ((sortS ss).map .str))
    | none => none
  | _ => none
theorem allS_eq : ∀ {xs : List D} {ss : List (List Nat)}, allS xs = some ss → xs = ss.map .str
  | [], ss, h => by cases h; rfl
  | .str s :: r, ss, h => by
    unfold allS at h
    split at h
    · rename_i qs e
      cases h
      rw [allS_eq e]
      rfl
    · cases h
section
variable {X : Cx} {T : Tb} {K : PySem.W.Frag} {M : Mem} {B L : Hs} {pins : List (Addr × Obj)} {σ : L2.St} {s : Shared}
theorem rvs_strs : ∀ {ss : List (List Nat)}, RVs K T M (ss.map .str) (ss.map fun x => V.str ⟨x.toArray⟩)
  | [] => rfl
  | x :: ss => ⟨_, _, rfl, rfl, rvs_strs⟩
theorem vals_sv : ∀ {out : List Value}, (∀ v ∈ out, ∃ x t, v = Value.str x t) → Vals ((out.map sv).map fun x => V.str ⟨x.toArray⟩) out
  | [], _ => .nil
  | v :: out, h => by
    obtain ⟨x, t, rfl⟩ := h v List.mem_cons_self
    exact .cons ⟨t, by simp [sv, strOf]⟩ (vals_sv fun u hu => h u (List.mem_cons_of_mem _ hu))
theorem cd_sorted (hc : X.calm = true) : CallD X T (.builtin "sorted") bSorted := call_D1 rfl (fun _ _ _ => by simp [bSorted]) fun pins s σ M p z x u Q I rx R d e k => by
  cases p with
  | dct ks vs =>
    obtain ⟨a, kvs, rfl, ha, hk, _⟩ := d.dct
    obtain rfl : u = Value.ref a := rx
    have e : (match allS ks with | some ss => some (D.lst ((sortS ss).map .str)) | none => none) = some z := e
    cases es0 : allS ks with
    | none => rw [es0] at e; cases e
    | some ss =>
      rw [es0] at e
      cases e
      have hks := allS_eq es0
      obtain ⟨hz, lo, vs', rel, dd⟩ := I.hok a _ ha
      obtain ⟨es, ep, raw, hsz, hes⟩ := dd.raw
      have lkv : kvs.length = vs'.length := rel.length
      have lks : ks.length = kvs.length := by have := congrArg List.length hk; simpa using this
      have hkey : ∀ (i : Nat) (v : Value), (∃ hi : i < es.size, v = es[i].key) → ss[i]? = some (sv v) ∧ ∃ x t, v = Value.str x t := fun i v ⟨hi, e⟩ => by
        have hi' : i < vs'.length := by omega
        obtain ⟨hik, _⟩ := hes i hi vs'[i].1 vs'[i].2 (by rw [List.getElem?_eq_getElem hi'])
        obtain ⟨x, hx, hr⟩ := paired_get rel (List.getElem?_eq_getElem hi')
        have h1 : (kvs.map fun p => some p.1)[i]? = some (some x.1) := by rw [List.getElem?_map, hx]; rfl
        rw [← hk, hks, List.map_map, List.getElem?_map] at h1
        cases hp : ss[i]? with
        | none => rw [hp] at h1; cases h1
        | some t =>
          rw [hp] at h1
          have h1 := Option.some.inj h1
          have h1 : some (Sum.inr ⟨t.toArray⟩) = some x.1 := h1
          have h1 := Option.some.inj h1
          rw [← hr.1, ← h1] at hik
          have hik : keyIs (Sum.inr ⟨t.toArray⟩) es[i].key = true := hik
          rcases keyIs_shape hik with ⟨j, tk, e1, _⟩ | ⟨y, tk, e1, e2⟩
          · cases e1
          · cases e1
            rw [e, e2]
            exact ⟨by simp [sv, strOf], _, _, rfl⟩
      have hn : es.size ≤ sizeLine := by rw [hsz, ← lkv]; exact hz
      refine sorted_src (ltv := fun v u => ltS (sv v) (sv u)) swo_sv (PySem.KdlSrc.rawDict (es := es) (ep := ep) lo) (I.ok.hd hc) raw hn (fun s1 a' vs hl hP ha keep h2 => ?_) (fun h' tk a' vs out hl hP hs hb kp hna hout => ?_)
      · refine strs_sortable (fun v hv => ?_) (by omega)
        obtain ⟨i, hi⟩ := List.getElem?_of_mem hv
        exact (hkey i v (hP i v hi)).2
      · have hmem : ∀ v ∈ out, ∃ x t, v = Value.str x t := fun v hv => by
          obtain ⟨i, hi⟩ := List.getElem?_of_mem (hb.perm.mem_iff.mp hv)
          exact (hkey i v (hP i v hi)).2
        have hvs : vs.map sv = ss := by
          refine List.ext_getElem? fun i => ?_
          rw [List.getElem?_map]
          cases hi : vs[i]? with
          | none =>
            have l1 := List.getElem?_eq_none_iff.mp hi
            have l2 : ss.length = ks.length := by rw [hks, List.length_map]
            exact (List.getElem?_eq_none_iff.mpr (by omega)).symm
          | some v => exact (hkey i v (hP i v hi)).1.symm
        have hout' : out.map sv = sortS ss := sortS_uniq (srtd_map (lt := ltS) hs) (by rw [← hvs]; exact hb.perm.map _)
        have hne : M.H a' = none := I.hok.gone hna
        obtain ⟨m, hm⟩ := hout
        have rr : RVs X.K T M ((sortS ss).map .str) ((out.map sv).map fun x => V.str ⟨x.toArray⟩) := by rw [← hout']; exact rvs_strs
        refine ⟨.ref a', upd M.H a' (.lst ((out.map sv).map fun x => V.str ⟨x.toArray⟩)), I.laidN kp hna hne ⟨?_, out, m, vals_sv hmem, hm⟩, rfl, new_lst R rr k a' hne⟩
        rw [List.length_map, List.length_map, hb.len, hl]
        exact hn
  | _ => cases e
end
end Ev

set_option Elab.async false
set_option linter.all false
set_option maxRecDepth 100000
set_option maxHeartbeats 1000000
set_option autoImplicit false
/-! EvDn: dict(rows), rows a tuple of pairs whose keys are tuples. -/
namespace Ev
open PySem PySem.Spec PyProof.Rows L2
def mergeN : List D → List W → List D → List D → List D × List W
  | ks, ws, k :: ks', x :: xs' => mergeN (nkKs k ks) (nkVs k (.d x) ks ws) ks' xs'
  | ks, ws, _, _ => (ks, ws)
def rowsD : D → Option (List D × List D)
  | .tup xs => if rowy xs = true then match unpair xs with
      | some kv => if kv.1.all isNK = true then some kv else none
      | none => none
    else none
  | _ => none
/-- dict(rows) -/
def eDictN (o : SE) : SE := fun B ρ L => (o B ρ L).bind fun x L1 => (vwR B L1 x).bind fun p L1 => (ofOpt (rowsD p) L1).bind fun kv L1 => .ok (.ref (B.length + L1.length)) (L1 ++ [.dcn (mergeN [] [] kv.1 kv.2).1 (mergeN [] [] kv.1 kv.2).2])
theorem rowsD_eq {p : D} {kv : List D × List D} (h : rowsD p = some kv) : ∃ xs, p = .tup xs ∧ rowy xs = true ∧ unpair xs = some kv ∧ kv.1.all isNK = true := by
  unfold rowsD at h
  split at h
  · rename_i xs
    split at h
    · rename_i hr
      split at h
      · rename_i kv' e
        split at h
        · rename_i hk
          cases h
          exact ⟨xs, rfl, hr, e, hk⟩
        · cases h
      · cases h
    · cases h
  · cases h
def putAllN (kvs : List NV) (ps : List NV) : List NV := ps.foldl (fun acc p => putN acc p.1 p.2.1 p.2.2) kvs
theorem length_putAllN : ∀ (ps kvs : List NV), (putAllN kvs ps).length ≤ kvs.length + ps.length
  | [], kvs => Nat.le_refl _
  | p :: ps, kvs => by
    have h1 := length_putAllN ps (putN kvs p.1 p.2.1 p.2.2)
    have h2 := length_putN kvs p.1 p.2.1 p.2.2
    show (putAllN (putN kvs p.1 p.2.1 p.2.2) ps).length ≤ kvs.length + (ps.length + 1)
    omega
theorem nr_putAll {qs : List NV} {ps : List (NestedKey × Addr × Value)} (r : Paired NR qs ps) : ∀ {kvs : List NV} {xs : List (NestedKey × Addr × Value)}, Paired NR kvs xs → Paired NR (putAllN kvs qs) (storedAllH xs ps) := by
  induction r with
  | nil => intro kvs xs h; exact h
  | cons h t ih =>
    intro kvs xs r
    obtain ⟨h1, h2, h3⟩ := h
    rename_i p q _ _
    have := nr_put r p.1 p.2.1 h3
    exact ih (by show Paired NR (putN kvs p.1 p.2.1 p.2.2) (storedH xs q.1 q.2.1 q.2.2); rw [← h1, ← h2]; exact this)
section
variable {X : Cx} {T : Tb} {K : PySem.W.Frag} {M : Mem} {B L : Hs} {pins : List (Addr × Obj)} {σ : L2.St} {s : Shared}
theorem mergeN_ok : ∀ {ks' ds : List D} {qs : List NV} {ks : List D} {ws : List W} {kvs : List NV}, ks'.all isNK = true → ks'.map nk = qs.map (fun p => some p.1) → RVs K T M ks' (qs.map fun p => V.ref p.2.1) → RVs K T M ds (qs.map (·.2.2)) →
    ks.all isNK = true → ks.map nk = kvs.map (fun p => some p.1) → RVs K T M ks (kvs.map fun p => V.ref p.2.1) → RWs K T M ws (kvs.map (·.2.2)) →
    (mergeN ks ws ks' ds).1.all isNK = true ∧ (mergeN ks ws ks' ds).1.map nk = (putAllN kvs qs).map (fun p => some p.1) ∧ RVs K T M (mergeN ks ws ks' ds).1 ((putAllN kvs qs).map fun p => V.ref p.2.1) ∧ RWs K T M (mergeN ks ws ks' ds).2 ((putAllN kvs qs).map (·.2.2))
  | [], ds, [], ks, ws, kvs, _, _, _, _, b1, b2, b3, b4 => by unfold mergeN; exact ⟨b1, b2, b3, b4⟩
  | [], ds, _ :: _, ks, ws, kvs, _, a2, _, _, b1, b2, b3, b4 => by cases a2
  | _ :: _, ds, [], ks, ws, kvs, _, a2, _, _, b1, b2, b3, b4 => by cases a2
  | k :: ks', ds, q :: qs, ks, ws, kvs, a1, a2, a3, a4, b1, b2, b3, b4 => by
    cases ds with
    | nil => cases (show q.2.2 :: qs.map (·.2.2) = [] from a4)
    | cons x ds =>
      have a1 : (isNK k && ks'.all isNK) = true := a1
      rw [Bool.and_eq_true] at a1
      have e1 : nk k = some q.1 := (List.cons.inj a2).1
      have e2 : ks'.map nk = qs.map (fun p => some p.1) := (List.cons.inj a2).2
      obtain ⟨v, r, eq1, r1, r2⟩ := a3
      have eq1 : V.ref q.2.1 :: qs.map (fun p => V.ref p.2.1) = v :: r := eq1
      cases eq1
      obtain ⟨v2, r', eq2, s1, s2⟩ := a4
      have eq2 : q.2.2 :: qs.map (·.2.2) = v2 :: r' := eq2
      cases eq2
      have s1 : RW K T M (.d x) q.2.2 := s1
      exact mergeN_ok (ks' := ks') (ds := ds) (qs := qs) a1.2 e2 r2 s2 (nkKs_all a1.1 b1) (nkKs_nk e1 b2) (nkKs_rv e1 r1 b2 b3) (nkVs_rw e1 s1 b2 b4)
theorem unpairN_ok (I : Inv X pins σ M.H s) : ∀ {xs ks ds : List D} {vs : List V} {its : List Value}, unpair xs = some (ks, ds) → ks.all isNK = true → RVs X.K T M xs vs → Vals vs its →
    ∃ (Ts : List Addr) (kvs : List NV) (ps : List (NestedKey × Addr × Value)), its = Ts.map Value.ref ∧ Paired NR kvs ps ∧ Paired (fun (t : Addr) (p : NestedKey × Addr × Value) => PairAt s.heap t (.ref p.2.1) p.2.2) Ts ps ∧ ks.map nk = kvs.map (fun p => some p.1) ∧
      RVs X.K T M ks (kvs.map fun p => V.ref p.2.1) ∧ RVs X.K T M ds (kvs.map (·.2.2)) ∧ ∀ x ∈ ps, (nestedKind X.prog X.w).is s.heap x.1 x.2.1
  | [], ks, ds, vs, its, e, _, r, rr => by
    cases e
    rw [show vs = [] from r] at rr
    cases rr
    exact ⟨[], [], [], rfl, .nil, .nil, rfl, rfl, rfl, fun x hx => by cases hx⟩
  | x :: xs, ks, ds, vs, its, e, hk, r, rr => by
    unfold unpair at e
    split at e
    · cases ‹_ :: _ = []›
    · rename_i k v r0 eq
      cases eq
      split at e
      · rename_i ks' vs' eu
        cases e
        have hk : (isNK k && ks'.all isNK) = true := hk
        rw [Bool.and_eq_true] at hk
        obtain ⟨v1, r1, rfl, h1, h2⟩ := r
        cases rr with
        | cons ra rb =>
        obtain ⟨Ts, kvs, ps, rfl, f1, f2, f3, f4, f5, f6⟩ := unpairN_ok I eu hk.2 h2 rb
        obtain ⟨a, us, rfl, sq, u1, t1, rfl, a1, u2, t2, rfl, a2, a3⟩ := h1
        have a3 : t2 = [] := a3
        subst a3
        obtain ⟨its2, rr2, ht, _⟩ := I.tuple sq.1
        obtain ⟨w1, w2, rfl, ri, rj⟩ := vals2 rr2
        cases k with
        | tup ys =>
          obtain ⟨kk, k1, k2⟩ := isNK_ok hk.1
          have a1' := a1
          obtain ⟨b, us2, rfl, sq2, rv2⟩ := a1'
          obtain rfl : w1 = Value.ref b := ri
          obtain rfl : _ = Value.ref a := ra
          have ki := nest_is I (.tup ys) _ _ _ a1 (show RelV (.ref b) (.ref b) from rfl) k1
          refine ⟨a :: Ts, (.tup kk, b, u2) :: kvs, (.tup kk, b, w2) :: ps, rfl, .cons ⟨rfl, rfl, rj⟩ f1, .cons (.inl ht) f2, ?_, ⟨_, _, rfl, a1, f4⟩, ⟨_, _, rfl, a2, f5⟩, fun x hx => ?_⟩
          · rw [List.map_cons, List.map_cons, k1, f3]
          · rcases List.mem_cons.mp hx with rfl | hx
            · exact ⟨ki, k2⟩
            · exact f6 x hx
        | _ => cases hk.1
      · cases e
    · cases e
theorem Inv.plain {a : Addr} (I : Inv X pins σ M.H s) (h : PlT X.K M.H a) : ∃ o : Obj, s.heap.get? a = some o ∧ o.dict = none := by
  rcases h with ⟨o, vs, h, hd⟩ | ⟨o, h, hd⟩
  · exact ⟨o, (show s.heap.get? a = some o ∧ _ from I.hok a _ h).1, hd⟩
  · exact ⟨o, I.kIn a o h, hd⟩
theorem room92 {A : Around} {P : Program} {w : World} (hu : A.units + 12 < cLine) : (nestedKind P w).room A.in1.in1 := by
  show A.in1.in1.units + 8 < cLine
  rw [Around.in1_units, Around.in1_units]
  omega
def rDictN (K : PySem.W.Frag) (T : Tb) : List V → Hp → VK → Prop := fun xs H Q => ∃ M B L p v kv, M.H = H ∧ M.A = B ++ L ∧ Rep K T M ∧ xs = [v] ∧ DV K T M p v ∧ rowsD p = some kv ∧
  post K T M B (.ok (.ref (B.length + L.length)) (L ++ [.dcn (mergeN [] [] kv.1 kv.2).1 (mergeN [] [] kv.1 kv.2).2])) fun w _ M' => ∀ v, RW K T M' w v → Q v M'.H
theorem cr_dictN (tw : T.w = X.w) (tp : T.P = X.prog) (hc : X.calm = true) (hu : X.A.units + 12 < cLine) : CallR X (.type "dict") (rDictN X.K T) := by
  intro pins s σ H xs us Q I r h
  obtain ⟨M, B, L, p, v, kv, rfl, eA, R, rfl, d, e, k⟩ := h
  obtain ⟨ys, rfl, hr, hun, hnk⟩ := rowsD_eq e
  obtain ⟨ks, ds⟩ := kv
  obtain ⟨a, vs, rfl, sq, rv⟩ := d.tupP
  rw [Vals.ref1 r]
  obtain ⟨its, rr, ht, hz⟩ := I.tuple sq.1
  obtain ⟨o, ho, hod⟩ := Inv.plain I (sq.2 hr)
  obtain ⟨o', ho', hc', n, hd'⟩ := ht
  rw [ho] at ho'
  cases ho'
  obtain ⟨Ts, kvs, ps, rfl, f1, f2, f3, f4, f5, f6⟩ := unpairN_ok I hun hnk rv rr
  have l1 : Ts.length = ps.length := f2.length
  have l2 : kvs.length = ps.length := f1.length
  have l3 : vs.length = Ts.length := by have := rr.length; rw [List.length_map] at this; exact this
  refine call_dict_pairsH (knd := nestedKind X.prog X.w) (ps := ps) (PairArg.tuple a (Ts.map Value.ref).toArray (fun j => Ts.getD j 0) (ps.map fun p => (Value.ref p.2.1, p.2.2))) (I.ok.hd hc) (room92 hu) ?_ ?_ ?_ ?_ fun h' tk dd' kp => ?_
  · refine ⟨⟨o, n, ho, hc', hod, hd'⟩, by simp [l1], fun j k v hj => ?_⟩
    rw [List.getElem?_map] at hj
    cases hp : ps[j]? with
    | none => rw [hp] at hj; cases hj
    | some p =>
      rw [hp] at hj
      cases hj
      obtain ⟨t, ht, hpa⟩ := paired_get f2 hp
      have ed : Ts.getD j 0 = t := by rw [List.getD_eq_getElem?_getD, ht]; rfl
      show (Ts.map Value.ref).toArray[j]? = some (Value.ref (Ts.getD j 0)) ∧ PairAt s.heap (Ts.getD j 0) _ _
      rw [ed]
      refine ⟨?_, hpa⟩
      simp [ht]
  · refine ⟨by simp, fun i key v hi => ?_⟩
    have hi : (ps.map fun p => (Value.ref p.2.1, p.2.2))[i]? = some (key, v) := hi
    rw [List.getElem?_map] at hi
    cases hp : ps[i]? with
    | none => rw [hp] at hi; cases hi
    | some p =>
      rw [hp] at hi
      cases hi
      exact ⟨p.1, p.2.1, rfl, rfl⟩
  · intro h' hk x hx
    exact nestedKind_stays.stays (fun b o vs n e q => hk b o (Nat.ne_of_lt (Heap.lt_size e)) (fun z => nomatch z) e) (f6 x hx)
  · rw [List.length_map, ← l1, ← l3]; exact hz
  · obtain ⟨qo, es, epp, hq, h2, h3, h4, _, h5⟩ := dd'
    have m := mergeN_ok (K := X.K) (T := T) (M := M) (ks := []) (ws := []) (kvs := []) hnk f3 f4 f5 rfl rfl rfl rfl
    have hf : M.H s.heap.objs.size = none := I.hok.fresh (Nat.le_refl _)
    refine ⟨.ref s.heap.objs.size, upd M.H s.heap.objs.size (DN X.prog X.w s.heap.objs.size (putAllN [] kvs)), I.laid (a := s.heap.objs.size) (o := DN X.prog X.w s.heap.objs.size (putAllN [] kvs)) (t' := tk) (fun b u q => kp b u (fun z => nomatch z) q) (Nat.le_refl _)
      (dn_ok ⟨?_, beq_eq_false_iff_ne.mpr (Ne.symm (Nat.ne_of_lt I.big)), _, nr_putAll f1 .nil, qo, es, epp, hq, h2, h3, h4, h5⟩), rfl, ?_⟩
    · have := length_putAllN kvs []
      rw [List.length_nil] at this
      omega
    · exact new_place R eA hf (o := .dcn (mergeN [] [] ks ds).1 (mergeN [] [] ks ds).2) (h := DN X.prog X.w s.heap.objs.size (putAllN [] kvs)) (fun kk => ⟨putAllN [] kvs, by rw [tw, tp]; exact upd_same, m.1, m.2.1, RVs.keeps kk _ _ m.2.2.1, RWs.keeps kk m.2.2.2⟩) k
theorem je_dictN {e : Expr} {f : SE} {p pos : Pos} (tw : T.w = X.w) (tp : T.P = X.prog) (hc : X.calm = true) (hu : X.A.units + 12 < cLine) (hm : X.mg "dict" = none) (ha : JE X T e f) (hg : Gl X "dict" := by rfl) (hv : bootBuiltins "dict" = some (.type "dict") := by decide +kernel)
    (hs : starEach [e] X.env = [(false, eval e X.env)] := by rfl) (hpl : (backTo pos (starEach ([] : List Expr) X.env)).any (·.1) = false := by rfl) : JE X T (.Call (.Name "dict" p) [e] [] pos) (eDictN f) := by
  have hA : JA X T [e] (aCons f aNil) := ja_cons ha ja_nil (by rw [hs]; rfl)
  refine PE.weak (pe_callTy (cr_dictN tw tp hc hu) hg hm hv hA (by decide) (by decide) (by rw [hs]; rfl) hpl) fun σ H Q h => ?_
  obtain ⟨M, B, L, ρ, p, h⟩ := h
  refine ⟨M, B, L, ρ, p, ?_⟩
  show post X.K T M B ((f B ρ L).bind fun x L1 => (aNil B ρ L1).bind fun xs L2 => Res.ok (x :: xs) L2) _
  unfold eDictN at h
  have h := post.bind h
  cases e1 : f B ρ L with
  | exc _ _ _ => rw [e1] at h; exact h.elim
  | bad => rw [e1] at h; exact h.elim
  | ok w L1 =>
    rw [e1] at h
    intro M1 eA R x vs rvs
    obtain ⟨v, r, rfl, rv, rfl⟩ := rvs
    have q := h M1 eA R x
    obtain ⟨pd, _, dv, q⟩ := q.view R eA rv
    obtain ⟨kv, e3, q⟩ := q.opt
    exact ⟨M1, B, L1, pd, v, kv, rfl, eA, R, rfl, dv, e3, q⟩
/-- {}, that may be changed -/
theorem je_dctM0 {pos : Pos} : JE X T (.Dict [] [] pos) (eDctM []) := PE.weak pe_dnewK fun σ H Q h p hp => by
  obtain ⟨M, B, L, ρ, pt, h⟩ := h
  have eH := pt.eH
  subst eH
  exact new_place pt.rep pt.eA hp (o := .dct [] []) (h := .dK []) (fun k => ⟨[], upd_same, rfl, rfl⟩) h
end
end Ev

set_option Elab.async false
set_option linter.all false
set_option maxRecDepth 100000
set_option maxHeartbeats 2000000
set_option autoImplicit false
/-! EvS1: sets of texts, that are made of a list and sorted at once. -/
namespace Ev
open PySem PySem.Spec PyProof.Rows L2
section
variable {P : Program} {w : World} {A : Around} {E : Value → Shared → Prop} {s : Shared} {a : Addr} {ks : List Str}
theorem enOk_elems {l : List (Int × Value)} (g : ∀ e ∈ l, EnOk P w e) : ElemsOf (strKind P w) l := fun e he => by
  obtain ⟨x, tk, h1, h2⟩ := g e he
  exact ⟨⟨x, by rw [h1]; exact strKind_is P w x tk, h2⟩, by rw [h1]; rfl⟩
theorem enOk_is {e : Int × Value} (g : EnOk P w e) (k : Str) : (strKind P w).is k e.2 = true ↔ enS e = k := by
  obtain ⟨x, tk, h1, _⟩ := g
  unfold enS
  rw [h1]
  simp only [PySem.strKind, Value.isStrOf, beq_iff_eq]
theorem ndLen {α : Type} [DecidableEq α] : ∀ (l m : List α), l.Nodup → (∀ x ∈ l, x ∈ m) → l.length ≤ m.length
  | [], m, _, _ => Nat.zero_le _
  | x :: l, m, hn, hs => by
    have hn := List.nodup_cons.mp hn
    have hx := hs x List.mem_cons_self
    have := ndLen l (m.erase x) hn.2 fun y hy => (List.mem_erase_of_ne (fun e => hn.1 (by rw [← e]; exact hy))).mpr (hs y (List.mem_cons_of_mem _ hy))
    rw [List.length_erase_of_mem hx] at this
    have := List.length_pos_of_mem hx
    rw [List.length_cons]
    omega
/-- the end of an add: the table is stored, and laid anew where it is too full -/
theorem setX_tail {gv : Bool → Sem Unit} (hgv : ∀ (b : Bool) (s₁ : Shared) (Q' : Unit → Shared → Prop), Q' () s₁ → wpAny (model P w) A (gv b) Q' E s₁)
    {ob : Obj} {es es' : Array (Int × Value)} {ep : Nat} {t t' : SetTable} {ks' : List Str} {old : Bool} {Q : Option Bool → Shared → Prop} (ho : s.heap.get? a = some ob) (hx : ob.ExactSet) (hd : ob.data = .set es ep t)
    (g : ∀ e ∈ es'.toList, EnOk P w e) (nd : (es'.toList.map enS).Nodup) (mm : ∀ k, k ∈ ks' ↔ k ∈ es'.toList.map enS) (few : es'.size < scanBound) (ft : t'.fits es'.size = true) (up : Ris t'.place.toList) (ld : w.params.followText "set-order" = true ∨ t'.led = true)
    (hQ : ∀ h', Heap.SameBut a s.heap h' → SetX P w h' a ks' → Q (some true) { s with heap := h' }) :
    wpAny (model P w) A (storeSet a es' t' >>= fun _ => if (!old && t'.tooFull) = true then gv (relayAll t' es' (SetTable.grown es'.size)).2.2 >>= fun _ => storeSet a (relayAll t' es' (SetTable.grown es'.size)).1 (relayAll t' es' (SetTable.grown es'.size)).2.1 >>= fun _ => pure (some true) else pure (some true)) Q E s := by
  refine wpAny_bind (wpAny_storeSet_of ho hd ?_ (fits_of_scanBound few))
  have here := store_at (es' := es') (t' := t') ho hd
  have kept := Heap.SameBut.update s.heap a (Obj.putSet es' t')
  by_cases c : (!old && t'.tooFull) = true
  · rw [if_pos c]
    have p1 := relayAll_perm t' es' (SetTable.grown es'.size)
    have p2 := relayAll_fits t' es' (SetTable.grown es'.size)
    have p3 := relayAll_ris t' es' (SetTable.grown es'.size)
    have p4 := relayAll_led t' es' (SetTable.grown es'.size)
    generalize relayAll t' es' (SetTable.grown es'.size) = z at p1 p2 p3 p4 ⊢
    obtain ⟨fs, u, gave⟩ := z
    have sz : fs.size = es'.size := by
      have := p1.length_eq
      rwa [Array.length_toList, Array.length_toList] at this
    refine wpAny_bind (hgv _ _ _ (wpAny_bind (wpAny_storeSet_of here rfl ?_ (fits_of_scanBound (by rw [sz]; exact few)))))
    refine wpAny_pure (hQ _ (kept.trans (Heap.SameBut.update _ a _)) ⟨_, fs, _, u, store_at (es' := fs) (t' := u) here rfl, hx, rfl, fun e he => g e (p1.mem_iff.mp he), ?_, fun k => ?_, by rw [sz]; exact few, p2, p3, ?_⟩)
    · exact (p1.map enS).nodup_iff.mpr nd
    · exact (mm k).trans (p1.map enS).mem_iff.symm
    · exact ld.imp id fun y => p4.trans y
  · rw [if_neg c]
    exact wpAny_pure (hQ _ kept ⟨_, es', _, t', here, hx, rfl, g, nd, mm, few, ft, up, ld⟩)
theorem setX_add {k : Str} {tk : Tok} {Q : Bool → Shared → Prop} (R : SetX P w s.heap a ks) (room : ks.length + 1 < scanBound)
    (hQ : ∀ b h', Heap.SameBut a s.heap h' → SetX P w h' a (ks ++ [k]) → Q b { s with heap := h' }) :
    wpAny (model P w) A (setAddHashed a (.str k tk) ((strKind P w).hash k)) Q E s := by
  obtain ⟨ob, es, ep, t, ho, hx, hd, g, nd, mm, few, ft, up, ld⟩ := R
  have size : es.size ≤ ks.length := by
    have : (es.toList.map enS).length ≤ ks.length := by
      have sub : ∀ x ∈ es.toList.map enS, x ∈ ks := fun x hx => (mm x).mpr hx
      exact ndLen _ _ nd sub
    rwa [List.length_map, Array.length_toList] at this
  have el := enOk_elems g
  have sc : (Value.str k tk).scannable = true := rfl
  unfold setAddHashed setAddHashedIn
  refine wpAny_holding (wpAny_bind (wpAny_setState_of ho hd ft ?_))
  dsimp only
  rw [byScan_of sc few el, if_pos rfl]
  unfold setAddByScan
  refine wpAny_bind (wpAny_bind (wpAny_rule (wpAny_bind (wpAny_setScan_of (strKind_is P w k tk) ho hd ft el ?_))))
  cases hf : es.toList.findIdx? (fun e => (strKind P w).is k e.2) with
  | some j =>
    obtain ⟨hj, pj, _⟩ := List.findIdx?_eq_some_iff_getElem.mp hf
    have hk : k ∈ ks := (mm k).mpr (List.mem_map.mpr ⟨es.toList[j], List.getElem_mem hj, (enOk_is (g _ (List.getElem_mem hj)) k).mp pj⟩)
    refine wpAny_pure (wpAny_pure (hQ false s.heap (Heap.SameBut.refl a s.heap) ⟨ob, es, ep, t, ho, hx, hd, g, nd, fun i => ?_, few, ft, up, ld⟩))
    rw [List.mem_append, List.mem_singleton, ← mm i]
    exact ⟨fun z => z.elim id fun e => e ▸ hk, .inl⟩
  | none =>
    have hk : k ∉ es.toList.map enS := fun z => by
      obtain ⟨e, he, q⟩ := List.mem_map.mp z
      have c := List.findIdx?_eq_none_iff.mp hf e he
      rw [(enOk_is (g e he) k).mpr q] at c
      cases c
    have gives : ∀ (b : Bool) (s₁ : Shared) (Q' : Unit → Shared → Prop), Q' () s₁ → wpAny (model P w) A (match b with | true => rule "set.scan.the-table-gave-way" | false => pure ()) Q' E s₁ := fun b s₁ Q' q => by
      cases b
      · exact wpAny_pure q
      · exact wpAny_rule q
    have p1 := layNew_perm t es ((PySem.strKind P w).hash k) (.str k tk)
    have p2 := layNew_fits t es ((PySem.strKind P w).hash k) (.str k tk)
    have p3 := layNew_ris t es ((PySem.strKind P w).hash k) (.str k tk) up
    have p4 := layNew_led t es ((PySem.strKind P w).hash k) (.str k tk)
    dsimp only
    generalize layNew t es ((PySem.strKind P w).hash k) (.str k tk) = z at p1 p2 p3 p4 ⊢
    obtain ⟨fs, u, old, gave⟩ := z
    dsimp only at p1 p2 p3 p4 ⊢
    rw [Array.toList_push] at p1
    have q1 : fs.toList.Perm (((PySem.strKind P w).hash k, Value.str k tk) :: es.toList) := p1.trans (List.perm_append_singleton _ _)
    have q2 : (fs.toList.map enS).Perm (k :: es.toList.map enS) := q1.map enS
    have fg : ∀ e ∈ fs.toList, EnOk P w e := fun e he => by
      rcases List.mem_cons.mp (q1.mem_iff.mp he) with y | y
      · exact ⟨k, tk, by rw [y], by rw [y]⟩
      · exact g e y
    have fnd : (fs.toList.map enS).Nodup := q2.nodup_iff.mpr (List.nodup_cons.mpr ⟨hk, nd⟩)
    have fmm : ∀ i, i ∈ ks ++ [k] ↔ i ∈ fs.toList.map enS := fun i => by
      rw [List.mem_append, List.mem_singleton, q2.mem_iff, List.mem_cons, mm i]
      exact Or.comm
    have fsz : fs.size = es.size + 1 := by
      have := q1.length_eq
      rwa [Array.length_toList, List.length_cons, Array.length_toList] at this
    have ffew : fs.size < scanBound := by omega
    have fld : w.params.followText "set-order" = true ∨ u.led = true := ld.imp id fun y => p4.trans y
    refine wpAny_bind (gives _ _ _ ?_)
    have fin : ∀ h', Heap.SameBut a s.heap h' → SetX P w h' a (ks ++ [k]) → Q true { s with heap := h' } := fun h' b r => hQ true h' b r
    by_cases c : u.plain = true
    · rw [if_pos c]
      refine wpAny_bind ?_
      rw [hashByValue_scannable 8 sc]
      refine wpAny_pure ?_
      generalize plainKind (Value.str k tk) = pk
      cases pk
      · refine setX_tail (t' := { u with plain := false }) ?_ ho hx hd fg fnd fmm ffew (SetTable.fits_plain_off p2) p3 fld fun h' b r => ?_
        · intro b s₁ Q' q
          cases b
          · exact wpAny_pure q
          · exact wpAny_rule q
        · exact wpAny_pure (fin h' b r)
      · refine setX_tail (t' := u) ?_ ho hx hd fg fnd fmm ffew p2 p3 fld fun h' b r => ?_
        · intro b s₁ Q' q
          cases b
          · exact wpAny_pure q
          · exact wpAny_rule q
        · exact wpAny_pure (fin h' b r)
    · rw [if_neg c]
      refine wpAny_bind (wpAny_pure ?_)
      refine setX_tail (t' := u) ?_ ho hx hd fg fnd fmm ffew p2 p3 fld fun h' b r => ?_
      · intro b s₁ Q' q
        cases b
        · exact wpAny_pure q
        · exact wpAny_rule q
      · exact wpAny_pure (fin h' b r)
end
end Ev

set_option Elab.async false
set_option linter.all false
set_option maxRecDepth 100000
set_option maxHeartbeats 3200000
set_option autoImplicit false
/-! EvS2: set(a list of texts). -/
namespace Ev
open PySem PySem.Spec PyProof.Rows L2
section
variable {prog : Program} {w : World} {A : Around} {E : Value → Shared → Prop} {R : Result → Shared → Prop} {I : Addr} {fp wr : List Addr} {G : Array GenState → Array GenState → Prop} {n : Nat} {P : Nat → Value → Prop} {St : Nat → Shared → Prop}
theorem SetX.at {h h' : Heap} {a : Addr} {ks : List Str} (x : SetX prog w h a ks) (k : ∀ o, h.get? a = some o → h'.get? a = some o) : SetX prog w h' a ks := by
  obtain ⟨o, es, ep, t, ho, r⟩ := x
  exact ⟨o, es, ep, t, k o ho, r⟩
theorem loopX (W : WalksS prog w A.in1 I fp wr G n P St) (S : Addr) (hSf : S ∉ fp) (xs : List Str) (hsz : xs.length = n) (few : n < 4000)
    (hval : ∀ i v, P i v → ∃ t, v = .str (xs.getD i Str.empty) t) : ∀ (k i : Nat) (s : Shared), n - i = k → i ≤ n → St i s → SetX prog w s.heap S (xs.take i) →
      (∀ s', Moved (S :: wr) G s s' → SetX prog w s'.heap S xs → R (.ok (.ret .none)) s') → codeAny (model prog w) A (.builtin "set.update.loop" ⟨[.ref S, .ref I], []⟩) R s := by
  have off : S ∉ wr := fun z => hSf (W.sub _ z)
  have more : ∀ b ∈ wr, b ∈ S :: wr := fun b z => List.mem_cons_of_mem _ z
  intro k
  induction k with
  | zero =>
    intro i s hk hi st x q
    have e : xs.take i = xs := List.take_of_length_le (by omega)
    rw [e] at x
    have e : i = n := by omega
    subst e
    refine codeAny_builtin PyProof.Rows.F.entry_set_update_loop ?_
    rw [Around.under_plainId PyProof.Rows.F.plain_set_update_loop _]
    show wpAny _ A.in1 (pyNext (.ref I) >>= _) _ _ s
    refine wpAny_bind (W.done s _ _ st fun s' mv => ?_)
    show wpAny _ A.in1 (ret Value.none) _ _ s'
    exact wpAny_pure (q s' (mv.mono more) (x.at fun o ho => mv.heap S o off ho))
  | succ k ih =>
    intro i s hk hi st x q
    have lt : i < n := by omega
    refine codeAny_builtin PyProof.Rows.F.entry_set_update_loop ?_
    rw [Around.under_plainId PyProof.Rows.F.plain_set_update_loop _]
    show wpAny _ A.in1 (pyNext (.ref I) >>= _) _ _ s
    refine wpAny_bind (W.item i s _ _ lt st fun v s' pv st' mv => ?_)
    obtain ⟨t, rfl⟩ := hval i v pv
    have x' : SetX prog w s'.heap S (xs.take i) := x.at fun o ho => mv.heap S o off ho
    show wpAny _ A.in1 (holding [Value.str (xs.getD i Str.empty) t] (setAdd S (.str (xs.getD i Str.empty) t)) >>= _) _ _ s'
    refine wpAny_bind (wpAny_holding ?_)
    unfold setAdd
    refine wpAny_holding (wpAny_bind ((PySem.strKind prog w).pyHash (k := xs.getD i Str.empty) (strKind_is _ _ _ _) ?_))
    refine setX_add (s := { s' with toks := s'.toks + 1 }) x' (by rw [List.length_take]; unfold scanBound; omega) fun b h' sb x2 => ?_
    have e : xs.take i ++ [xs.getD i Str.empty] = xs.take (i + 1) := by
      rw [List.take_succ, List.getD_eq_getElem?_getD, List.getElem?_eq_getElem (by omega)]
      rfl
    rw [e] at x2
    refine wpAny_pure ⟨plainId_quiet PyProof.Rows.F.plain_set_update_loop _, ih (i + 1) _ (by omega) lt (W.frame _ s' _ _ st' (Nat.le_succ _) fun b hb o ho => ?_) x2 fun s'' mv2 x3 => ?_⟩
    · rw [sb.2 b (fun z : b = S => hSf (by rw [← z]; exact hb))]; exact ho
    · refine q s'' (Moved.trans W.gtrans ((mv.mono more).then_heap (Nat.le_succ _) fun b o hb ho => ?_) mv2) x3
      rw [sb.2 b (fun z : b = S => hb (by rw [z]; exact List.mem_cons_self))]; exact ho
end
end Ev

set_option Elab.async false
set_option linter.all false
set_option maxRecDepth 100000
set_option maxHeartbeats 3200000
set_option autoImplicit false
/-! EvS3: set(a list of texts), called. -/
namespace Ev
open PySem PySem.Spec PyProof.Rows L2
abbrev obS (w : World) : Obj := { cls := .type "set", dict := none, data := .set #[] 0 (.fresh 0 0 (!w.params.followText "set-order")) }
section
variable {prog : Program} {w : World} {A : Around} {E : Value → Shared → Prop} {s : Shared}
theorem setX_new {h : Heap} {a : Addr} (e : h.get? a = some (obS w)) : SetX prog w h a [] :=
  ⟨_, #[], 0, _, e, ⟨rfl, rfl, rfl⟩, rfl, (fun e he => by simp at he), (by simp), (fun k => by simp), (by decide), (by rfl), List.Pairwise.nil, by
    show _ ∨ (!w.params.followText "set-order") = true
    cases w.params.followText "set-order"
    · exact .inr rfl
    · exact .inl rfl⟩
theorem call_setX {l : Addr} {items : Array Value} {xs : List Str} {Q : Value → Shared → Prop} (hh : A.handled = none) (hl : s.heap.IsList l items) (hi : StrsAre items.toList xs) (few : xs.length < 4000)
    (h : ∀ (h' : Heap) (tk : Nat), SetX prog w h' s.heap.objs.size xs → (∀ b o, s.heap.get? b = some o → h'.get? b = some o) → Q (.ref s.heap.objs.size) { s with heap := h', toks := tk }) :
    wpAny (model prog w) A (call (.type "set") [.ref l]) Q E s := by
  obtain ⟨c, tl, hmro⟩ := PySem.F.called_set.mro
  have hmade := PySem.F.called_set.made
  have hsub := PySem.F.called_set.sub
  refine wpAny_call (codeAny_of_tree ?_)
  show wpAny _ _ (callAny (.type "set") _) _ _ _
  refine wpAny_pure ⟨Code.quiet_builtin _ (by decide +kernel), codeAny_builtin PySem.F.entry_type_call ?_⟩
  rw [Around.under_plain (weight_type_call_type "set" [.ref l] []) rfl]
  have n1 := PySem.F.called_set.notType
  have n2 := PySem.F.called_set.canCreate
  have n3 := PySem.F.typeCall_set_1 (.ref l)
  repeat (any_goals (first | assumption | wp_step))
  refine codeAny_mono (code_set_led1 (.ref l) (E := E) (Q₁ := fun u s₁ => u = .ref s.heap.objs.size ∧ s₁ = { s with heap := s.heap.push (obS w) }) ⟨rfl, rfl⟩) fun r s₁ hr => ?_
  cases r with
  | error e => exact hr
  | ok fl =>
    cases fl with
    | ret u =>
      obtain ⟨rfl, rfl⟩ := hr
      have at1 : (s.heap.push (obS w)).get? s.heap.objs.size = some (obS w) := Heap.get?_push_size _ rfl
      have ty : Shared.TypeIs { s with heap := s.heap.push (obS w) } (.ref s.heap.objs.size) "set" := ⟨_, at1, rfl⟩
      have m1 := PySem.F.called_set.init.lookup
      have m2 := PySem.F.called_set.init.bind (.ref s.heap.objs.size)
      repeat (any_goals (first | assumption | wp_step))
      refine codeAny_mono (codeAny_call_builtin (R := wants (fun r s₂ => r = .none ∧ ∃ h' tk, s₂ = { s with heap := h', toks := tk } ∧ SetX prog w h' s.heap.objs.size xs ∧ (∀ b o, s.heap.get? b = some o → h'.get? b = some o)) E) PySem.F.called_set.init.plain PySem.F.entry_set_init (check_set_init_1 ty ?_)) fun r₂ s₂ hr₂ => ?_
      · obtain ⟨⟨k1, k2, k3, k4⟩, ol, cl, nl, dl⟩ := hl
        simp only at cl dl
        subst cl
        subst dl
        have ol' : (s.heap.push (obS w)).get? l = some { cls := .type "list", dict := k2, data := .seq items nl, slots := k4 } := Heap.get?_push_of_some _ ol
        have q1 := PySem.F.sub_list_set
        have q2 := PySem.F.sub_list_frozenset
        have q3 : (Value.type "list" == Value.type "dict") = false := by decide
        have ll : (s.heap.push (obS w)).IsList l items := ⟨_, ol', rfl, nl, rfl⟩
        unfold Builtin.«set.__init__» noKeywords Builtin.Frozenset.updateFrom
        generalize ePI : pyIter = PI
        wp_walk
        subst ePI
        refine wpAny_pyIter_list ll (wpAny_bind (wpAny_runValue ?_))
        have low : l < s.heap.objs.size := Heap.lt_size ol
        have sz := Heap.size_push s.heap (obS w)
        have quiet : A.in1.in1.in1.handled = none := by simp [hh]
        have ne1 : l ≠ (s.heap.push (obS w)).objs.size := fun z => by rw [z, sz] at low; exact absurd low (Nat.not_lt.mpr (Nat.le_succ _))
        have off : s.heap.objs.size ∉ [(s.heap.push (obS w)).objs.size, l] := by
          rw [sz]
          intro z
          rcases List.mem_cons.mp z with z | z
          · exact absurd z (Nat.ne_of_lt (Nat.lt_succ_self _))
          · rw [List.mem_singleton] at z; exact absurd z (Nat.ne_of_gt low)
        have len : xs.length = items.size := by rw [← StrsAre.len_eq hi, Array.length_toList]
        refine loopX ((Walks.list quiet _ l ne1 items).toS) s.heap.objs.size off xs len (by omega) (fun i v hv => SS.strs_at hi i v (by rw [Array.getElem?_toList]; exact hv)) (items.size - 0) 0 _ (by omega) (Nat.zero_le _) ⟨⟨_, Heap.get?_push_size _ rfl, rfl, rfl⟩, ll.push _⟩ (setX_new (Heap.get?_push_of_some _ at1)) fun s' mv x => ?_
        obtain ⟨h', g', d', tk', os'⟩ := s'
        obtain rfl : g' = s.gens := mv.gens
        obtain rfl : d' = s.drawn := mv.drawn
        obtain rfl : os' = s.os := mv.os
        show wpAny _ _ _ _ _ _
        refine wpAny_pure ?_
        show wpAny _ _ (ret Value.none) _ _ _
        refine wpAny_pure ⟨rfl, h', tk', rfl, x, fun b o e => ?_⟩
        have lb := Heap.lt_size e
        refine mv.heap b o (fun z => ?_) (Heap.get?_push_of_some _ (Heap.get?_push_of_some _ e))
        rcases List.mem_cons.mp z with z | z
        · exact absurd lb (by rw [z]; exact Nat.lt_irrefl _)
        · rw [List.mem_singleton] at z
          rw [sz] at z
          exact absurd lb (by rw [z]; exact Nat.not_lt.mpr (Nat.le_succ _))
      · cases r₂ with
        | error e => exact hr₂
        | ok fl₂ =>
          cases fl₂ with
          | ret r =>
            obtain ⟨rfl, h', tk, rfl, x, kp⟩ := hr₂
            repeat (any_goals (first | assumption | wp_step))
            exact h _ _ x kp
          | _ => exact hr₂.elim
    | _ => exact hr.elim
end
end Ev

set_option Elab.async false
set_option linter.all false
set_option maxRecDepth 100000
set_option maxHeartbeats 1600000
set_option autoImplicit false
/-! EvS4: set(texts) as data, sorted and counted. -/
namespace Ev
open PySem PySem.Spec PyProof.Rows L2 Srt SrtO
def nubS : List (List Nat) → List (List Nat)
  | [] => []
  | x :: r => if x ∈ r then nubS r else x :: nubS r
theorem nubS_mem {x : List Nat} : ∀ {l : List (List Nat)}, x ∈ nubS l ↔ x ∈ l
  | [] => Iff.rfl
  | y :: r => by
    unfold nubS
    split
    · rename_i h
      rw [nubS_mem, List.mem_cons]
      exact ⟨.inr, fun z => z.elim (fun e => e ▸ h) id⟩
    · rw [List.mem_cons, List.mem_cons, nubS_mem]
theorem nubS_nodup : ∀ l : List (List Nat), (nubS l).Nodup
  | [] => List.Pairwise.nil
  | y :: r => by
    unfold nubS
    split
    · exact nubS_nodup r
    · rename_i h
      exact List.nodup_cons.mpr ⟨fun z => h (nubS_mem.mp z), nubS_nodup r⟩
theorem srtdS_ext : ∀ {l m : List (List Nat)}, Srtd ltS l → l.Nodup → Srtd ltS m → m.Nodup → (∀ x, x ∈ l ↔ x ∈ m) → l = m
  | [], [], _, _, _, _, _ => rfl
  | [], b :: m, _, _, _, _, h => absurd ((h b).mpr List.mem_cons_self) (by simp)
  | a :: l, [], _, _, _, _, h => absurd ((h a).mp List.mem_cons_self) (by simp)
  | a :: l, b :: m, h1, d1, h2, d2, h => by
    have g1 := List.pairwise_cons.mp h1
    have g2 := List.pairwise_cons.mp h2
    have n1 := List.nodup_cons.mp d1
    have n2 := List.nodup_cons.mp d2
    have e : a = b := by
      rcases List.mem_cons.mp ((h a).mp List.mem_cons_self) with e | ha
      · exact e
      · rcases List.mem_cons.mp ((h b).mpr List.mem_cons_self) with e | hb
        · exact e.symm
        · exact ltS_anti (g2.1 a ha) (g1.1 b hb)
    subst e
    rw [srtdS_ext g1.2 n1.2 g2.2 n2.2 fun x => ⟨fun hx => ((List.mem_cons.mp ((h x).mp (List.mem_cons_of_mem _ hx))).resolve_left fun e => n1.1 (e ▸ hx)), fun hx => ((List.mem_cons.mp ((h x).mpr (List.mem_cons_of_mem _ hx))).resolve_left fun e => n2.1 (e ▸ hx))⟩]
theorem sortS_nodup {l : List (List Nat)} (h : l.Nodup) : (sortS l).Nodup := (sortS_perm l).nodup_iff.mpr h
section
variable {P : Program} {w : World} {A : Around} {E : Value → Shared → Prop} {s : Shared} {a : Addr} {ks : List Str}
theorem sorted_setX {Q : Value → Shared → Prop} (R : SetX P w s.heap a ks) (hh : A.handled = none)
    (hQ : ∀ s' p (out : List Value) (c : Nat), (∀ b o, s.heap.get? b = some o → s'.heap.get? b = some o) → s'.gens = s.gens → s'.os = s.os → s.heap.objs.size ≤ p → s'.heap.get? p = some (seqObj "list" out.toArray c) → out.length < scanBound →
      (∀ v ∈ out, ∃ x t, v = Value.str x t) → Srtd (fun v u => ltS (sv v) (sv u)) out → (out.map strOf).Nodup → (∀ k, k ∈ out.map strOf ↔ k ∈ ks) → Q (.ref p) s') :
    wpAny (model P w) A (call (.builtin "sorted") [.ref a]) Q E s := by
  obtain ⟨o, es, ep, t, ho, hex, hd, g, nd, hm, hb, hf, hr, hl⟩ := R
  refine Calls.call_function_entry kind_sorted plain_sorted entry_sorted (args_sorted1 _) ?_
  unfold Builtin.«sorted»
  refine wpAny_bind (m := checkCount "sorted" 1 1 _) (wpAny_pure ?_)
  refine wpAny_bind (collect_set (A := A.in1) hh ⟨o, ho, hex.1, hd⟩ hf hb hr hl fun s1 vs k1 hz g1 o1 pm => ?_)
  have hvl : vs.length = es.size := by rw [pm.length_eq, List.length_map, Array.length_toList]
  have hstr : ∀ v ∈ vs, ∃ x t, v = Value.str x t := fun v hv => by
    obtain ⟨e, he, q⟩ := List.mem_map.mp (pm.mem_iff.mp hv)
    obtain ⟨x, tk, h1, _⟩ := g e he
    exact ⟨x, tk, by rw [← q]; exact h1⟩
  have pk : (vs.map strOf).Perm (es.toList.map enS) := by
    have q := pm.map strOf
    rw [List.map_map] at q
    refine q.trans (List.Perm.of_eq (List.map_congr_left fun e he => ?_))
    obtain ⟨x, tk, h1, _⟩ := g e he
    show strOf e.2 = enS e
    unfold enS
    rw [h1]
    rfl
  have few : es.size ≤ sizeLine := by
    rw [sizeLine_eq]
    have : es.size < scanBound := hb
    unfold scanBound at this
    omega
  refine wpAny_bind (wpAny_newList ?_ (by rw [hvl]; exact few))
  have hoL : (s1.heap.push (seqObj "list" vs.toArray 0)).get? s1.heap.objs.size = some (seqObj "list" vs.toArray 0) := Heap.get?_push_size _ rfl
  refine wpAny_bind (wpAny_holding (wpAny_call_entry slot_list_sort ⟨_, hoL, rfl⟩ entry_list_sort (list_sort_ord swo_sv hoL (by rw [hvl]; exact few) (fun h2 => strs_sortable hstr h2) fun out hs hbb => ⟨_, rfl, ?_⟩) (args_list_sort _)))
  obtain ⟨c, hc⟩ := sortedHeap_at (vs := vs) (out := out.toArray) hoL
  have po : (out.map strOf).Perm (es.toList.map enS) := (hbb.perm.map _).trans pk
  refine wpAny_pure ⟨_, rfl, hQ _ s1.heap.objs.size out c (fun b u e => ?_) g1 o1 hz hc (by rw [hbb.len, hvl]; exact hb) (fun v hv => hstr v (hbb.perm.mem_iff.mp hv)) hs (po.nodup_iff.mpr nd) (fun k => by rw [po.mem_iff, ← hm k])⟩
  have q := k1 b u e
  have hlt := Heap.lt_size q
  show (sortedHeap (s1.heap.push (seqObj "list" vs.toArray 0)) s1.heap.objs.size vs out.toArray).get? b = some u
  rw [sortedHeap_old (Nat.ne_of_lt hlt) (by rw [Heap.size_push]; exact Nat.lt_succ_of_lt hlt)]
  exact Heap.get?_push_of_some _ q
end
def bSet : List D → Option D
  | [.lst xs] => match allS xs with
    | some ss => if ss.length < 4000 then some (.set ((nubS ss).map .str)) else none
    | none => none
  | _ => none
def bSortX : List D → Option D
  | [.set xs] => match allS xs with
    | some ss => some (.lst ((sortS (nubS ss)).map .str))
    | none => none
  | _ => none
def bLenX : List D → Option D
  | [.set xs] => match allS xs with
    | some ss => some (.int (nubS ss).length)
    | none => none
  | _ => none
theorem allS_map : ∀ ss : List (List Nat), allS (ss.map .str) = some ss
  | [] => rfl
  | s :: r => by show (match allS (r.map .str) with | some ss => some (s :: ss) | none => none) = _; rw [allS_map r]
section
variable {X : Cx} {T : Tb} {K : PySem.W.Frag} {M : Mem} {B L : Hs} {pins : List (Addr × Obj)} {σ : L2.St} {s : Shared}
theorem strs_rvs : ∀ {ss : List (List Nat)} {vs : List V}, RVs K T M (ss.map .str) vs → vs = ss.map fun x => V.str ⟨x.toArray⟩
  | [], vs, h => h
  | x :: ss, vs, h => by
    obtain ⟨v, r, rfl, h1, h2⟩ := h
    rw [show v = .str ⟨x.toArray⟩ from h1, strs_rvs h2]
    rfl
theorem strsAre_of : ∀ {ss : List (List Nat)} {us : List Value}, Vals (ss.map fun x => V.str ⟨x.toArray⟩) us → StrsAre us (ss.map fun x => (⟨x.toArray⟩ : Str))
  | [], _, .nil => .nil
  | x :: ss, _, .cons ⟨t, e⟩ h => by rw [e]; exact .cons _ t (strsAre_of h)
theorem DV.set {xs : List D} {x : V} (h : DV K T M (.set xs) x) : ∃ a ss, x = .ref a ∧ Sep M a ∧ xs = ss.map .str ∧ M.H a = some (.ext (SXp T.P T.w a ss)) := by
  rcases h with h | ⟨_, _, _, e, _⟩ | ⟨_, _, _, _, e, _⟩
  · exact h
  · cases e
  · cases e
theorem setX_mono {P : Program} {w : World} {h : Heap} {a : Addr} {ks ks' : List Str} (x : SetX P w h a ks) (e : ∀ k, k ∈ ks' ↔ k ∈ ks) : SetX P w h a ks' := by
  obtain ⟨o, es, ep, t, ho, hx, hd, g, nd, mm, r⟩ := x
  exact ⟨o, es, ep, t, ho, hx, hd, g, nd, fun k => (e k).trans (mm k), r⟩
theorem mem_strs {ss tt : List (List Nat)} (h : ∀ x, x ∈ ss ↔ x ∈ tt) (k : Str) : k ∈ ss.map (fun x => (⟨x.toArray⟩ : Str)) ↔ k ∈ tt.map (fun x => (⟨x.toArray⟩ : Str)) := by
  rw [List.mem_map, List.mem_map]
  exact ⟨fun ⟨x, hx, e⟩ => ⟨x, (h x).mp hx, e⟩, fun ⟨x, hx, e⟩ => ⟨x, (h x).mpr hx, e⟩⟩
theorem cd_set (hc : X.calm = true) (tw : T.w = X.w) (tp : T.P = X.prog) : CallD X T (.type "set") bSet := call_D1 rfl (fun _ _ _ => by simp [bSet]) fun pins s σ M p z x u Q I rx R d e k => by
  cases p with
  | lst xs =>
    have e : (match allS xs with | some ss => if ss.length < 4000 then some (D.set ((nubS ss).map .str)) else none | none => none) = some z := e
    cases es0 : allS xs with
    | none => rw [es0] at e; cases e
    | some ss =>
      rw [es0] at e
      dsimp only at e
      split at e
      · rename_i hl
        cases e
        have hks := allS_eq es0
        obtain ⟨a, vs, rfl, s1, r1⟩ := d.lst
        obtain rfl : u = Value.ref a := rx
        rw [hks] at r1
        rw [strs_rvs r1] at s1
        obtain ⟨its, rr, pl, hz⟩ := I.list (SqL.of s1)
        refine call_setX (I.ok.hd hc) pl.isList (by simpa using strsAre_of rr) (by rw [List.length_map]; exact hl) fun h' tk sx kp => ?_
        have ha : M.H s.heap.objs.size = none := I.hok.fresh (Nat.le_refl _)
        have sx' : SXp X.prog X.w s.heap.objs.size (nubS ss) h' := setX_mono sx (mem_strs fun x => nubS_mem)
        have I2 : Inv X pins σ (upd M.H s.heap.objs.size (.ext (SXp X.prog X.w s.heap.objs.size (nubS ss)))) { s with heap := h', toks := tk } :=
          I.laid kp (Nat.le_refl _) ⟨sx', by obtain ⟨o, _, _, _, ho, _⟩ := sx'; exact ⟨o, ho⟩, fun h1 h2 y ky => SetX.at y fun o ho => ky o ho⟩
        obtain ⟨R3, E3⟩ := garb (o := .ext (SXp X.prog X.w s.heap.objs.size (nubS ss))) R ha
        exact ⟨.ref s.heap.objs.size, _, I2, rfl, k { M with H := upd M.H s.heap.objs.size (.ext (SXp X.prog X.w s.heap.objs.size (nubS ss))) } _ rfl R3 E3 ⟨_, nubS ss, rfl, sep_new R ha, rfl, by rw [tw, tp]; exact upd_same⟩⟩
      · cases e
  | _ => cases e
theorem sx_get {a : Addr} {ss : List (List Nat)} (tw : T.w = X.w) (tp : T.P = X.prog) (I : Inv X pins σ M.H s) (h : M.H a = some (.ext (SXp T.P T.w a ss))) : SetX X.prog X.w s.heap a (ss.map fun x => (⟨x.toArray⟩ : Str)) := by
  rw [tw, tp] at h
  exact (I.hok a _ h).1
theorem cd_sortX (hc : X.calm = true) (tw : T.w = X.w) (tp : T.P = X.prog) : CallD X T (.builtin "sorted") bSortX := call_D1 rfl (fun _ _ _ => by simp [bSortX]) fun pins s σ M p z x u Q I rx R d e k => by
  cases p with
  | set xs =>
    obtain ⟨a, ss, rfl, _, rfl, ha⟩ := d.set
    obtain rfl : u = Value.ref a := rx
    have e : (match allS (ss.map D.str) with | some ss => some (D.lst ((sortS (nubS ss)).map .str)) | none => none) = some z := e
    rw [allS_map] at e
    cases e
    refine sorted_setX (sx_get tw tp I ha) (I.ok.hd hc) fun s' p out c kp g o hp hg hl hs hsr hn hm => ?_
    have hvals := vals_sv hs
    have hout : out.map sv = sortS (nubS ss) := by
      refine srtdS_ext (srtd_map (lt := ltS) hsr) ?_ (sortS_srtd _) (sortS_nodup (nubS_nodup _)) fun x => ?_
      · have : out.map sv = (out.map strOf).map fun x : Str => x.cps.toList := by rw [List.map_map]; rfl
        rw [this]
        refine List.Pairwise.map _ (fun x y (h : x ≠ y) z => h ?_) hn
        exact (show (⟨x.cps⟩ : Str) = ⟨y.cps⟩ by rw [show x.cps = y.cps from Array.ext' z])
      · rw [(sortS_perm _).mem_iff, nubS_mem]
        constructor
        · intro hx
          obtain ⟨v, hv, rfl⟩ := List.mem_map.mp hx
          have h1 := (hm (strOf v)).mp (List.mem_map.mpr ⟨v, hv, rfl⟩)
          obtain ⟨y, hy, e⟩ := List.mem_map.mp h1
          have : sv v = y := by unfold sv; rw [← e]
          rw [this]; exact hy
        · intro hx
          have h1 := (hm ⟨x.toArray⟩).mpr (List.mem_map.mpr ⟨x, hx, rfl⟩)
          obtain ⟨v, hv, e⟩ := List.mem_map.mp h1
          exact List.mem_map.mpr ⟨v, hv, by unfold sv; rw [e]⟩
    have hlen : ((out.map sv).map fun x => V.str ⟨x.toArray⟩).length ≤ sizeLine := by
      rw [List.length_map, List.length_map, sizeLine_eq]
      unfold scanBound at hl
      omega
    have hne : M.H p = none := I.hok.fresh hp
    have J : Inv X pins σ (upd M.H p (.lst ((out.map sv).map fun x => V.str ⟨x.toArray⟩))) { s with heap := s'.heap, gens := s'.gens, drawn := s'.drawn, toks := s'.toks } :=
      I.call (ch := []) (Un.laid kp hp hne) (I.hok.laid kp hp ⟨hlen, out, c, hvals, hg⟩) (by rw [g]; exact I.bare) (fun _ z => nomatch z)
    have e : s' = { s with heap := s'.heap, gens := s'.gens, drawn := s'.drawn, toks := s'.toks } := by
      cases s'
      cases s
      cases o
      rfl
    rw [e]
    have rr : RVs X.K T M ((sortS (nubS ss)).map .str) ((out.map sv).map fun x => V.str ⟨x.toArray⟩) := by rw [← hout]; exact rvs_strs
    exact ⟨.ref p, _, J, rfl, new_lst R rr k p hne⟩
  | _ => cases e
end
end Ev

set_option Elab.async false
set_option linter.all false
set_option maxRecDepth 100000
set_option maxHeartbeats 1600000
set_option autoImplicit false
/-! EvK: list.pop(i), d.get(k, x) of a dict keyed by texts, dict(zip(a, b)), list(d) of a dict keyed by tuples. -/
namespace Ev
open PySem PySem.Spec PyProof.Rows L2
def ePopAt (o a : SE) : SE := fun B ρ L => (o B ρ L).bind fun x L1 => (guardR (lstAt B L1 x).isSome L1).bind fun _ L1 => (a B ρ L1).bind fun y L2 => (vwR B L2 y).bind fun p L2 => (ofOpt (intD p) L2).bind fun i L2 => (ofOpt (lstAt B L2 x) L2).bind fun nw L2 =>
  (guardR (decide (0 ≤ i ∧ i < 2 ^ 63 ∧ i < nw.2.length)) L2).bind fun _ L2 => (ofOpt nw.2[i.toNat]? L2).bind fun y L2 => .ok y (L2.set nw.1 (.lst (nw.2.eraseIdx i.toNat)))
/-- d.get(k, x): d data, keyed by texts or numbers -/
def dctD : D → Option (List D × List D)
  | .dct ks vs => some (ks, vs)
  | _ => none
def eGet (o k x : SE) : SE := fun B ρ L => (o B ρ L).bind fun w L1 => (vwR B L1 w).bind fun p L1 => (ofOpt (dctD p) L1).bind fun _ L1 => (k B ρ L1).bind fun y L2 => (x B ρ L2).bind fun z L3 => (vwR B L3 y).bind fun q L3 => (vwR B L3 w).bind fun p L3 => (ofOpt (dctD p) L3).bind fun kv L3 =>
  (guardR (isKey q) L3).bind fun _ L3 => .ok (((findD q kv.1 kv.2).map W.d).getD z) L3
/-- dict(zip(a, b)) of two lists, the first one of texts -/
def zipDct : List D → Option D
  | [.lst xs, .lst ys] => if (xs.take ys.length).all isKey = true ∧ xs.length ≤ ys.length then some (.dct (mergeKV [] [] xs ys).1 (mergeKV [] [] xs ys).2) else none
  | _ => none
def eDictZip (a : SA) : SE := fun B ρ L => (a B ρ L).bind fun ws L1 => (vwsR B L1 ws).bind fun ps L1 => (ofOpt (zipDct ps) L1).bind fun d L1 => .ok (.d d) L1
/-- list(d) of a dict keyed by tuples -/
def eListN (o : SE) : SE := fun B ρ L => (o B ρ L).bind fun x L1 => (ofOpt (dcnAt B L1 x) L1).bind fun kw L1 => .ok (.d (.lst kw.1)) L1
section
variable {X : Cx} {T : Tb} {K : PySem.W.Frag} {M : Mem} {B L : Hs} {pins : List (Addr × Obj)} {σ : L2.St} {s : Shared}
theorem RWs.eraseIdx : ∀ {ws : List W} {vs : List V} (i : Nat), RWs K T M ws vs → RWs K T M (ws.eraseIdx i) (vs.eraseIdx i)
  | [], vs, i, h => by rw [show vs = [] from h]; exact rfl
  | x :: xs, vs, 0, h => by
    obtain ⟨u, q, rfl, h1, h2⟩ := h
    exact h2
  | x :: xs, vs, i + 1, h => by
    obtain ⟨u, q, rfl, h1, h2⟩ := h
    exact ⟨u, q.eraseIdx i, rfl, h1, RWs.eraseIdx i h2⟩
theorem je_popAt {o e : Expr} {f g : SE} {apos cpos : Pos} (ho : JE X T o f) (he : JE X T e g) (hbase : attributeBase o "pop" X.env (eval o X.env) = eval o X.env := by rfl)
    (hfew : ((backTo cpos (starEach [e] X.env)).all (fun x => !x.1) && (backToKw cpos (keywordEach [] X.env)).all (fun x => x.1.isSome)
      && decide ([e].length + ([] : List Keyword).length + (if ([] : List Keyword).isEmpty then 0 else 1) < 30)) = true := by rfl)
    (hline : (apos.endLine == cpos.line) = true := by rfl) (hs : starEach [e] X.env = (false, eval e X.env) :: starEach [] X.env := by rfl) (hplain : (backTo cpos (starEach [] X.env)).any (·.1) = false := by rfl) : JE X T (.Call (.Attribute o "pop" apos) [e] [] cpos) (ePopAt f g) := by
  have hA : JA X T [e] (aCons g aNil) := ja_cons he ja_nil hs
  refine PE.weak (pe_bm PySem.F.plainAttrs_list PySem.F.slot_list_pop PySem.F.type_list_pop mt_popAt ho hA hbase hfew hline hs hplain) fun σ H Q h => ?_
  obtain ⟨M, B, L, ρ, p, h⟩ := h
  refine ⟨M, B, L, ρ, p, (post.bind h).mono fun w L1 M1 eA R x q v rv => ?_⟩
  obtain ⟨hl, q⟩ := q.guard
  refine ⟨lstAt_ty R eA rv hl, M1, B, L1, ρ, p.next eA R x, ?_⟩
  show post X.K T M1 B ((g B ρ L1).bind fun x L1 => (aNil B ρ L1).bind fun xs L2 => Res.ok (x :: xs) L2) _
  have q := post.bind q
  cases e1 : g B ρ L1 with
  | exc _ _ _ => rw [e1] at q; exact q.elim
  | bad => rw [e1] at q; exact q.elim
  | ok y L2 =>
    rw [e1] at q
    intro M2 eA2 R2 x2 vs rvs
    obtain ⟨u, r, rfl, ru, rfl⟩ := rvs
    have q3 := q M2 eA2 R2 x2
    obtain ⟨pd, _, dv, q4⟩ := q3.view R2 eA2 ru
    obtain ⟨i, ey, q5⟩ := q4.opt
    obtain ⟨⟨n, ws⟩, e2, q6⟩ := q5.opt
    obtain ⟨hi, q7⟩ := q6.guard
    obtain ⟨z, ez, q8⟩ := q7.opt
    have hi : 0 ≤ i ∧ i < 2 ^ 63 ∧ i < ws.length := of_decide_eq_true hi
    clear q3 q4 q5 q6 q7
    cases pd with
    | int j =>
      cases ey
      obtain rfl := dv.int
      obtain ⟨rfl, en, us, hu, rw'⟩ := lstAt_at R2 eA2 (rv.ext R x2) e2
      obtain ⟨u, e4, ru'⟩ := rw'.get ez
      have hlen : us.length = ws.length := rw'.length.symm
      refine ⟨_, us, i, i.toNat, u, rfl, rfl, hu, by omega, hi.2.1, ?_, e4, ?_⟩
      · unfold seqIndex?
        have h0 : ¬ i < 0 := by omega
        have h1 : (decide (0 ≤ i) && decide (i < (us.length : Int))) = true := by
          rw [Bool.and_eq_true, decide_eq_true_eq, decide_eq_true_eq]
          omega
        simp only [h0, if_false, h1, if_true]
      · exact lst_put (Q := fun M' => Q u M'.H) R2 eA2 en (rw'.eraseIdx i.toNat) fun M' a' R' x' _ => q8 M' a' R' x' u (ru'.ext R2 x')
    | _ => cases ey
theorem dctD_eq {p : D} {kv : List D × List D} (h : dctD p = some kv) : p = .dct kv.1 kv.2 := by
  unfold dctD at h
  split at h
  · cases h; rfl
  · cases h
theorem je_get {o e f : Expr} {fo fe ff : SE} {apos cpos : Pos} (hu : X.A.units + 1 < cLine) (ho : JE X T o fo) (he : JE X T e fe) (hf : JE X T f ff) (m : M2 X o "get" apos e f cpos := by exact ⟨rfl, rfl, rfl, rfl⟩) : JE X T (.Call (.Attribute o "get" apos) [e, f] [] cpos) (eGet fo fe ff) :=
  PE.weak (pe_dget2 hu ho he hf m) fun σ H Q h => by
    obtain ⟨M, B, L, ρ, p, h⟩ := h
    refine ⟨M, B, L, ρ, p, (post.bind h).mono fun w L1 M1 eA R x q v rv => ?_⟩
    obtain ⟨pd0, _, dv0, q⟩ := q.view R eA rv
    obtain ⟨kv0, e0, q⟩ := q.opt
    rw [dctD_eq e0] at dv0
    obtain ⟨a, kvs0, rfl, hd0, _, _⟩ := dv0.dct
    refine ⟨a, rfl, .inl ⟨kvs0, .inl hd0⟩, M1, B, L1, ρ, p.next eA R x, (post.bind q).mono fun w2 L2 M2 eA2 R2 x2 q2 v2 rv2 => ?_⟩
    refine ⟨M2, B, L2, ρ, (p.next eA R x).next eA2 R2 x2, (post.bind q2).mono fun w3 L3 M3 eA3 R3 x3 q3 v3 rv3 => ?_⟩
    obtain ⟨kd, _, dk, q4⟩ := q3.view R3 eA3 (rv2.ext R2 x3)
    obtain ⟨pd, _, dv, q5⟩ := q4.view R3 eA3 ((rv.ext R x2).ext R2 x3)
    obtain ⟨kv, e1, q6⟩ := q5.opt
    obtain ⟨hk, q7⟩ := q6.guard
    rw [dctD_eq e1] at dv
    obtain ⟨b, kvs, eb, hd, hks, rv'⟩ := dv.dct
    cases eb
    obtain ⟨kk, ek⟩ := keyD_ok hk
    have := keyD_dv ek dk
    subst this
    refine ⟨valV kvs kk, DGet.k hd, ?_⟩
    have q8 := q7.here eA3 R3
    rcases findD_ok ek hks rv' with ⟨h1, h2⟩ | ⟨d, v, h1, h2, h3⟩
    · rw [h1] at q8
      rw [h2]
      exact q8 v3 rv3
    · rw [h1] at q8
      rw [h2]
      exact q8 v h3
/-! dict(zip(a, b)) -/
theorem zip_pairs : ∀ {xs ys : List D} {us vs : List V}, xs.length ≤ ys.length → xs.all isKey = true → RVs K T M xs us → RVs K T M ys vs → ∃ kvs : List (Key × V), us = kvs.map (fun p => kV p.1) ∧ vs.take us.length = kvs.map (·.2) ∧ xs.map keyD = kvs.map (fun p => some p.1) ∧ RVs K T M (ys.take xs.length) (kvs.map (·.2))
  | [], ys, us, vs, _, _, h1, h2 => by
    rw [show us = [] from h1]
    exact ⟨[], rfl, rfl, rfl, rfl⟩
  | x :: xs, [], us, vs, hl, _, h1, h2 => by simp at hl
  | x :: xs, y :: ys, us, vs, hl, hk, h1, h2 => by
    obtain ⟨u, ur, rfl, a1, a2⟩ := h1
    obtain ⟨v, vr, rfl, b1, b2⟩ := h2
    rw [List.all_cons, Bool.and_eq_true] at hk
    obtain ⟨kvs, e1, e2, e3, e4⟩ := zip_pairs (by simpa using hl) hk.2 a2 b2
    obtain ⟨kk, ek⟩ := keyD_ok hk.1
    have := keyD_dv ek a1.dv
    subst this
    refine ⟨(kk, v) :: kvs, by rw [e1]; rfl, ?_, ?_, ⟨v, _, rfl, b1, e4⟩⟩
    · rw [List.length_cons, List.take_succ_cons, e2]; rfl
    · rw [List.map_cons, List.map_cons, ek, e3]
theorem zipDct_eq {ws : List D} {z : D} (h : zipDct ws = some z) : ∃ xs ys, ws = [.lst xs, .lst ys] ∧ xs.all isKey = true ∧ xs.length ≤ ys.length ∧ z = .dct (mergeKV [] [] xs ys).1 (mergeKV [] [] xs ys).2 := by
  unfold zipDct at h
  split at h
  · rename_i xs ys
    split at h
    · rename_i c
      cases h
      exact ⟨xs, ys, rfl, by rw [List.take_of_length_le c.2] at c; exact c.1, c.2, rfl⟩
    · cases h
  · cases h
theorem mergeKV_take {α : Type} : ∀ (xs : List D) (ys : List α) (ks : List D) (vs : List α), xs.length ≤ ys.length → mergeKV ks vs xs (ys.take xs.length) = mergeKV ks vs xs ys
  | [], ys, ks, vs, _ => by unfold mergeKV; rfl
  | x :: xs, [], ks, vs, h => by simp at h
  | x :: xs, y :: ys, ks, vs, h => by
    rw [List.length_cons, List.take_succ_cons]
    unfold mergeKV
    exact mergeKV_take xs ys _ _ (by simpa using h)
theorem vals_take : ∀ {vs : List V} {us : List Value} (n : Nat), Vals vs us → Vals (vs.take n) (us.take n)
  | _, _, 0, _ => by rw [List.take_zero, List.take_zero]; exact .nil
  | _, _, n + 1, .nil => .nil
  | _, _, n + 1, .cons h t => by rw [List.take_succ_cons, List.take_succ_cons]; exact .cons h (vals_take n t)
theorem kv_of : ∀ {kvs : List (Key × V)} {is js : List Value}, Vals (kvs.map fun p => kV p.1) is → Vals (kvs.map (·.2)) js → ∃ prs : List (Key × Value), KV kvs prs ∧ prs.length = is.length ∧ prs.length = js.length ∧ ∀ (i : Nat) (key v : Value), is[i]? = some key → js[i]? = some v → ∃ k, prs[i]? = some (k, v) ∧ (mixKind X.prog X.w).is k key = true
  | [], _, _, .nil, .nil => ⟨[], .nil, rfl, rfl, fun i key v h _ => by simp at h⟩
  | p :: kvs, _, _, .cons (b := u) (l₂ := is) h1 t1, .cons (b := v) (l₂ := js) h2 t2 => by
    obtain ⟨prs, r, e1, e2, e3⟩ := kv_of t1 t2
    refine ⟨(p.1, v) :: prs, .cons ⟨rfl, h2⟩ r, by simp [e1], by simp [e2], fun i key v' hk hv => ?_⟩
    cases i with
    | zero =>
      cases hk
      cases hv
      refine ⟨p.1, rfl, ?_⟩
      obtain ⟨k, x⟩ := p
      cases k with
      | inl i => obtain ⟨t, rfl⟩ := h1; exact keyIs_int i t
      | inr y => obtain ⟨t, rfl⟩ := h1; exact keyIs_str y t
    | succ i => exact e3 i key v' hk hv
theorem je_dictZip {e1 e2 : Expr} {f : SA} {p p2 pos pos2 : Pos} (hc : X.calm = true) (hm : X.mg "dict" = none) (hm2 : X.mg "zip" = none) (ha : JA X T [e1, e2] f) (hg : Gl X "dict" := by rfl) (hg2 : Gl X "zip" := by rfl) (hv : bootBuiltins "dict" = some (.type "dict") := by decide +kernel)
    (hs : starEach [.Call (.Name "zip" p2) [e1, e2] [] pos2] X.env = [(false, eval (.Call (.Name "zip" p2) [e1, e2] [] pos2) X.env)] := by rfl) (hpl : (backTo pos (starEach ([] : List Expr) X.env)).any (·.1) = false := by rfl)
    (hs2 : starEach [e1, e2] X.env = (false, eval e1 X.env) :: starEach [e2] X.env := by rfl) (hpl2 : (backTo pos2 (starEach [e2] X.env)).any (·.1) = false := by rfl) :
    JE X T (.Call (.Name "dict" p) [.Call (.Name "zip" p2) [e1, e2] [] pos2] [] pos) (eDictZip f) := by
  refine ⟨fun pins s σ H Q I h => ?_⟩
  obtain ⟨M, B, L, ρ, pt, h⟩ := h
  refine wpAny_Call_Name_kw (ld_blt I hg hm hv ?_ (by decide) (by decide))
  refine PyProof.Rows.callWith_type1 ?_ (by rw [hs]; rfl) hpl
  rw [hs]
  refine Calls.spliced_cons ?_
  refine wpAny_Call_Name_kw (ld_blt I hg2 hm2 PyProof.Rows.boot_zip ?_ (by decide) (by decide))
  refine PyProof.Rows.callWith_type1 (thn (ha.run pos2 pins s σ H (fun vs H1 => ∃ M1 L1 ps z, M1.H = H1 ∧ M1.A = B ++ L1 ∧ Rep X.K T M1 ∧ DVs X.K T M1 ps vs ∧ zipDct ps = some z ∧ (∀ M' v, M'.A = M1.A → Rep X.K T M' → Ext M1 M' → RV X.K T M' z v → Q v M'.H)) I ⟨M, B, L, ρ, pt, (post.bind h).mono fun ws L1 M1 eA R x q vs rvs => ?_⟩) fun us s1 hp => ?_) hs2 hpl2
  · obtain ⟨ps, dvs, q⟩ := q.views R eA rvs
    obtain ⟨z, ez, q⟩ := q.opt
    exact ⟨M1, L1, ps, z, rfl, eA, R, dvs, ez, fun M' v a' R' x' r' => q M' (a'.trans eA) R' x' v r'⟩
  · obtain ⟨vs, H1, I1, r1, M1, L1, ws, z, rfl, eA, R, rvs, ez, k⟩ := hp
    obtain ⟨xs, ys, rfl, hk, hl, rfl⟩ := zipDct_eq ez
    obtain ⟨v1, v2, rfl, a1, a2⟩ := rvs.two
    obtain ⟨a, as, rfl, ha1, ra⟩ := a1.lst
    obtain ⟨b, bs, rfl, hb1, rb⟩ := a2.lst
    cases r1 with
    | cons r rr =>
      cases rr with
      | cons r' rr =>
        cases rr
        cases r
        cases r'
        obtain ⟨its, rv, p1, z1⟩ := I1.list (SqL.of ha1)
        obtain ⟨its2, rv2, p2, z2⟩ := I1.list (SqL.of hb1)
        obtain ⟨kvs, k1, k2, k3, k4⟩ := zip_pairs hl hk ra rb
        subst k1
        have hlen : its.length = kvs.length := by rw [← rv.length, List.length_map]
        have hxl : xs.length = kvs.length := by rw [ra.length, List.length_map]
        have rv2' := vals_take its.length rv2
        rw [show bs.take its.length = kvs.map (·.2) by rw [← k2, List.length_map, hlen]] at rv2'
        obtain ⟨prs, rel, l1, l2, hpr⟩ := kv_of (X := X) rv rv2'
        refine call_zip_2 p1.isList p2.isList fun h' hz hTI hTO h1 h2 hsz hkp => ?_
        refine Calls.spliced_nil ?_
        have I2 : Inv X pins σ M1.H { s1 with heap := h' } := I1.kept (t' := s1.toks) hkp
        have hjl : its.length ≤ its2.length := by
          have e1 := rb.length
          have e2 := rv2.length
          have e3 := ra.length
          rw [List.length_map] at e3
          omega
        have hmin : min its.toArray.size its2.toArray.size = its.length := by rw [List.size_toArray, List.size_toArray]; omega
        refine PySem.call_dict_pairs (knd := mixKind X.prog X.w) (kvs := prs) (PairArg.zip _ _ _ _ _ a b (PySem.W.ktu_apart s1.heap.objs.size a b p1.lt p2.lt) its.toArray its2.toArray) (I2.ok.hd hc) ⟨hz, hTI, ⟨_, _, hTO⟩, h1, h2, p1.isList.at fun o e => hkp _ o e, p2.isList.at fun o e => hkp _ o e⟩ ?_ ?_ fun h3 tk dd kp3 => ?_
        · refine ⟨by rw [hmin, l1], fun i key v hr => ?_⟩
          obtain ⟨h4, h5⟩ := hr
          have h4 : its[i]? = some key := by simpa using h4
          have hi : i < its.length := (List.getElem?_eq_some_iff.mp h4).1
          exact hpr i key v h4 (by rw [List.getElem?_take_of_lt hi]; simpa using h5)
        · rw [hmin]
          rw [← rv.length]
          exact z1
        · have hne : M1.H h'.objs.size = none := I2.hok.fresh (Nat.le_refl _)
          have hms : (h'.objs.size == sysModules) = false := beq_eq_false_iff_ne.mpr (Nat.ne_of_gt I2.big)
          have hlen' : (mergeK [] kvs).length ≤ sizeLine := by
            refine Nat.le_trans (length_mergeK kvs []) ?_
            rw [List.length_nil, Nat.zero_add, ← hlen, ← rv.length]
            exact z1
          have kp4 : ∀ b o, s1.heap.get? b = some o → h3.get? b = some o := fun c o e => kp3 c o (fun hm => by
            have hlt := Heap.lt_size e
            simp only [List.mem_cons, List.not_mem_nil, or_false] at hm
            have big : s1.heap.objs.size ≤ c := by
              rcases hm with hm | hm | hm | hm
              · rw [hm]; exact Nat.le_add_right _ _
              · rw [hm]; exact Nat.le_add_right _ _
              · rw [hm]; exact Nat.le_refl _
              · rw [hm]; exact Nat.le_add_right _ _
            exact absurd hlt (Nat.not_lt.mpr big)) (hkp c o e)
          have hpn : s1.heap.get? h'.objs.size = none := by
            cases e : s1.heap.get? h'.objs.size with
            | none => rfl
            | some o => exact absurd (Heap.lt_size (hkp _ _ e)) (Nat.lt_irrefl _)
          have I3 : Inv X pins σ (upd M1.H h'.objs.size (.dK (mergeK [] kvs))) { s1 with heap := h3, toks := tk } :=
            I1.laidN kp4 hpn hne (show ObjOk X.prog X.w _ _ _ (.dK (mergeK [] kvs)) from ⟨hlen', hms, merged [] prs, KV.merge rel .nil, dd⟩)
          obtain ⟨R2, x2⟩ := garb (o := .dK (mergeK [] kvs)) R hne
          obtain ⟨m1, m2⟩ := mergeKV_ok (K := X.K) (T := T) (M := { M1 with H := upd M1.H h'.objs.size (.dK (mergeK [] kvs)) }) (ks' := xs) (ws' := (ys.take xs.length).map W.d) (kvs' := kvs) (ks := []) (ws := []) (kvs := []) k3 (RWs.ofD (RVs.ext R x2 _ _ k4)) rfl rfl
          have mm := mergeKV_map xs (ys.take xs.length) [] []
          rw [List.map_nil] at mm
          rw [mm] at m1 m2
          rw [mergeKV_take xs ys [] [] hl] at m1 m2
          exact ⟨.ref h'.objs.size, _, I3, rfl, k { M1 with H := upd M1.H h'.objs.size (.dK (mergeK [] kvs)) } _ rfl R2 x2 ⟨_, mergeK [] kvs, rfl, sep_new R hne, upd_same, m1, m2.toD'⟩⟩
end
end Ev

set_option Elab.async false
set_option linter.all false
set_option maxRecDepth 100000
set_option maxHeartbeats 1600000
set_option autoImplicit false
/-! EvK2: dict(list of pairs keyed by tuples), list(d) of a dict keyed by tuples. -/
namespace Ev
open PySem PySem.Spec PyProof.Rows L2
def rowsL : D → Option (List D × List D)
  | .lst xs => match unpair xs with
      | some kv => if kv.1.all isNK = true then some kv else none
      | none => none
  | _ => none
def eDictL (o : SE) : SE := fun B ρ L => (o B ρ L).bind fun x L1 => (vwR B L1 x).bind fun p L1 => (ofOpt (rowsL p) L1).bind fun kv L1 => .ok (.ref (B.length + L1.length)) (L1 ++ [.dcn (mergeN [] [] kv.1 kv.2).1 (mergeN [] [] kv.1 kv.2).2])
theorem rowsL_eq {p : D} {kv : List D × List D} (h : rowsL p = some kv) : ∃ xs, p = .lst xs ∧ unpair xs = some kv ∧ kv.1.all isNK = true := by
  unfold rowsL at h
  split at h
  · rename_i xs
    split at h
    · rename_i kv' e
      split at h
      · rename_i hk
        cases h
        exact ⟨xs, rfl, e, hk⟩
      · cases h
    · cases h
  · cases h
section
variable {X : Cx} {T : Tb} {K : PySem.W.Frag} {M : Mem} {B L : Hs} {pins : List (Addr × Obj)} {σ : L2.St} {s : Shared}
def rDictL (K : PySem.W.Frag) (T : Tb) : List V → Hp → VK → Prop := fun xs H Q => ∃ M B L p v kv, M.H = H ∧ M.A = B ++ L ∧ Rep K T M ∧ xs = [v] ∧ DV K T M p v ∧ rowsL p = some kv ∧
  post K T M B (.ok (.ref (B.length + L.length)) (L ++ [.dcn (mergeN [] [] kv.1 kv.2).1 (mergeN [] [] kv.1 kv.2).2])) fun w _ M' => ∀ v, RW K T M' w v → Q v M'.H
theorem cr_dictL (tw : T.w = X.w) (tp : T.P = X.prog) (hc : X.calm = true) (hu : X.A.units + 12 < cLine) : CallR X (.type "dict") (rDictL X.K T) := by
  intro pins s σ H xs us Q I r h
  obtain ⟨M, B, L, p, v, kv, rfl, eA, R, rfl, d, e, k⟩ := h
  obtain ⟨ys, rfl, hun, hnk⟩ := rowsL_eq e
  obtain ⟨ks, ds⟩ := kv
  obtain ⟨a, vs, rfl, sq, rv⟩ := d.lst
  rw [Vals.ref1 r]
  obtain ⟨its, rr, ht, hz⟩ := I.list (SqL.of sq)
  obtain ⟨o, n, ho, hc', hod, hd'⟩ := ht
  obtain ⟨Ts, kvs, ps, rfl, f1, f2, f3, f4, f5, f6⟩ := unpairN_ok I hun hnk rv rr
  have l1 : Ts.length = ps.length := f2.length
  have l2 : kvs.length = ps.length := f1.length
  have l3 : vs.length = Ts.length := by have := rr.length; rw [List.length_map] at this; exact this
  refine call_dict_pairsH (knd := nestedKind X.prog X.w) (ps := ps) (PairArg.list a (Ts.map Value.ref).toArray (fun j => Ts.getD j 0) (ps.map fun p => (Value.ref p.2.1, p.2.2))) (I.ok.hd hc) (room92 hu) ?_ ?_ ?_ ?_ fun h' tk dd' kp => ?_
  · refine ⟨⟨o, n, ho, hc', hod, hd'⟩, by simp [l1], fun j k v hj => ?_⟩
    rw [List.getElem?_map] at hj
    cases hp : ps[j]? with
    | none => rw [hp] at hj; cases hj
    | some p =>
      rw [hp] at hj
      cases hj
      obtain ⟨t, ht, hpa⟩ := paired_get f2 hp
      have ed : Ts.getD j 0 = t := by rw [List.getD_eq_getElem?_getD, ht]; rfl
      show (Ts.map Value.ref).toArray[j]? = some (Value.ref (Ts.getD j 0)) ∧ PairAt s.heap (Ts.getD j 0) _ _
      rw [ed]
      refine ⟨?_, hpa⟩
      simp [ht]
  · refine ⟨by simp, fun i key v hi => ?_⟩
    have hi : (ps.map fun p => (Value.ref p.2.1, p.2.2))[i]? = some (key, v) := hi
    rw [List.getElem?_map] at hi
    cases hp : ps[i]? with
    | none => rw [hp] at hi; cases hi
    | some p =>
      rw [hp] at hi
      cases hi
      exact ⟨p.1, p.2.1, rfl, rfl⟩
  · intro h' hk x hx
    exact nestedKind_stays.stays (fun b o vs n e q => hk b o (Nat.ne_of_lt (Heap.lt_size e)) (fun z => nomatch z) e) (f6 x hx)
  · rw [List.length_map, ← l1, ← l3]; exact hz
  · obtain ⟨qo, es, epp, hq, h2, h3, h4, _, h5⟩ := dd'
    have m := mergeN_ok (K := X.K) (T := T) (M := M) (ks := []) (ws := []) (kvs := []) hnk f3 f4 f5 rfl rfl rfl rfl
    have hf : M.H s.heap.objs.size = none := I.hok.fresh (Nat.le_refl _)
    refine ⟨.ref s.heap.objs.size, upd M.H s.heap.objs.size (DN X.prog X.w s.heap.objs.size (putAllN [] kvs)), I.laid (a := s.heap.objs.size) (o := DN X.prog X.w s.heap.objs.size (putAllN [] kvs)) (t' := tk) (fun b u q => kp b u (fun z => nomatch z) q) (Nat.le_refl _)
      (dn_ok ⟨?_, beq_eq_false_iff_ne.mpr (Ne.symm (Nat.ne_of_lt I.big)), _, nr_putAll f1 .nil, qo, es, epp, hq, h2, h3, h4, h5⟩), rfl, ?_⟩
    · have := length_putAllN kvs []
      rw [List.length_nil] at this
      omega
    · exact new_place R eA hf (o := .dcn (mergeN [] [] ks ds).1 (mergeN [] [] ks ds).2) (h := DN X.prog X.w s.heap.objs.size (putAllN [] kvs)) (fun kk => ⟨putAllN [] kvs, by rw [tw, tp]; exact upd_same, m.1, m.2.1, RVs.keeps kk _ _ m.2.2.1, RWs.keeps kk m.2.2.2⟩) k
theorem je_dictL {e : Expr} {f : SE} {p pos : Pos} (tw : T.w = X.w) (tp : T.P = X.prog) (hc : X.calm = true) (hu : X.A.units + 12 < cLine) (hm : X.mg "dict" = none) (ha : JE X T e f) (hg : Gl X "dict" := by rfl) (hv : bootBuiltins "dict" = some (.type "dict") := by decide +kernel)
    (hs : starEach [e] X.env = [(false, eval e X.env)] := by rfl) (hpl : (backTo pos (starEach ([] : List Expr) X.env)).any (·.1) = false := by rfl) : JE X T (.Call (.Name "dict" p) [e] [] pos) (eDictL f) := by
  have hA : JA X T [e] (aCons f aNil) := ja_cons ha ja_nil (by rw [hs]; rfl)
  refine PE.weak (pe_callTy (cr_dictL tw tp hc hu) hg hm hv hA (by decide) (by decide) (by rw [hs]; rfl) hpl) fun σ H Q h => ?_
  obtain ⟨M, B, L, ρ, p, h⟩ := h
  refine ⟨M, B, L, ρ, p, ?_⟩
  show post X.K T M B ((f B ρ L).bind fun x L1 => (aNil B ρ L1).bind fun xs L2 => Res.ok (x :: xs) L2) _
  unfold eDictL at h
  have h := post.bind h
  cases e1 : f B ρ L with
  | exc _ _ _ => rw [e1] at h; exact h.elim
  | bad => rw [e1] at h; exact h.elim
  | ok w L1 =>
    rw [e1] at h
    intro M1 eA R x vs rvs
    obtain ⟨v, r, rfl, rv, rfl⟩ := rvs
    have q := h M1 eA R x
    obtain ⟨pd, _, dv, q⟩ := q.view R eA rv
    obtain ⟨kv, e3, q⟩ := q.opt
    exact ⟨M1, B, L1, pd, v, kv, rfl, eA, R, rfl, dv, e3, q⟩
/-! list(d) -/
theorem vals_refs : ∀ {as : List Addr} {us : List Value}, us.length = as.length → (∀ (i : Nat) (v : Value), us[i]? = some v → ∃ a, as[i]? = some a ∧ v = .ref a) → Vals (as.map V.ref) us
  | [], [], _, _ => .nil
  | [], _ :: _, h, _ => by simp at h
  | _ :: _, [], h, _ => by simp at h
  | a :: as, u :: us, h, k => by
    obtain ⟨a', e, e2⟩ := k 0 u rfl
    cases e
    exact .cons e2 (vals_refs (by simpa using h) fun i v e => k (i + 1) v e)
def rListN (K : PySem.W.Frag) (T : Tb) : List V → Hp → VK → Prop := fun xs H Q => ∃ M n ks ws, M.H = H ∧ Rep K T M ∧ xs = [V.ref (M.m n)] ∧ M.A[n]? = some (.dcn ks ws) ∧ ∀ M' v, M'.A = M.A → Rep K T M' → Ext M M' → RV K T M' (.lst ks) v → Q v M'.H
theorem cr_listN (tw : T.w = X.w) (tp : T.P = X.prog) (hc : X.calm = true) : CallR X (.type "list") (rListN X.K T) := by
  intro pins s σ H xs us Q I r h
  obtain ⟨M, n, ks, ws, rfl, R, rfl, en, k⟩ := h
  rw [Vals.ref1 r]
  obtain ⟨kvs, e1, e2, e3, e4, e5⟩ := R.at_ n _ en
  rw [tw, tp] at e1
  obtain ⟨hz, lo, xs, rel, dd⟩ := dn_of I e1 e2 e3 e4
  obtain ⟨es, ep, raw, hsz, hes⟩ := dd.raw
  have lkv : kvs.length = xs.length := rel.length
  have hn : es.size ≤ sizeLine := by rw [hsz, ← lkv]; exact hz
  refine PySem.W.kdl_call (PySem.KdlSrc.rawDict (es := es) (ep := ep) lo) (I.ok.hd hc) raw hn fun h' tk acc c kp hS hacc => ?_
  have hne : M.H s.heap.objs.size = none := I.hok.fresh (Nat.le_refl _)
  have hv : Vals ((kvs.map (·.2.1)).map V.ref) acc.toList := vals_refs (by rw [Array.length_toList, hacc.1, List.length_map, hsz, lkv]) fun i v e => by
    obtain ⟨hi, e'⟩ := hacc.2 i v (by rw [← Array.getElem?_toList]; exact e)
    obtain ⟨y, hy, hk, _, _⟩ := hes i hi
    obtain ⟨x, hx, hr⟩ := paired_get rel hy
    exact ⟨x.2.1, by rw [List.getElem?_map, hx]; rfl, by rw [e', hk, hr.2.1]⟩
  have hv : Vals (kvs.map fun p => V.ref p.2.1) acc.toList := by rw [List.map_map] at hv; exact hv
  have rr : RVs X.K T M ks (kvs.map fun p => V.ref p.2.1) := e4
  refine ⟨.ref s.heap.objs.size, upd M.H s.heap.objs.size (.lst (kvs.map fun p : NV => V.ref p.2.1)), I.laid kp (Nat.le_refl _) ⟨by rw [List.length_map]; exact hz, acc.toList, c, hv, by simpa using hS⟩, rfl, new_lst R rr k _ hne⟩
theorem je_listN {e : Expr} {f : SE} {p pos : Pos} (tw : T.w = X.w) (tp : T.P = X.prog) (hc : X.calm = true) (hm : X.mg "list" = none) (ha : JE X T e f) (hg : Gl X "list" := by rfl) (hv : bootBuiltins "list" = some (.type "list") := by decide +kernel)
    (hs : starEach [e] X.env = [(false, eval e X.env)] := by rfl) (hpl : (backTo pos (starEach ([] : List Expr) X.env)).any (·.1) = false := by rfl) : JE X T (.Call (.Name "list" p) [e] [] pos) (eListN f) := by
  have hA : JA X T [e] (aCons f aNil) := ja_cons ha ja_nil (by rw [hs]; rfl)
  refine PE.weak (pe_callTy (cr_listN tw tp hc) hg hm hv hA (by decide) (by decide) (by rw [hs]; rfl) hpl) fun σ H Q h => ?_
  obtain ⟨M, B, L, ρ, p, h⟩ := h
  refine ⟨M, B, L, ρ, p, ?_⟩
  show post X.K T M B ((f B ρ L).bind fun x L1 => (aNil B ρ L1).bind fun xs L2 => Res.ok (x :: xs) L2) _
  unfold eListN at h
  have h := post.bind h
  cases e1 : f B ρ L with
  | exc _ _ _ => rw [e1] at h; exact h.elim
  | bad => rw [e1] at h; exact h.elim
  | ok w L1 =>
    rw [e1] at h
    intro M1 eA R x vs rvs
    obtain ⟨v, r, rfl, rv, rfl⟩ := rvs
    have q := h M1 eA R x
    obtain ⟨kw, e2, q⟩ := q.opt
    obtain ⟨n, rfl, en⟩ := dcn_at eA e2 rv
    exact ⟨M1, n, kw.1, kw.2, rfl, R, rfl, en, fun M' v a' R' x' rv => q M' (a'.trans eA) R' x' v rv⟩
end
end Ev

set_option Elab.async false
set_option linter.all false
set_option maxRecDepth 100000
set_option maxHeartbeats 4000000
set_option autoImplicit false
/-! EvE1: an own exception class whose __init__ says super().__init__(p); self.p = p: the call, by position and by keyword. -/
namespace Ev
open PySem PySem.Spec PyProof.Rows L2 PySem.W PySem.HandSPX
section
variable {M : Model} {A : Around} {E : Value → Shared → Prop} {h : Heap} {g : Array GenState} {d : Drawn} {t : Nat} {os : OsState}
variable {nm q : Str} {C N : Addr} {bs bm bmB : List Value} {hdct : Bool} {sn : List Str} {sub : List Value} {ab : Bool} {col : Option Bool} {dd : Option Addr} {k0 k1 k2 k3 k5 : Option Value} {B newId initId : String}
theorem xk_check_new (F : ExcBaseFacts B newId initId bmB) (hT : ∀ X : String, bm.contains (.type X) = bmB.contains (.type X)) {rest : List Value} {kw : List (Str × Value)} {Q : Unit → Shared → Prop}
    (hC : h.get? C = some (excClassObj nm q C N bs bm hdct sn sub ab col dd k0 k1 k2 k3 k5 newId)) (hq : Q () ⟨h, g, d, t, os⟩) : wpAny M A (checkBuiltinCall newId ⟨.ref C :: rest, kw⟩) Q E ⟨h, g, d, t, os⟩ := by
  have hcont : (Value.ref C :: bm).contains (.type B) = true := by rw [List.contains_cons, hT, F.hasB, Bool.or_true]
  have hstar := F.noStar
  simp only [checkBuiltinCall, F.newKind, F.newSplit, F.newRow]
  repeat (first | refine wpAny_loadPart_at hC ?_ | (refine wpAny_isSubtype_exc hC ?_; rw [hcont]) | refine wpAny_staticBase_exc hC ?_ | refine wpAny_madeBy_exc hC ?_ | simp only [bne_self_eq_false, Bool.false_eq_true, if_false] | wp_step)
  exact hq
end
section
variable {prog : Program} {w : World} {A : Around} {E : Value → Shared → Prop} {R : Result → Shared → Prop} {h : Heap} {g : Array GenState} {d : Drawn} {t : Nat} {os : OsState}
variable {nm q : Str} {C N : Addr} {bs bm bmB : List Value} {hdct : Bool} {sn : List Str} {sub : List Value} {ab : Bool} {col : Option Bool} {dd : Option Addr} {k0 k1 k2 k3 k5 : Option Value} {B newId initId : String}
theorem xk_new (F : ExcBaseFacts B newId initId bmB) (hT : ∀ X : String, bm.contains (.type X) = bmB.contains (.type X)) {rest : List Value} {kw : List (Str × Value)}
    (hC : h.get? C = some (excClassObj nm q C N bs bm hdct sn sub ab col dd k0 k1 k2 k3 k5 newId))
    (hq : R (.ok (.ret (.ref (h.objs.size + 1)))) ⟨(h.push { cls := .type "tuple", data := .seq rest.toArray }).push
      { cls := .ref C, data := .fields #[.ref h.objs.size, .none, .none, .none, .bool false, .none] }, g, d, t, os⟩) (hrest : rest.length ≤ sizeLine) :
    codeAny (model prog w) A (.builtin newId ⟨.ref C :: rest, kw⟩) R ⟨h, g, d, t, os⟩ := by
  have hends := F.ends
  have hcB : (Value.ref C :: bm).contains (.type B) = true := by rw [List.contains_cons, hT, F.hasB, Bool.or_true]
  have hcA : (Value.ref C :: bm).contains (.type "AttributeError") = false := by rw [List.contains_cons, hT, F.noAttr]; rfl
  have hcN : (Value.ref C :: bm).contains (.type "NameError") = false := by rw [List.contains_cons, hT, F.noName]; rfl
  refine codeAny_builtinAt F.entry ?_
  unfold Builtin.«BaseException.__new__»
  refine PySem.wpAt_bind ?_
  show PySem.wpAt _ _ _ (stack >>= _) _ _ _
  refine PySem.wpAt_bind (PySem.wpAt_stack fun p below => wpAt_of_wpAny ?_)
  wp_walk
  refine PySem.wpAt_of_wpAny ?_
  rw [F.owner]
  repeat (first | with_reducible refine wpAny_madeHere_exc F.canon hC ?_ | with_reducible refine wpAny_loadPart_at hC ?_ | (with_reducible refine wpAny_isSubtype_exc hC ?_; first | rw [hcB] | rw [hcA] | rw [hcN]) | wp_step)
  show R _ _
  rw [Heap.size_push]
  exact hq
theorem xk_type_call (F : ExcBaseFacts B newId initId bmB) (hT : ∀ X : String, bm.contains (.type X) = bmB.contains (.type X)) {rest : List Value} {kw : List (Str × Value)} {fI : Addr} {Q : Fin → Shared → Prop}
    (hC : h.get? C = some (excClassObj nm q C N bs bm hdct sn sub ab col dd k0 k1 k2 k3 k5 newId))
    (hi : W.Looks (model prog w) h (typeLookup (.ref C) "__init__") (some (.ref fI))) (hb : ∀ self, W.Looks (model prog w) h (bindSpecial (.ref fI) self) (.ref fI, [self])) (hrest : rest.length ≤ sizeLine)
    (hq : codeAny (model prog w) A (.call (.ref fI) ⟨.ref (h.objs.size + 1) :: rest, kw⟩)
      (fun r s' => match r with | .ok (.ret v) => v = .none ∧ Q (.done (.ret (.ref (h.objs.size + 1)))) s' | .ok _ => False | .error e => E e s')
      ⟨(h.push (W.kdv_tup rest)).push (excO C h.objs.size), g, d, t, os⟩) :
    wpAny (model prog w) A (Builtin.«type.__call__» ⟨.ref C :: rest, kw⟩) Q E ⟨h, g, d, t, os⟩ := by
  repeat (first | with_reducible refine wpAny_loadPart_at hC ?_ | with_reducible refine wpAny_madeBy_exc hC ?_ | wp_step)
  refine codeAny_call_builtin_code (Code.quiet_builtin _ F.quiet) (xk_check_new F hT hC ?_)
  refine xk_new F hT hC ?_ hrest
  show wpAny _ _ _ _ _ _
  have k : ∀ b o, h.get? b = some o → ((h.push (W.kdv_tup rest)).push (excO C h.objs.size)).get? b = some o := fun b o e => Heap.get?_push_of_some _ (Heap.get?_push_of_some _ e)
  have hC₁ := k _ _ hC
  have hget : ((h.push (W.kdv_tup rest)).push (excO C h.objs.size)).get? (h.objs.size + 1) = some (excO C h.objs.size) := by heap_get
  have hcC : (Value.ref C :: bm).contains (.ref C) = true := by simp
  have i1 := hi.keeps k
  have b1 := (hb (.ref (h.objs.size + 1))).keeps k
  unfold isInstance
  repeat (first | with_reducible refine wpAny_loadPart_at hget ?_ | (with_reducible refine wpAny_isSubtype_exc hC₁ ?_; rw [hcC]) | wp_step)
  show wpAny _ _ (typeLookup (.ref C) _) _ _ _
  refine i1.at ?_
  refine wpAny_holding (wpAny_bind (b1.at ?_))
  refine wpAny_bind (wpAny_call (codeAny_mono hq fun r s' z => ?_))
  rcases r with e | (v | _ | _ | _) <;> first | exact z | exact z.elim | skip
  obtain ⟨rfl, z⟩ := z
  first
    | exact wpAny_pure (wpAny_pure z)
    | (wp_walk; exact z)
theorem xk_check_tc {M : Model} {rest : List Value} {kw : List (Str × Value)} {Q : Unit → Shared → Prop} (hC : h.get? C = some (excClassObj nm q C N bs bm hdct sn sub ab col dd k0 k1 k2 k3 k5 newId))
    (hq : Q () ⟨h, g, d, t, os⟩) : wpAny M A (checkBuiltinCall "type.__call__" ⟨.ref C :: rest, kw⟩) Q E ⟨h, g, d, t, os⟩ := by
  have f3 := tc_sub
  have hT : (⟨h, g, d, t, os⟩ : Shared).TypeIs (.ref C) "type" := ⟨_, hC, rfl⟩
  simp only [checkBuiltinCall, tc_kind, tc_split]
  repeat (any_goals (first | assumption | with_reducible refine wpAny_loadPart_at hC ?_ | with_reducible refine wpAny_onRaise ?_ | with_reducible refine wpAny_map ?_ | wp_step))
theorem xk_call (F : ExcBaseFacts B newId initId bmB) (hT : ∀ X : String, bm.contains (.type X) = bmB.contains (.type X)) {rest : List Value} {kw : List (Str × Value)} {fI : Addr}
    (hC : h.get? C = some (excClassObj nm q C N bs bm hdct sn sub ab col dd k0 k1 k2 k3 k5 newId))
    (hi : W.Looks (model prog w) h (typeLookup (.ref C) "__init__") (some (.ref fI))) (hb : ∀ self, W.Looks (model prog w) h (bindSpecial (.ref fI) self) (.ref fI, [self])) (hrest : rest.length ≤ sizeLine)
    (hq : codeAny (model prog w) (A.under (.builtin "type.__call__" ⟨.ref C :: rest, kw⟩)) (.call (.ref fI) ⟨.ref (h.objs.size + 1) :: rest, kw⟩) (W.InitBack (h.objs.size + 1) R)
      ⟨(h.push (W.kdv_tup rest)).push (excO C h.objs.size), g, d, t, os⟩) :
    codeAny (model prog w) A (.call (.ref C) ⟨rest, kw⟩) R ⟨h, g, d, t, os⟩ := by
  have f1 := tc_lookup
  have f2 := tc_bind (.ref C)
  have hTy : (⟨h, g, d, t, os⟩ : Shared).TypeIs (.ref C) "type" := ⟨_, hC, rfl⟩
  refine codeAny_of_tree ?_
  show wpAny _ _ (callAny (.ref C) _) _ _ _
  repeat (any_goals (first | assumption | with_reducible refine wpAny_loadPart_at hC ?_ | wp_step))
  refine ⟨rfl, ?_⟩
  refine codeAny_call_builtin_at (Code.quiet_builtin _ (by decide +kernel)) entry_typeCall (xk_check_tc hC (xk_type_call F hT hC hi hb hrest ?_))
  refine codeAny_mono hq fun r s' z => ?_
  rcases r with e | (v | _ | _ | _) <;> exact z
end
end Ev

set_option Elab.async false
set_option linter.all false
set_option maxRecDepth 100000
set_option maxHeartbeats 4000000
set_option autoImplicit false
/-! EvE2: the run of such an __init__; the class called. -/
namespace Ev
open PySem PySem.Spec PyProof.Rows L2 PySem.W PySem.HandSPX Builtin.ObjectAttr
/-- super().__init__(p); self.p = p -/
def xBody (p : Str) (q0 q1 q2 q3 q4 q5 q6 q7 q8 q9 : Pos) : List Stmt :=
  [.Expr (.Call (.Attribute (.Call (.Name "super" q0) [] [] q1) "__init__" q2) [.Name p q3] [] q4) q5, .Assign [.Attribute (.Name "self" q6) p q7] (.Name p q8) q9]
/-- what the written part tells of the class at C -/
structure XIn (K : PySem.W.Frag) (C fI : Addr) (p : Str) (B i newId : String) (bmB : List Value) (file : Str) (fd : FuncData) : Prop where
  q : excInitIn K C bmB newId = true
  ov : excOver K C bmB = true
  hi : findIn K (.ref C) "__init__" = some (some (.ref fI))
  fn : isFn K (.ref fI) = true
  fun_ : ∃ oc od osl qual params scope dV kV doc pm an cda ct cc a0 q0 q1 q2 q3 q4 q5 q6 q7 q8 q9, fd = ksFn "__init__" qual params (xBody p q0 q1 q2 q3 q4 q5 q6 q7 q8 q9) scope dV kV doc pm an (.ref cda) ct cc ∧
    K.lookup fI = some ⟨oc, od, .func fd, osl⟩ ∧ codeIn K (.ref cda) qual = true ∧ (params.posonlyargs ++ params.args).head? = some a0 ∧ a0.arg = ("self" : Str) ∧
    (∃ ccl cdd vs ccs tf, K.lookup cda = some ⟨ccl, cdd, .fields vs, ccs⟩ ∧ vs[2]? = some (.str file tf)) ∧ (∃ cl cld csl, K.lookup cc = some ⟨cl, cld, .cell (some (.ref C)), csl⟩) ∧
    scope.names.lookup ("super" : Str) = some .globalImplicit ∧ scope.names.lookup ("__class__" : Str) = some .free ∧ scope.names.lookup ("self" : Str) = some .local ∧ scope.names.lookup p = some .local ∧ scope.kind = .function ∧ scope.isCoroutine = false ∧ scope.isGenerator = false ∧ (∀ x ∈ scope.names, x.2 ≠ .cell) ∧ (q2.endLine == q4.line) = true
  cl : (clsIn K C).isSome = true
  su : mroIn K C (.ref C) = some true
  sg : nsIn K mainGlobals "super" = some none
  op : nsIn K cStatics "thirdparty.any" = some none
  mt : ks_superIn K C C "__init__" = some (some (.builtin i))
  sb : subIn K (.ref C) (.type B) = some true
  sa : findIn K (.ref C) "__setattr__" = some (some (.builtin "object.__setattr__"))
  tk : takerIn K C p = some none
  hd : hasDictIn K C = true
  dbg : (p == ("__debug__" : Str)) = false
  ns : (p == ("self" : Str)) = false
section
variable {prog : Program} {w : World} {A : Around} {E : Value → Shared → Prop} {R : Result → Shared → Prop} {K : PySem.W.Frag} {C fI : Addr} {p : Str} {B i newId : String} {bmB : List Value} {file : Str} {fd : FuncData}
/-- the first field of an exception that has no dict yet -/
theorem x_store {hp : Heap} {g : Array GenState} {dr : Drawn} {t : Nat} {os : OsState} {x t0 : Addr} {v : Value} {Q : Unit → Shared → Prop} (SF : StoreFacts B bmB "object.__setattr__" "object") (T : XIn K C fI p B i newId bmB file fd) (X : K.In hp) (hx : hp.get? x = some (excO C t0))
    (hq : ∀ h' tk' dx, (∀ b o, b ≠ x → hp.get? b = some o → h'.get? b = some o) → hp.objs.size ≤ dx → dx ≠ x → h'.get? x = some { cls := .ref C, dict := some dx, data := .fields #[.ref t0, .none, .none, .none, .bool false, .none] } →
      h'.Ns1 dx (fun y => if y = p then some v else none) → Q () ⟨h', g, dr, tk', os⟩) :
    wpAny (model prog w) A (setAttr (.ref x) p v) Q E ⟨hp, g, dr, t, os⟩ := by
  have I : InstAt hp x (excO C t0) C none := ⟨hx, rfl, rfl, trivial⟩
  have hxs : x ≠ hp.objs.size := Nat.ne_of_lt (Heap.lt_size hx)
  refine set_plain (od := none) X I T.sa (osa_openX (od := none) (s := ⟨hp, g, dr, t + 1, os⟩) SF X I T.ov T.tk fun b => ?_)
  obtain ⟨cd, hc, hd'⟩ := any_some T.hd
  have hcls : Looks (model prog w) hp (classData C) cd := looks_clsIn X hc
  obtain ⟨nm, bs, mro, ns, qn, hd, sn, sb, ab, col, del⟩ := cd
  dsimp only at hd'
  subst hd'
  show wpAny _ _ (storeInOwnDict (.ref x) (.ref C) (.str p t) p v b) _ _ _
  unfold storeInOwnDict ownDictForStores
  repeat (first | with_reducible refine store_in_new ?_ ?_ | with_reducible refine wpAny_loadPart_at hx ?_ | with_reducible refine hcls.at ?_ | wp_step)
  · exact ⟨_, #[], _, (Heap.get?_update_ne _ _ _ _ hxs.symm).trans (Heap.get?_push_at rfl rfl), rfl, fun e he => absurd he (by simp), fun _ => rfl⟩
  · intro h' tk' hn' hs
    have hx₁ : (hp.push { cls := .type "dict", data := .dict #[] }).get? x = some (excO C t0) := Heap.get?_push_of_some _ hx
    refine hq h' tk' hp.objs.size (fun b o hb ho => ?_) (Nat.le_refl _) hxs.symm ?_ hn'
    · exact (hs.2 b (Nat.ne_of_lt (Heap.lt_size ho))).trans ((Heap.get?_update_ne _ _ _ _ hb).trans (Heap.get?_push_of_some _ ho))
    · exact (hs.2 x hxs).trans (Heap.get?_update_self _ hx₁ rfl)
/-- __init__(e, u) -/
theorem x_init {s : Shared} {mg mb : Str → Option Value} {e t0 : Addr} {u : Value} {args : Args} (FB : ExcBaseFacts B newId i bmB) (KF : KxsFacts B i) (SF : StoreFacts B bmB "object.__setattr__" "object") (T : XIn K C fI p B i newId bmB file fd)
    (X : K.In s.heap) (G : s.heap.Ns mainGlobals mg) (Gb : s.heap.Ns builtinsNs mb) (hsup : mb "super" = some (.type "super")) (nol : s.heap.NoLimit) (hroom : A.depth < recursionLimit) (hfile : ((prog.main.file : Str) == file) = true) (htop : (prog.main.scope.names.lookup ("super" : Str)).isSome = false)
    (he : s.heap.get? e = some (excO C t0)) (hek : K.lookup e = none) (hbind : BindsTo s fd args [("self", .ref e), (p, u)])
    (hq : ∀ h' tk' dx t1, (∀ b o, b ≠ e → s.heap.get? b = some o → h'.get? b = some o) → s.heap.objs.size ≤ dx → h'.get? e = some { cls := .ref C, dict := some dx, data := .fields #[.ref t1, .none, .none, .none, .bool false, .none] } →
      h'.Ns1 dx (fun y => if y = p then some u else none) → R (.ok (.ret .none)) { s with heap := h', toks := tk' }) :
    codeAny (model prog w) A (.call (.ref fI) args) R s := by
  obtain ⟨oc, od, osl, qual, params, scope, dV, kV, doc, pm, an, cda, ct, cc, a0, q0, q1, q2, q3, q4, q5, q6, q7, q8, q9, rfl, lk, hcd, hp, ha0, ⟨ccl, cdd, vs, ccs, tf, lc, hvs⟩, ⟨cl, cld, csl, lcell⟩, k1, k2, k3, k4, k5, k6, k7, k8, k9⟩ := T.fun_
  obtain ⟨skind, snames, sgen, sco, smore⟩ := scope
  dsimp only at k1 k2 k3 k4 k5 k6 k7 k8
  subst k5
  refine ks_codeAny_call_defAt (binds := [("self", .ref e), (p, u)]) hroom (X _ _ lk) rfl nol (codeRec_of X hcd) rfl hbind k8 (fun y hy => ?_) (fun h₀ hns keep => ?_) k6 k7 rfl
  · rcases List.mem_cons.mp hy with rfl | hy
    · exact k3
    · rcases List.mem_cons.mp hy with rfl | hy
      · exact k4
      · cases hy
  show PySem.wpAt _ (A.deeper (ksEnv qual ⟨.function, snames, sgen, sco, smore⟩ s.heap.objs.size fI (.ref cda) cc)) (.func _ (ksEnv qual ⟨.function, snames, sgen, sco, smore⟩ s.heap.objs.size fI (.ref cda) cc)) (execs (xBody p q0 q1 q2 q3 q4 q5 q6 q7 q8 q9) (ksEnv qual ⟨.function, snames, sgen, sco, smore⟩ s.heap.objs.size fI (.ref cda) cc)) _ _ _
  have X0 : K.In h₀ := X.keeps keep
  have he0 := keep _ _ he
  have hps : p ≠ ("self" : Str) := fun z => by have := T.ns; rw [z] at this; exact absurd this (by decide)
  have mself : (fun x => ([("self", Value.ref e), (p, u)] : List (Str × Value)).reverse.lookup x) ("self" : Str) = some (.ref e) := by
    show List.lookup ("self" : Str) [(p, u), ("self", Value.ref e)] = _
    rw [List.lookup_cons, show (("self" : Str) == p) = false from beq_false_of_ne (Ne.symm hps)]
    rfl
  have mp : (fun x => ([("self", Value.ref e), (p, u)] : List (Str × Value)).reverse.lookup x) p = some u := by
    show List.lookup p [(p, u), ("self", Value.ref e)] = _
    rw [List.lookup_cons, beq_self_eq_true]
  generalize (fun x => ([("self", Value.ref e), (p, u)] : List (Str × Value)).reverse.lookup x) = m at hns mself mp
  obtain ⟨cdD, hcls⟩ := Option.isSome_iff_exists.mp T.cl
  obtain ⟨oD, hD1, hD2⟩ : ∃ oD, h₀.get? C = some oD ∧ oD.data = .cls cdD := by
    unfold clsIn at hcls
    split at hcls
    · rename_i c d cd' sl ho
      cases hcls
      exact ⟨_, X0 _ _ ho, rfl⟩
    · cases hcls
  have I0 : InstAt h₀ e (excO C t0) C none := ⟨he0, rfl, rfl, trivial⟩
  obtain ⟨hp0, g, dr, t, os⟩ := s
  have hev : ∀ env : Env, eval (.Call (.Attribute (.Call (.Name "super" q0) [] [] q1) "__init__" q2) [.Name p q3] [] q4) env = (do
      let ov ← attributeBase (.Call (.Name "super" q0) [] [] q1) "__init__" env (eval (.Call (.Name "super" q0) [] [] q1) env)
      standAt q2.atName
      let (f, first) ← holding [ov] (getMethod ov "__init__" (plainOf (.Call (.Name "super" q0) [] [] q1) env))
      callWith q4 f first (backTo q4 (starEach [.Name p q3] env)) []) := fun env => by
    rw [arm_eval_Call]
    exact bind_congr fun ov => bind_congr fun _ => mcall_line rfl k9
  refine ks_wpAt_execs_cons (ks_wpAt_Expr_any (ks_wpAt_MethodCall (he := hev _) (ks_wpAt_super_base (env := ksEnv qual ⟨.function, snames, sgen, sco, smore⟩ hp0.objs.size fI (.ref cda) cc) k1 k2 (by decide) rfl (X0 _ _ lk) rfl hp rfl (X0 _ _ lc) rfl hvs hfile htop ?_)))
  refine ks_loadName_global rfl k1 (Calls.loadGlobal_builtin (env := ksEnv qual ⟨.function, snames, sgen, sco, smore⟩ hp0.objs.size fI (.ref cda) cc) (G.keeps keep) (mg_none_of X G T.sg) (Gb.keeps keep) hsup ⟨rfl, ?_⟩)
  refine wpAny_loadName_free rfl k2 rfl ⟨_, X0 _ _ lcell, rfl⟩ ?_
  rw [ha0]
  refine wpAny_loadName_local rfl k3 hns mself ?_
  refine ks_wpAny_isType_cls hD1 hD2 ⟨rfl, ?_⟩
  refine ks_wpAny_call_super hD1 hD2 he0 rfl (fun c z => by cases z) (looks_mroIn X0 T.su) (fun h1 so1 kp1 => ?_)
  have X1 : K.In h1 := X0.keeps kp1
  have he1 := kp1 _ _ he0
  have hns1 : h1.Ns hp0.objs.size m := hns.keeps kp1
  have hI1 : Looks (model prog w) h1 (isInstance (.ref e) (.type B)) true := InstAt.type (⟨he1, rfl, rfl, trivial⟩ : InstAt h1 e (excO C t0) C none) |>.andThen (looks_subIn X1 T.sb)
  have hsup' := T.mt
  unfold ks_superIn at hsup'
  rw [hcls] at hsup'
  refine kxs_getMethod KF so1 (looks_opaque X1 T.op) (l₀ := cdD.mro) ((looks_clsIn X1 hcls).andThen .now) rfl X1 hsup' hI1 (ks_ne X0 I0 hcls) (by decide) ?_
  have kp2 : ∀ b o, h1.get? b = some o → (h1.push (kxs_mw i e)).get? b = some o := fun b o z => Heap.get?_push_of_some _ z
  have hu2 : (h1.push (kxs_mw i e)).get? h1.objs.size = some (kxs_mw i e) := Heap.get?_push_at rfl rfl
  have he2 := kp2 _ _ he1
  have hns2 := hns1.keeps kp2
  have X2 : K.In (h1.push (kxs_mw i e)) := X1.keeps kp2
  have hso : h1.objs.size ≠ e := Nat.ne_of_gt (Heap.lt_size he1)
  show wpAny _ _ (callWith q4 (.ref h1.objs.size) [] (backTo q4 (starEach [.Name p q3] (ksEnv qual ⟨.function, snames, sgen, sco, smore⟩ hp0.objs.size fI (.ref cda) cc))) []) _ _ _
  refine kxs_callWith (i := i) (x := e) rfl ?_
  show wpAny _ _ (evalArgs _ true ((false, eval (.Name p q3) (ksEnv qual ⟨.function, snames, sgen, sco, smore⟩ hp0.objs.size fI (.ref cda) cc)) :: backTo q4 (starEach [] _)) []) _ _ _
  refine Calls.evalArgs_plain (Calls.spliced_cons (wpAny_Name (wpAny_loadName_local rfl k4 hns2 mp ?_) T.dbg))
  refine Calls.spliced_nil ⟨hu2, ?_⟩
  show wpAny _ _ (call (.ref h1.objs.size) [u]) _ _ _
  obtain ⟨nm, N', qn, bs, bm, hdct, sn, sub, ab, col, dd, c0, c1, c2, c3, c5, hC, hT⟩ := excInit_of X2 T.q
  refine wpAny_call (codeAny_of_tree ?_)
  show wpAny _ _ (callAny (.ref h1.objs.size) ⟨[u], []⟩) _ _ _
  simp only [callAny]
  refine wpAny_bind (wpAny_load hu2 ?_)
  simp only [kxs_mw, show (Value.type "method-wrapper" == Value.type "method" || Value.type "method-wrapper" == Value.type "builtin_function_or_method" || Value.type "method-wrapper" == Value.type "method-wrapper") = true by decide, if_true]
  refine KFB.if_so (by decide) ?_
  refine wpAny_bind (check_bound_init FB.toExcCallFacts hC he2 rfl ?_)
  refine wpAny_bind (wpAny_pure (wpAny_pure ?_))
  refine ⟨plainId_quiet FB.init.plain _, codeAny_builtin FB.initEntry ?_⟩
  refine exc_init_tree (cls := .ref C) (t0 := t0) (dv := none) (c2 := .none) (c3 := .none) (b4 := .bool false) he2 (by show 1 ≤ sizeLine; rw [sizeLine_eq]; omega) (fun h3 kp3 he3 ht3 => ?_)
  have hL : ∀ {o : Obj}, h1.get? hp0.objs.size = some o → hp0.objs.size ≠ e := fun {o} z => Nat.ne_of_gt (Heap.lt_size he)
  have ne0 : hp0.objs.size ≠ e := Nat.ne_of_gt (Heap.lt_size he)
  have hns3 : h3.Ns hp0.objs.size m := by
    obtain ⟨o, es, ep, z, r⟩ := hns2
    exact ⟨o, es, ep, kp3 _ _ ne0 z, r⟩
  have X3 : K.In h3 := fun b o z => kp3 b o (fun y => by rw [y, hek] at z; cases z) (X2 b o z)
  show PySem.wpAt _ _ _ (execs [.Assign [.Attribute (.Name "self" q6) p q7] (.Name p q8) q9] (ksEnv qual ⟨.function, snames, sgen, sco, smore⟩ hp0.objs.size fI (.ref cda) cc)) _ _ _
  refine ks_wpAt_execs_cons (ks_wpAt_Assign_Attr (PySem.wpAt_of_wpAny (wpAny_Name (wpAny_loadName_local rfl k4 hns3 mp ?_) T.dbg)))
  refine wpAny_Name (wpAny_loadName_local rfl k3 hns3 mself ?_) (by decide)
  refine x_store SF T X3 he3 (fun h4 tk4 dx kp4 hdx nd he4 hn4 => ?_)
  show PySem.wpAt _ _ _ (execs [] _) _ _ _
  rw [execs_nil]
  refine PySem.wpAt_of_wpAny (wpAny_pure ?_)
  have sz : hp0.objs.size ≤ dx := by
    refine Nat.le_trans ?_ hdx
    have := Heap.lt_size (kp3 _ _ ne0 (kp2 _ _ (kp1 _ _ (show h₀.get? hp0.objs.size = some _ from (Classical.choose_spec (show ∃ o, h₀.get? hp0.objs.size = some o from let ⟨o, es, ep, z, r⟩ := hns; ⟨o, z⟩))))))
    exact Nat.le_of_lt this
  exact hq h4 tk4 dx _ (fun b o nb z => kp4 b o nb (kp3 b o nb (kp2 _ _ (kp1 _ _ (keep _ _ z))))) sz he4 hn4
/-- C(u), C(p = u) -/
theorem x_make {s : Shared} {mg mb : Str → Option Value} {u : Value} {pos : List Value} {kw : List (Str × Value)} {Q : Value → Shared → Prop} (FB : ExcBaseFacts B newId i bmB) (KF : KxsFacts B i) (SF : StoreFacts B bmB "object.__setattr__" "object") (T : XIn K C fI p B i newId bmB file fd)
    (X : K.In s.heap) (G : s.heap.Ns mainGlobals mg) (Gb : s.heap.Ns builtinsNs mb) (hsup : mb "super" = some (.type "super")) (nol : s.heap.NoLimit) (hroom : (A.under (.builtin "type.__call__" ⟨.ref C :: pos, kw⟩)).depth < recursionLimit) (hfile : ((prog.main.file : Str) == file) = true) (htop : (prog.main.scope.names.lookup ("super" : Str)).isSome = false)
    (hbind : ∀ (s' : Shared) (e : Addr), BindsTo s' fd ⟨.ref e :: pos, kw⟩ [("self", .ref e), (p, u)]) (hz : pos.length ≤ sizeLine)
    (hq : ∀ h' tk' e dx t1, (∀ b o, s.heap.get? b = some o → h'.get? b = some o) → s.heap.objs.size ≤ e → s.heap.objs.size ≤ dx → dx ≠ e → h'.get? e = some { cls := .ref C, dict := some dx, data := .fields #[.ref t1, .none, .none, .none, .bool false, .none] } →
      h'.Ns1 dx (fun y => if y = p then some u else none) → Q (.ref e) { s with heap := h', toks := tk' }) :
    wpAny (model prog w) A (call (.ref C) pos kw) Q E s := by
  obtain ⟨nm, N', qn, bs, bm, hdct, sn, sub, ab, col, dd, c0, c1, c2, c3, c5, hC, hT⟩ := excInit_of X T.q
  obtain ⟨oI, hoI, hcI⟩ : ∃ oI, s.heap.get? fI = some oI ∧ oI.cls = .type "function" := by
    obtain ⟨o, ho, hc⟩ := Option.map_eq_some_iff.mp (show (K.lookup fI).map (·.cls) = some (.type "function") from beq_iff_eq.mp T.fn)
    exact ⟨o, X _ _ ho, hc⟩
  obtain ⟨hh, g, dr, tk, os⟩ := s
  have k : ∀ b o, hh.get? b = some o → ((hh.push (W.kdv_tup pos)).push (excO C hh.objs.size)).get? b = some o := fun b o e => Heap.get?_push_of_some _ (Heap.get?_push_of_some _ e)
  have hget : ((hh.push (W.kdv_tup pos)).push (excO C hh.objs.size)).get? (hh.objs.size + 1) = some (excO C hh.objs.size) := by heap_get
  refine wpAny_call (xk_call FB hT hC (looks_findIn X T.hi) (fun self => exc_bind hoI hcI self) hz ?_)
  refine x_init (s := ⟨(hh.push (W.kdv_tup pos)).push (excO C hh.objs.size), g, dr, tk, os⟩) (e := hh.objs.size + 1) (t0 := hh.objs.size) FB KF SF T (X.keeps k) (G.keeps k) (Gb.keeps k) hsup (nol.keeps k) hroom hfile htop hget ?_ (hbind _ _) fun h' tk' dx t1 kk hd he hn => ?_
  · cases z : K.lookup (hh.objs.size + 1) with
    | none => rfl
    | some o =>
      have y := Heap.lt_size (X _ _ z)
      exact absurd y (Nat.not_lt.mpr (Nat.le_succ _))
  · have hd' : hh.objs.size + 2 ≤ dx := by
      have : ((hh.push (W.kdv_tup pos)).push (excO C hh.objs.size)).objs.size = hh.objs.size + 2 := by rw [Heap.size_push, Heap.size_push]
      exact this ▸ hd
    refine ⟨rfl, hq h' tk' (hh.objs.size + 1) dx t1 (fun b o z => kk b o (fun y => ?_) (k _ _ z)) (Nat.le_succ _) (by show hh.objs.size ≤ dx; omega) (by omega) he hn⟩
    have y1 := Heap.lt_size z
    rw [y] at y1
    exact absurd y1 (Nat.not_lt.mpr (Nat.le_succ _))
end
end Ev

set_option Elab.async false
set_option linter.all false
set_option maxRecDepth 100000
set_option maxHeartbeats 4000000
set_option autoImplicit false
/-! EvE3: such a class called, over the hand layer: as a value, and to be raised. -/
namespace Ev
open PySem PySem.Spec PyProof.Rows L2 PySem.W PySem.HandSPX
section
variable {X : Cx} {C fI : Addr} {p : Str} {B i newId : String} {bmB : List Value} {file : Str} {fd : FuncData}
/-- all that is asked for the call -/
structure XMk (X : Cx) (C fI : Addr) (p : Str) (B i newId : String) (bmB : List Value) (file : Str) (fd : FuncData) : Prop where
  FB : ExcBaseFacts B newId i bmB
  KF : KxsFacts B i
  SF : StoreFacts B bmB "object.__setattr__" "object"
  T : XIn X.K C fI p B i newId bmB file fd
  hfile : ((X.prog.main.file : Str) == file) = true
  htop : (X.prog.main.scope.names.lookup ("super" : Str)).isSome = false
  keep : PySem.W.keepIn X.K (.ref C) = true
/-- what stands behind the call -/
def NewX (X : Cx) (pins : List (Addr × Obj)) (σ : L2.St) (H : Hp) (s : Shared) (C : Addr) (p : Str) (v : V) (u : Value) (s' : Shared) : Prop :=
  ∃ (e dx t1 : Addr) (h' G : Heap) (tk : Nat) (mA : Str → Option Value), u = .ref e ∧ s' = { s with heap := h', toks := tk } ∧ H e = none ∧ H dx = none ∧ dx ≠ e ∧ h'.get? e = some { cls := .ref C, dict := some dx, data := .fields #[.ref t1, .none, .none, .none, .bool false, .none] } ∧
    G.get? e = none ∧ (∀ b o, G.get? b = some o → h'.get? b = some o) ∧ (∀ b o, s.heap.get? b = some o → G.get? b = some o) ∧ s.heap.get? dx = none ∧ G.Ns1 dx mA ∧ ∀ f, RelO (([(p, v)] : List (Str × V)).lookup f) (mA f)
theorem newX {pins : List (Addr × Obj)} {σ : L2.St} {H : Hp} {s : Shared} {v : V} {u : Value} {pos : List Value} {kw : List (Str × Value)} {k : Nat} (m : XMk X C fI p B i newId bmB file fd) (hr : Room (k + 1) X.A) (I : Inv X pins σ H s) (rv : RelV v u)
    (hbind : ∀ (s' : Shared) (e : Addr), BindsTo s' fd ⟨.ref e :: pos, kw⟩ [("self", .ref e), (p, u)]) (hz : pos.length ≤ sizeLine) :
    ∀ {Q : Value → Shared → Prop}, (∀ u' s', NewX X pins σ H s C p v u' s' → Q u' s') → wpAny (model X.prog X.w) X.A (PySem.call (.ref C) pos kw) Q X.xe s := by
  intro Q hq
  have e0 := I.env0
  have kb : ∀ b o, X.base.get? b = some o → s.heap.get? b = some o := fun b o z => (e0.bs b o z).1
  obtain ⟨mb, hb1, hb2⟩ := e0.mod.blt
  refine x_make m.FB m.KF m.SF m.T (e0.mod.kin.keeps kb) (e0.mod.glob.keeps kb) (hb1.keeps kb) ((hb2 _ (by decide)).trans (by decide +kernel)) (e0.mod.nolimit.keeps kb) (hr.make C pos kw).depth m.hfile m.htop hbind hz fun h' tk' e dx t1 kk se sd ne he hn => hq _ _ ?_
  obtain ⟨G, g1, g2⟩ := restrict h' fun b => decide (b ≠ e)
  have gk : ∀ b, b ≠ e → G.get? b = h'.get? b := fun b hb => g1 b (decide_eq_true hb)
  have ge : G.get? e = none := g2 e (by simp)
  refine ⟨e, dx, t1, h', G, tk', (fun y => if y = p then some u else none), rfl, rfl, I.hok.fresh se, I.hok.fresh sd, ne, he, ge, fun b o z => ?_, fun b o z => ?_, ?_, ?_, fun f => relO_put (fs := []) (mA := fun _ => none) rv (fun _ => trivial) f⟩
  · by_cases hb : b = e
    · rw [hb, ge] at z; cases z
    · exact (gk b hb).symm.trans z
  · have hb : b ≠ e := fun y => by
      have y1 := Heap.lt_size z
      rw [y] at y1
      exact absurd y1 (Nat.not_lt.mpr se)
    rw [gk b hb]
    exact kk _ _ z
  · cases z : s.heap.get? dx with
    | none => rfl
    | some o => exact absurd (Heap.lt_size z) (Nat.not_lt.mpr sd)
  · exact hn.at fun o y => (gk dx ne).trans y
/-- C(e), C(p = e) as a value -/
theorem NewX.ep {pins : List (Addr × Obj)} {σ : L2.St} {H : Hp} {s : Shared} {v : V} {u : Value} {s' : Shared} {Q : VK} (I : Inv X pins σ H s) (n : NewX X pins σ H s C p v u s')
    (q : ∀ a d, H a = none → H d = none → d ≠ a → Q (.ref a) (upd (upd H d (exd d [(p, v)])) a (exo a C (some d)))) : EP X pins σ Q u s' := by
  obtain ⟨e, dx, t1, h', G, tk, mA, rfl, rfl, n1, n2, n3, he, ge, gs, gk, sd, hn, rel⟩ := n
  have I1 : Inv X pins σ (upd H dx (exd dx [(p, v)])) { s with heap := G, toks := tk } := I.laidN gk sd n2 (exd_ok hn rel)
  have I2 := I1.laidN (a := e) (o := exo e C (some dx)) (h' := h') (t' := tk) gs ge (by rw [upd_ne (Ne.symm n3)]; exact n1) (exo_ok he)
  exact ⟨.ref e, _, I2, rfl, q e dx n1 n2 n3⟩
/-- .. to be raised -/
theorem NewX.mk {pins : List (Addr × Obj)} {σ : L2.St} {H : Hp} {s : Shared} {v : V} {u : Value} {s' : Shared} {Q : XK} (I : Inv X pins σ H s) (T : Raises X (.ref C)) (n : NewX X pins σ H s C p v u s')
    (q : ∀ d, H d = none → Q (.ref C) (some d) (upd H d (.xd [(p, v)]))) : MkP X pins σ Q u s' := by
  obtain ⟨e, dx, t1, h', G, tk, mA, rfl, rfl, n1, n2, n3, he, ge, gs, gk, sd, hn, rel⟩ := n
  have I1 : Inv X pins σ (upd H dx (.xd [(p, v)])) { s with heap := G, toks := tk } := I.laidN gk sd n2 (show ObjOk X.prog X.w _ G dx (.xd [(p, v)]) from ⟨mA, hn, rel⟩)
  exact ⟨e, _, _, { s with heap := G, toks := tk }, _, .ref C, some dx, rfl, I1, gs, ge, he, ⟨rfl, rfl⟩, rfl, rfl, by rw [upd_ne (Ne.symm n3)]; exact n1, rfl, I.bare, T, q dx n2⟩
def rNewX (C : Addr) (p : Str) (v : V) (H : Hp) (Q : VK) : Prop := ∀ a d, H a = none → H d = none → d ≠ a → Q (.ref a) (upd (upd H d (exd d [(p, v)])) a (exo a C (some d)))
variable {x : Str} {e : Expr} {ta : TA} {pn pos : Pos} {k : Nat}
theorem pe_exn (m : XMk X C fI p B i newId bmB file fd) (hr : Room (k + 1) X.A) (hg : Gl X x) (hm : X.mg x = some (.ref C)) (hb : ∀ (s' : Shared) (a : Addr) (u : Value), BindsTo s' fd ⟨[.ref a, u], []⟩ [("self", .ref a), (p, u)]) (ha : PA X [e] ta)
    (hdb : (x == ("__debug__" : Str)) = false := by decide) (he : starEach [e] X.env = (false, eval e X.env) :: starEach [] X.env := by rfl) :
    PE X (.Call (.Name x pn) [e] [] pos) (fun σ H Q => ta σ H fun vs H1 => ∃ v, vs = [v] ∧ rNewX C p v H1 Q) := by
  refine ⟨fun pins s σ H Q I h => wpAny_Call_Name_kw (ld_glob I hg hm ?_ hdb)⟩
  refine PySem.W.callWith_K (h₀ := X.base) I.ok.mod.kin m.keep (thn (ha.run pos pins s σ H _ I h) fun us s1 ⟨vs, H1, I1, r1, v, ev, q⟩ => ⟨I1.kIn, ?_⟩) he rfl
  subst ev
  cases r1 with
  | @cons _ u0 _ ur ra rr =>
    cases rr
    exact newX m hr I1 ra (fun s' a => hb s' a u0) (by show 1 ≤ sizeLine; rw [sizeLine_eq]; omega) fun u' s' n => n.ep I1 q
theorem pe_exnK {kws : List Keyword} {t : TA} (m : XMk X C fI p B i newId bmB file fd) (hr : Room (k + 1) X.A) (hg : Gl X x) (hm : X.mg x = some (.ref C)) (hb : ∀ (s' : Shared) (a : Addr) (u : Value), BindsTo s' fd ⟨[.ref a], [(p, u)]⟩ [("self", .ref a), (p, u)]) (ha : PK X kws t)
    (hdb : (x == ("__debug__" : Str)) = false := by decide) (hall : (backToKw pos (keywordEach kws X.env)).all (·.1.isSome) = true := by rfl) (hks : (backToKw pos (keywordEach kws X.env)).filterMap (·.1) = [p] := by rfl)
    (hpl : ((backTo pos (starEach [] X.env)).any (·.1) || (backToKw pos (keywordEach kws X.env)).any (·.1.isNone)) = false := by rfl) :
    PE X (.Call (.Name x pn) [] kws pos) (fun σ H Q => t σ H fun vs H1 => ∃ v, vs = [v] ∧ rNewX C p v H1 Q) := by
  refine ⟨fun pins s σ H Q I h => wpAny_Call_Name_kw (ld_glob I hg hm ?_ hdb)⟩
  refine PySem.W.callWith_KW0 (h₀ := X.base) I.ok.mod.kin m.keep hall (thn (ha.run pos pins s σ H _ I h) fun us s1 ⟨vs, H1, I1, r1, v, ev, q⟩ => ⟨I1.kIn, ?_⟩) hpl
  rw [hks]
  subst ev
  cases r1 with
  | @cons _ u0 _ ur ra rr =>
    cases rr
    exact newX m hr I1 ra (fun s' a => hb s' a u0) (by show 0 ≤ sizeLine; omega) fun u' s' n => n.ep I1 q
theorem pmk_exn (m : XMk X C fI p B i newId bmB file fd) (hr : Room (k + 1) X.A) (hrs : Raises X (.ref C)) (hg : Gl X x) (hm : X.mg x = some (.ref C)) (hb : ∀ (s' : Shared) (a : Addr) (u : Value), BindsTo s' fd ⟨[.ref a, u], []⟩ [("self", .ref a), (p, u)]) (ha : PA X [e] ta)
    (hdb : (x == ("__debug__" : Str)) = false := by decide) (he : starEach [e] X.env = (false, eval e X.env) :: starEach [] X.env := by rfl) :
    PMk X (.Call (.Name x pn) [e] [] pos) (fun σ H Q => ta σ H fun vs H1 => ∃ v, vs = [v] ∧ ∀ d, H1 d = none → Q (.ref C) (some d) (upd H1 d (.xd [(p, v)]))) := by
  refine fun pins s σ H Q I h => wpAny_Call_Name_kw (ld_glob I hg hm ?_ hdb)
  refine PySem.W.callWith_K (h₀ := X.base) I.ok.mod.kin m.keep (thn (ha.run pos pins s σ H _ I h) fun us s1 ⟨vs, H1, I1, r1, v, ev, q⟩ => ⟨I1.kIn, ?_⟩) he rfl
  subst ev
  cases r1 with
  | @cons _ u0 _ ur ra rr =>
    cases rr
    exact newX m hr I1 ra (fun s' a => hb s' a u0) (by show 1 ≤ sizeLine; rw [sizeLine_eq]; omega) fun u' s' n => n.mk I1 hrs q
end
end Ev

set_option Elab.async false
set_option linter.all false
set_option maxRecDepth 100000
set_option maxHeartbeats 2000000
set_option autoImplicit false
/-! EvE4: exceptions held as values: made, their fields, isinstance. -/
namespace Ev
open PySem PySem.Spec PyProof.Rows L2
/-- an own exception, made -/
def eExn (c : Nat) (f : List Nat) (a : SA) : SE := fun B ρ L => (a B ρ L).bind fun ws L1 => (ownsR B L1 ws).bind fun xs L2 => match xs with
  | [x] => .ok (.d (.exn c [f] [x])) L2
  | _ => .bad
def fldX (f : List Nat) : D → Option D
  | .exn _ ns fs => (ns.zip fs).lookup f
  | _ => none
/-- a field of an exception of one of these classes -/
def fldXc (cs : Nat → Bool) (f : List Nat) : D → Option D
  | .exn c ns fs => if cs c = true then fldX f (.exn c ns fs) else none
  | _ => none
/-- isinstance of an exception: by its class's number -/
def opIsX (ans : Nat → Option Bool) : D → Option D
  | .exn c _ _ => (ans c).map .bl
  | _ => none
/-- what the class must say -/
structure XKit (K : PySem.W.Frag) (C : Addr) : Prop where
  cl : (PySem.W.clsIn K C).isSome = true
  ga : PySem.W.findIn K (.ref C) "__getattribute__" = some (some (.builtin "BaseException.__getattribute__"))
  gg : PySem.W.findIn K (.ref C) "__getattr__" = some none
  sb : PySem.W.subIn K (.ref C) (.type "BaseException") = some true
  ca : PySem.W.findIn K (.ref C) "__class__" = some (some (.builtin "object.__class__"))
  gs : PySem.W.specialIn K (.builtin "object.__class__") "__get__" = some (some (.builtin "getset_descriptor.__get__"))
  tk : PySem.W.takesIn K (.builtin "object.__class__") = some true
  mo : PySem.W.mroIn K C (.type "object") = some true
  hd : PySem.W.hasDictIn K C = true
section
variable {K : PySem.W.Frag} {T : Tb} {M : Mem} {X : Cx}
theorem XAt.inst {P : Program} {w : World} {h : Heap} {C a : Addr} {gs : List (Str × V)} (hok : HOk P w M.H h) (x : XAt M C a gs) : ∃ ox od, PySem.W.InstAt h a ox C od ∧ ∀ f v, gs.lookup f = some v → ∃ o u, od = some o ∧ PySem.W.lookIn f o = some (some u) ∧ RelV v u := by
  obtain ⟨_, ⟨rfl, h1⟩ | ⟨d, _, h1, h2⟩⟩ := x
  · obtain ⟨t1, e⟩ := exo_at hok h1
    exact ⟨_, none, ⟨e, rfl, rfl, trivial⟩, fun f v z => by cases z⟩
  · obtain ⟨t1, e⟩ := exo_at hok h1
    obtain ⟨mA, hns, rel⟩ := exd_at hok h2
    obtain ⟨od, ho, hl⟩ := lookIn_ns hns
    refine ⟨_, some od, ⟨e, rfl, rfl, ho⟩, fun f v z => ?_⟩
    obtain ⟨u, hu, ru⟩ := RelO.some_of (v := v) (o := mA f) (by rw [← z]; exact rel f)
    exact ⟨od, u, rfl, by rw [hl, hu], ru⟩
theorem DV.exn {c : Nat} {ns : List (List Nat)} {fs : List D} {v : V} (d : DV K T M (.exn c ns fs) v) : RV K T M (.exn c ns fs) v := by
  rcases d with d | ⟨_, _, _, z, _⟩ | ⟨_, _, _, _, z, _⟩
  · exact d
  · cases z
  · cases z
/-! ### made -/
theorem exn_new {C : Addr} {c : Nat} {f : List Nat} {x : D} {v : V} {B L2 : Hs} {Q : VK} (eC : T.cls c = C) (a2 : M.A = B ++ L2) (R : Rep K T M) (rv : RV K T M x v) (q : post K T M B (.ok (W.d (.exn c [f] [x])) L2) fun w _ M' => ∀ v, RW K T M' w v → Q v M'.H) : rNewX C ⟨f.toArray⟩ v M.H Q := by
  subst eC
  intro a d ha hd hne
  obtain ⟨R1, E1⟩ := garb (o := exd d [((⟨f.toArray⟩ : Str), v)]) R hd
  have ha1 : ({ M with H := upd M.H d (exd d [((⟨f.toArray⟩ : Str), v)]) } : Mem).H a = none := (upd_ne (Ne.symm hne)).trans ha
  obtain ⟨R2, E2⟩ := garb (o := exo a (T.cls c) (some d)) R1 ha1
  have sd : Sep { M with H := upd M.H d (exd d [((⟨f.toArray⟩ : Str), v)]) } d := sep_new R hd
  have hdn : ({ M with H := upd M.H d (exd d [((⟨f.toArray⟩ : Str), v)]) } : Mem).H d = some (exd d [((⟨f.toArray⟩ : Str), v)]) := upd_same
  refine q { M with H := upd (upd M.H d (exd d [((⟨f.toArray⟩ : Str), v)])) a (exo a (T.cls c) (some d)) } a2 R2 (E1.trans E2) (.ref a) ⟨a, [((⟨f.toArray⟩ : Str), v)], rfl, ⟨sep_new R1 ha1, .inr ⟨d, ?_, upd_same, (upd_ne hne).trans hdn⟩⟩, rfl, ?_⟩
  · exact sd.ext E2.toExt0 (by rw [hdn]; intro z; cases z)
  · exact ⟨v, [], rfl, RV.ext R1 E2 x v (RV.ext R E1 x v rv), rfl⟩
theorem je_exn {C fI : Addr} {c : Nat} {f : List Nat} {B0 i newId : String} {bmB : List Value} {file : Str} {fd : FuncData} {x : Str} {e : Expr} {a : SA} {pn pos : Pos} {k : Nat} (m : XMk X C fI ⟨f.toArray⟩ B0 i newId bmB file fd) (eC : T.cls c = C) (hr : Room (k + 1) X.A) (hm : X.mg x = some (.ref C))
    (hb : ∀ (s' : Shared) (a : Addr) (u : Value), BindsTo s' fd ⟨[.ref a, u], []⟩ [("self", .ref a), (⟨f.toArray⟩, u)]) (ha : JA X T [e] a) (hg : Gl X x := by rfl) (hdb : (x == ("__debug__" : Str)) = false := by decide) (he : starEach [e] X.env = (false, eval e X.env) :: starEach [] X.env := by rfl) :
    JE X T (.Call (.Name x pn) [e] [] pos) (eExn c f a) := PE.weak (pe_exn m hr hg hm hb ha hdb he) fun σ H Q h => by
  obtain ⟨M, B, L, ρ, p, h⟩ := h
  refine ⟨M, B, L, ρ, p, (post.bind h).mono fun ws L1 M1 eA R x q vs rvs => ?_⟩
  obtain ⟨xs, L2, M2, a2, h2, R2, E2, x2, q⟩ := q.owns R eA rvs
  match xs, x2, q with
  | [x], x2, q =>
    obtain ⟨v, r, rfl, r1, r2⟩ := x2
    have r2 : r = [] := r2
    subst r2
    refine ⟨v, rfl, ?_⟩
    rw [← h2]
    exact exn_new eC a2 R2 r1 q
  | [], _, q => exact q.elim
  | _ :: _ :: _, _, q => exact q.elim
theorem je_exnK {C fI : Addr} {c : Nat} {f : List Nat} {B0 i newId : String} {bmB : List Value} {file : Str} {fd : FuncData} {x : Str} {kws : List Keyword} {a : SA} {pn pos : Pos} {k : Nat} (m : XMk X C fI ⟨f.toArray⟩ B0 i newId bmB file fd) (eC : T.cls c = C) (hr : Room (k + 1) X.A) (hm : X.mg x = some (.ref C))
    (hb : ∀ (s' : Shared) (a : Addr) (u : Value), BindsTo s' fd ⟨[.ref a], [(⟨f.toArray⟩, u)]⟩ [("self", .ref a), (⟨f.toArray⟩, u)]) (ha : JK X T kws a) (hg : Gl X x := by rfl) (hdb : (x == ("__debug__" : Str)) = false := by decide)
    (hall : (backToKw pos (keywordEach kws X.env)).all (·.1.isSome) = true := by rfl) (hks : (backToKw pos (keywordEach kws X.env)).filterMap (·.1) = [⟨f.toArray⟩] := by rfl)
    (hpl : ((backTo pos (starEach [] X.env)).any (·.1) || (backToKw pos (keywordEach kws X.env)).any (·.1.isNone)) = false := by rfl) :
    JE X T (.Call (.Name x pn) [] kws pos) (eExn c f a) := PE.weak (pe_exnK m hr hg hm hb ha.pk hdb hall hks hpl) fun σ H Q h => by
  obtain ⟨M, B, L, ρ, p, h⟩ := h
  refine ⟨M, B, L, ρ, p, (post.bind h).mono fun ws L1 M1 eA R x q vs rvs => ?_⟩
  obtain ⟨xs, L2, M2, a2, h2, R2, E2, x2, q⟩ := q.owns R eA rvs
  match xs, x2, q with
  | [x], x2, q =>
    obtain ⟨v, r, rfl, r1, r2⟩ := x2
    have r2 : r = [] := r2
    subst r2
    refine ⟨v, rfl, ?_⟩
    rw [← h2]
    exact exn_new eC a2 R2 r1 q
  | [], _, q => exact q.elim
  | _ :: _ :: _, _, q => exact q.elim
/-! ### fields -/
theorem lookup_zip : ∀ {ns : List (List Nat)} {fs : List D} {gs : List (Str × V)} {f : List Nat} {x : D}, gs.map (·.1) = ns.map (fun p => (⟨p.toArray⟩ : Str)) → RVs K T M fs (gs.map (·.2)) → (ns.zip fs).lookup f = some x → ∃ v, gs.lookup (⟨f.toArray⟩ : Str) = some v ∧ RV K T M x v
  | [], fs, gs, f, x, _, _, e => by simp at e
  | n :: ns, [], gs, f, x, _, _, e => by simp at e
  | n :: ns, y :: fs, gs, f, x, h1, h2, e => by
    cases gs with
    | nil => cases h1
    | cons g gs =>
      obtain ⟨gn, gv⟩ := g
      obtain ⟨v, r, er, r1, r2⟩ := h2
      cases er
      have h1' : gn = (⟨n.toArray⟩ : Str) ∧ gs.map (·.1) = ns.map (fun p => (⟨p.toArray⟩ : Str)) := by
        have := h1
        simp only [List.map_cons, List.cons.injEq] at this
        exact this
      rw [List.zip_cons_cons, List.lookup_cons] at e
      rw [List.lookup_cons]
      by_cases hf : f = n
      · subst hf
        rw [beq_self_eq_true] at e
        cases e
        rw [h1'.1, beq_self_eq_true]
        exact ⟨gv, rfl, r1⟩
      · rw [show (f == n) = false from beq_false_of_ne hf] at e
        have hne : ((⟨f.toArray⟩ : Str) == gn) = false := beq_false_of_ne fun z => hf (by
          rw [h1'.1] at z
          have z' : f.toArray = n.toArray := congrArg PySem.Str.cps z
          simpa using congrArg Array.toList z')
        rw [hne]
        exact lookup_zip h1'.2 r2 e
theorem je_fldX {e : Expr} {f : List Nat} {a : SE} {pos : Pos} {cs : Nat → Bool} (hc : ∀ c, cs c = true → XKit X.K (T.cls c) ∧ PySem.W.findIn X.K (.ref (T.cls c)) (⟨f.toArray⟩ : Str) = some none) (ha : JE X T e a)
    (hb : attributeBase e (⟨f.toArray⟩ : Str) X.env (eval e X.env) = eval e X.env := by rfl) :
    JE X T (.Attribute e ⟨f.toArray⟩ pos) (e1 (fldXc cs f) a) := by
  refine ⟨fun pins s σ H Q I h => ?_⟩
  obtain ⟨M, B, L, ρ, p, h⟩ := h
  refine attr_of hb (thn (ha.run pins s σ H (fun v H1 => ∃ M1 L1 w, M1.H = H1 ∧ M1.A = B ++ L1 ∧ Rep X.K T M1 ∧ RW X.K T M1 w v ∧ post X.K T M1 B ((vwR B L1 w).bind fun p L1 => (ofOpt (fldXc cs f p) L1).bind fun r L2 => .ok (W.d r) L2) fun w _ M' => ∀ v, RW X.K T M' w v → Q v M'.H) I
    ⟨M, B, L, ρ, p, (post.bind h).mono fun w L1 M1 eA R x q v rv => ⟨M1, L1, w, rfl, eA, R, rv, q⟩⟩) fun u s1 hh => ?_)
  obtain ⟨v, H1, I1, rx, M1, L1, w, e1, eA, R, rv, q⟩ := hh
  obtain ⟨pd, ev, dv, q1⟩ := q.view R eA rv
  obtain ⟨z, ez, q2⟩ := q1.opt
  cases pd with
  | exn c ns fs =>
    have ez : (if cs c = true then fldX f (.exn c ns fs) else none) = some z := ez
    split at ez
    · rename_i hcs
      obtain ⟨xk, hno⟩ := hc c hcs
      obtain ⟨aa, gs, ev2, xa, hn, rf⟩ := dv.exn
      subst ev2
      obtain rfl : u = Value.ref aa := rx
      subst e1
      obtain ⟨v2, hv2, r2⟩ := lookup_zip hn rf ez
      obtain ⟨ox, od, J, hl⟩ := xa.inst I1.hok
      obtain ⟨o, u2, rfl, hlk, ru⟩ := hl _ _ hv2
      exact HandSPX.exc_get I1.kIn J xk.ga xk.gg xk.sb (PySem.W.findObj_own xk.hd hno rfl hlk) (handed_of ru) ⟨v2, M1.H, I1.tok _, ru, q2.here eA R v2 r2⟩
    · cases ez
  | _ => cases ez
end
end Ev

set_option Elab.async false
set_option linter.all false
set_option maxRecDepth 100000
set_option maxHeartbeats 2000000
set_option autoImplicit false
/-! EvE5: isinstance of exceptions that are held as values; an own exception class without a def, called. -/
namespace Ev
open PySem PySem.Spec PyProof.Rows L2
section
variable {K : PySem.W.Frag} {T : Tb} {M : Mem} {X : Cx}
theorem XKit.kx {C x : Addr} {ox : Obj} {od : Option Obj} (k : XKit K C) : PySem.W.KitX K (.ref x) (.ref C) (fun h => PySem.W.InstAt h x ox C od) := PySem.W.kitx_exc k.cl k.ga k.gg k.sb k.ca k.gs k.tk k.mo
def rIsX (K : PySem.W.Frag) : List V → Hp → VK → Prop := fun xs H Q => ∃ (M : Mem) (a C : Addr) (gs : List (Str × V)) (c : V) (cv : Value) (b : Bool), M.H = H ∧ xs = [.ref a, c] ∧ XAt M C a gs ∧ XKit K C ∧ (∀ u, RelV c u → u = cv) ∧ PySem.W.kitOne K (.ref C) cv = some b ∧ Q (.bl b) H
theorem call_isX : CallR X (.builtin "isinstance") (rIsX X.K) := by
  intro pins s σ H xs us Q I r h
  obtain ⟨M, a, C, gs, c, cv, b, rfl, rfl, xa, k, hcv, e, q⟩ := h
  cases r with
  | cons rx rr =>
    cases rr with
    | cons rt rr =>
      cases rr
      cases rx
      have ec := hcv _ rt
      subst ec
      obtain ⟨ox, od, J, _⟩ := xa.inst I.hok
      exact PySem.W.kia_one k.kx I.kIn J e (fun z => nomatch z) fun tk => ⟨.bl b, M.H, I.kept (t' := tk) fun _ _ z => z, rfl, q⟩
def rIsXT (K : PySem.W.Frag) (cvs : List Addr) : List V → Hp → VK → Prop := fun xs H Q => ∃ (M : Mem) (a C tp : Addr) (o : Obj) (gs : List (Str × V)) (b : Bool), M.H = H ∧ xs = [.ref a, .ref tp] ∧ XAt M C a gs ∧ XKit K C ∧ H tp = some (.frz o (.tup (cvs.map V.ref))) ∧ PySem.W.kitAny K (.ref C) (cvs.map Value.ref) = some b ∧ Q (.bl b) H
theorem valsX_refs : ∀ {cvs : List Addr} {us : List Value}, Vals (cvs.map V.ref) us → us = cvs.map Value.ref
  | [], us, h => by cases h; rfl
  | c :: cs, us, h => by
    cases h with
    | cons r rr =>
      cases r
      rw [valsX_refs rr]
      rfl
theorem call_isXT {cvs : List Addr} : CallR X (.builtin "isinstance") (rIsXT X.K cvs) := by
  intro pins s σ H xs us Q I r h
  obtain ⟨M, a, C, tp, o, gs, b, rfl, rfl, xa, k, ht, e, q⟩ := h
  cases r with
  | cons rx rr =>
    cases rr with
    | cons rt rr =>
      cases rr
      cases rx
      cases rt
      obtain ⟨ox, od, J, _⟩ := xa.inst I.hok
      obtain ⟨ho, hl, its, rv, o2, ho2, hc2, n2, hd2⟩ := I.hok tp _ ht
      rw [valsX_refs rv] at hd2
      obtain ⟨oc, od2, dt, sl⟩ := o2
      dsimp only at hc2 hd2
      subst hc2 hd2
      exact PySem.W.kia_tup k.kx I.kIn J ho2 e (fun z => nomatch z) fun tk => ⟨.bl b, M.H, I.kept (t' := tk) fun _ _ z => z, rfl, q⟩
/-- isinstance(e, C) -/
theorem je_isX {e : Expr} {f : SE} {n : Str} {p q pos : Pos} {c : V} {cv : Value} (ans : Nat → Option Bool) (hn : PE X (.Name n q) (tC c)) (hcv : ∀ u, RelV c u → u = cv) (ha : JE X T e f) (hk : ∀ i b, ans i = some b → XKit X.K (T.cls i) ∧ PySem.W.kitOne X.K (.ref (T.cls i)) cv = some b) (hm : X.mg "isinstance" = none)
    (hg : Gl X "isinstance" := by rfl) (he1 : starEach [e, .Name n q] X.env = (false, eval e X.env) :: starEach [.Name n q] X.env := by rfl) (he2 : starEach [.Name n q] X.env = (false, eval (.Name n q) X.env) :: starEach [] X.env := by rfl)
    (hpl : (backTo pos (starEach [.Name n q] X.env)).any (·.1) = false := by rfl) : JE X T (.Call (.Name "isinstance" p) [e, .Name n q] [] pos) (e1 (opIsX ans) f) :=
  PE.weak (pe_callB (id := "isinstance") call_isX hg hm (by decide +kernel) (pa_cons ha (pa_cons hn pa_nil he2) he1) (by decide) (by decide) he1 hpl) fun σ H Q h => by
    obtain ⟨M, B, L, ρ, p, h⟩ := h
    refine ⟨M, B, L, ρ, p, (post.bind h).mono fun w L1 M1 eA R x q v rv => ?_⟩
    obtain ⟨pd, ev, dv, q1⟩ := q.view R eA rv
    obtain ⟨z, ez, q2⟩ := q1.opt
    cases pd with
    | exn i ns fs =>
      have ez : (ans i).map D.bl = some z := ez
      cases ei : ans i with
      | none => rw [ei] at ez; cases ez
      | some b =>
        rw [ei] at ez
        cases ez
        obtain ⟨xk, kb⟩ := hk i b ei
        obtain ⟨aa, gs, ev2, xa, hn, rf⟩ := dv.exn
        subst ev2
        exact ⟨M1, aa, _, gs, c, cv, b, rfl, rfl, xa, xk, hcv, kb, q2.here eA R (.bl b) rfl⟩
    | _ => cases ez
/-- isinstance(e, (C, ..)) -/
theorem je_isXT {e : Expr} {es : List Expr} {f : SE} {k : Nat} {p q pos : Pos} {cvs : List Addr} (ans : Nat → Option Bool) (hn : PA X es (fun _ H Q => Q (cvs.map V.ref) H)) (hz : cvs.length ≤ sizeLine) (ha : JE X T e f) (hk : ∀ i b, ans i = some b → XKit X.K (T.cls i) ∧ PySem.W.kitAny X.K (.ref (T.cls i)) (cvs.map Value.ref) = some b) (hm : X.mg "isinstance" = none)
    (hg : Gl X "isinstance" := by rfl) (he1 : starEach [e, .Tuple es k q] X.env = (false, eval e X.env) :: starEach [.Tuple es k q] X.env := by rfl) (he2 : starEach [.Tuple es k q] X.env = (false, eval (.Tuple es k q) X.env) :: starEach [] X.env := by rfl)
    (hpl : (backTo pos (starEach [.Tuple es k q] X.env)).any (·.1) = false := by rfl) : JE X T (.Call (.Name "isinstance" p) [e, .Tuple es k q] [] pos) (e1 (opIsX ans) f) :=
  PE.weak (pe_callB (id := "isinstance") (call_isXT (cvs := cvs)) hg hm (by decide +kernel) (pa_cons ha (pa_cons (pe_tupF hn) pa_nil he2) he1) (by decide) (by decide) he1 hpl) fun σ H Q h => by
    obtain ⟨M, B, L, ρ, p, h⟩ := h
    refine ⟨M, B, L, ρ, p, (post.bind h).mono fun w L1 M1 eA R x q v rv => ?_⟩
    refine ⟨by rw [List.length_map]; exact hz, fun tp o hp ho => ?_⟩
    obtain ⟨pd, ev, dv, q1⟩ := q.view R eA rv
    obtain ⟨z, ez, q2⟩ := q1.opt
    cases pd with
    | exn i ns fs =>
      have ez : (ans i).map D.bl = some z := ez
      cases ei : ans i with
      | none => rw [ei] at ez; cases ez
      | some b =>
        rw [ei] at ez
        cases ez
        obtain ⟨xk, kb⟩ := hk i b ei
        obtain ⟨aa, gs, ev2, xa, hn, rf⟩ := dv.exn
        subst ev2
        obtain ⟨R3, E3⟩ := garb (o := .frz o (.tup (cvs.map V.ref))) R hp
        exact ⟨{ M1 with H := upd M1.H tp (.frz o (.tup (cvs.map V.ref))) }, aa, _, tp, o, gs, b, rfl, rfl, E3.toExt0.xat xa, xk, upd_same, kb, q2 { M1 with H := upd M1.H tp (.frz o (.tup (cvs.map V.ref))) } eA R3 E3 (.bl b) rfl⟩
    | _ => cases ez
/-! ### C(), C without own __init__ -/
def eExn0 (c : Nat) : SE := fun _ _ L => .ok (.d (.exn c [] [])) L
theorem je_exn0 {C : Addr} {c : Nat} {bmB : List Value} {B newId initId : String} {x : Str} {p pos : Pos} (F : ExcBaseFacts B newId initId bmB) (q : PySem.W.excIn X.K C bmB newId = true) (gC : X.mg x = some (.ref C)) (kC : PySem.W.keepIn X.K (.ref C) = true) (eC : T.cls c = C) (hg : Gl X x := by rfl) (hdb : (x == ("__debug__" : Str)) = false := by decide) :
    JE X T (.Call (.Name x p) [] [] pos) (eExn0 c) := by
  refine ⟨fun pins s σ H Q I h => ?_⟩
  obtain ⟨M, B0, L, ρ, pt, h⟩ := h
  refine wpAny_Call_Name_kw (ld_glob I hg gC ?_ hdb)
  refine PySem.W.callWith_K0 I.kIn kC ?_
  obtain ⟨bm, N, nm, qn, bs, hdct, sn, sub, ab, col, dd, k0, k1, k2, k3, k5, mN, hC, hN, hni, Tt⟩ := exc_obj I.kIn q
  refine wpAny_call_exc_subT F Tt hC hN hni (fun h' a hm => ?_) (by show 0 ≤ sizeLine; omega)
  have hn : H a = none := I.hok.gone hm.new
  obtain ⟨t, ht, _, _⟩ := hm.there
  have I2 := I.laidN (t' := s.toks) (o := exo a C none) hm.keeps hm.new hn (exo_ok ht)
  have eH := pt.eH
  subst eH
  subst eC
  obtain ⟨R2, E2⟩ := garb (o := exo a (T.cls c) none) pt.rep hn
  exact ⟨.ref a, _, I2, rfl, h { M with H := upd M.H a (exo a (T.cls c) none) } pt.eA R2 E2 (.ref a) ⟨a, [], rfl, ⟨sep_new pt.rep hn, .inl ⟨rfl, upd_same⟩⟩, rfl, rfl⟩⟩
end
end Ev

set_option Elab.async false
set_option linter.all false
set_option maxRecDepth 100000
set_option maxHeartbeats 2000000
set_option autoImplicit false
/-! EvRp: repr of data with dicts. -/
namespace Ev
open PySem PySem.Spec PyProof.Rows L2
mutual
def toPyX : D → PyData
  | .non => .none
  | .bl b => .bool b
  | .int i => .int i
  | .str s => .str ⟨s.toArray⟩
  | .tup xs => .tuple (toPysX xs)
  | .lst xs => .list (toPysX xs)
  | .dct ks vs => .dict ((toPysX ks).zip (toPysX vs))
  | _ => .none
def toPysX : List D → List PyData
  | [] => []
  | x :: xs => toPyX x :: toPysX xs
end
mutual
def okX : D → Bool
  | .non => true
  | .bl _ => true
  | .int _ => true
  | .str _ => true
  | .tup xs => okXs xs
  | .lst xs => okXs xs
  | .dct ks vs => ks.all isKey && decide (ks.length = vs.length) && okXs vs
  | _ => false
def okXs : List D → Bool
  | [] => true
  | x :: xs => okX x && okXs xs
end
/-- at the place of sys.modules a dict stands -/
def SysD (K : PySem.W.Frag) : Prop := ∃ o, K.lookup sysModules = some o ∧ o.cls = .type "dict"
section
variable {K : PySem.W.Frag} {T : Tb} {M : Mem} {X : Cx}
theorem zip_fst : ∀ {α β : Type} {xs : List α} {ys : List β}, xs.length = ys.length → (xs.zip ys).map (·.1) = xs
  | _, _, [], [], _ => rfl
  | _, _, x :: xs, y :: ys, h => by rw [List.zip_cons_cons, List.map_cons, zip_fst (by simpa using h)]
theorem zip_snd : ∀ {α β : Type} {xs : List α} {ys : List β}, xs.length = ys.length → (xs.zip ys).map (·.2) = ys
  | _, _, [], [], _ => rfl
  | _, _, x :: xs, y :: ys, h => by rw [List.zip_cons_cons, List.map_cons, zip_snd (by simpa using h)]
theorem toPysX_length : ∀ xs : List D, (toPysX xs).length = xs.length
  | [] => rfl
  | x :: xs => by rw [toPysX, List.length_cons, List.length_cons, toPysX_length xs]
theorem reads_keys {h : Heap} {P : Program} {w : World} : ∀ {ks : List D} {kvs : List (Key × V)} {vs : List (Key × Value)} {es : List DictEntry}, ks.map keyD = kvs.map (fun p => some p.1) → KV kvs vs → Pairs (mixKind P w) es vs → ReadsAll h (es.map (·.key)) (toPysX ks) []
  | [], [], vs, es, e, kv, pr => by
    cases kv
    cases pr
    exact .nil
  | k :: ks, [], vs, es, e, kv, pr => by cases e
  | [], _ :: _, vs, es, e, kv, pr => by cases e
  | k :: ks, kw :: kvs, vs, es, e, kv, pr => by
    simp only [List.map_cons, List.cons.injEq] at e
    cases kv with
    | cons h1 h2 =>
      cases pr with
      | @cons en _ es' _ p1 p2 p3 =>
        refine (show ReadsAll h (en.key :: es'.map (·.key)) (toPyX k :: toPysX ks) ([] ++ []) from ReadsAll.cons ?_ (reads_keys e.2 h2 p3))
        rw [← h1.1] at p1
        rcases keyIs_shape p1 with ⟨i, t, e1, e2⟩ | ⟨x, t, e1, e2⟩
        · rw [e2]
          cases k with
          | int j =>
            have z := e.1
            rw [e1] at z
            unfold keyD at z
            injection z with z
            injection z with z
            rw [z]
            exact .int _ _
          | str _ => have z := e.1; rw [e1] at z; cases z
          | _ => have z := e.1; cases z
        · rw [e2]
          cases k with
          | str y =>
            have z := e.1
            rw [e1] at z
            unfold keyD at z
            injection z with z
            injection z with z
            rw [← z]
            exact .str _ _
          | int _ => have z := e.1; rw [e1] at z; cases z
          | _ => have z := e.1; cases z
theorem pairs_vals {P : Program} {w : World} : ∀ {kvs : List (Key × V)} {vs : List (Key × Value)} {es : List DictEntry}, KV kvs vs → Pairs (mixKind P w) es vs → Vals (kvs.map (·.2)) (es.map (·.val))
  | [], vs, es, kv, pr => by
    cases kv
    cases pr
    exact .nil
  | kw :: kvs, vs, es, kv, pr => by
    cases kv with
    | cons h1 h2 =>
      cases pr with
      | cons p1 p2 p3 => exact .cons (by dsimp only; rw [p2]; exact h1.2) (pairs_vals h2 p3)
theorem sys_ne {a : Addr} {o : Obj} {s : Shared} (hs : SysD K) (kin : K.In s.heap) (e : s.heap.get? a = some o) (hc : o.cls = .type "list") : sysModules ≠ a := fun z => by
  obtain ⟨q, h1, h2⟩ := hs
  have := kin _ _ h1
  rw [z, e] at this
  cases this
  rw [h2] at hc
  exact absurd hc (by decide)
theorem reads_tup {pins : List (Addr × Obj)} {s : Shared} {σ : L2.St} {H : Hp} {a : Addr} {vs : List V} (I : Inv X pins σ H s) (h : SqT X.K H a vs) : ∃ (o : Obj) (its : Array Value) (n : Nat), s.heap.get? a = some o ∧ o.cls = .type "tuple" ∧ o.data = .seq its n ∧ Vals vs its.toList := by
  rcases h with (h | ⟨o, h⟩) | ⟨o, its, n, h1, h2, h3, h4, h5⟩
  · obtain ⟨_, its, rv, o, h1, h2, n, h3⟩ := I.hok a _ h
    exact ⟨o, its.toArray, n, h1, h2, h3, by simpa using rv⟩
  · obtain ⟨_, _, its, rv, o, h1, h2, n, h3⟩ := I.hok a _ h
    exact ⟨o, its.toArray, n, h1, h2, h3, by simpa using rv⟩
  · exact ⟨o, its, n, I.kIn _ _ h1, h2, h3, h5⟩
mutual
theorem reads_ok {pins : List (Addr × Obj)} {s : Shared} {σ : L2.St} (I : Inv X pins σ M.H s) (hs : SysD X.K) : ∀ (d : D) (v : V) (u : Value), okX d = true → RV X.K T M d v → RelV v u → ∃ as, Reads s.heap u (toPyX d) as ∧ sysModules ∉ as
  | .non, v, u, ok, r, rv => by
    rw [show v = .non from r] at rv
    cases rv
    exact ⟨[], .none, by simp⟩
  | .bl b, v, u, ok, r, rv => by
    rw [show v = .bl b from r] at rv
    cases rv
    exact ⟨[], .bool b, by simp⟩
  | .int i, v, u, ok, r, rv => by
    rw [show v = .int i from r] at rv
    obtain ⟨t, rfl⟩ := rv
    exact ⟨[], .int i t, by simp⟩
  | .str x, v, u, ok, r, rv => by
    rw [show v = .str _ from r] at rv
    obtain ⟨t, rfl⟩ := rv
    exact ⟨[], .str _ t, by simp⟩
  | .tup xs, v, u, ok, r, rv => by
    obtain ⟨a, vs, rfl, sq, r1⟩ := r
    obtain rfl : u = Value.ref a := rv
    obtain ⟨o, its, n, h1, h2, h3, h4⟩ := reads_tup I sq.1
    obtain ⟨as, h5, h6⟩ := reads_oks I hs xs vs its.toList (by unfold okX at ok; exact ok) r1 h4
    exact ⟨as, .tuple h1 h2 h3 h5, h6⟩
  | .lst xs, v, u, ok, r, rv => by
    obtain ⟨a, vs, rfl, sp, h1, r1⟩ := r
    obtain rfl : u = Value.ref a := rv
    obtain ⟨_, its, n, h2, h3⟩ := I.hok a _ h1
    obtain ⟨as, h5, h6⟩ := reads_oks I hs xs vs its (by unfold okX at ok; exact ok) r1 h2
    exact ⟨a :: as, .list h3 rfl rfl (by simpa using h5), fun z => by
      rcases List.mem_cons.mp z with z | z
      · exact sys_ne hs I.kIn h3 rfl z
      · exact h6 z⟩
  | .dct ks xs, v, u, ok, r, rv => by
    obtain ⟨a, kvs, rfl, sp, h1, hk, r1⟩ := r
    obtain rfl : u = Value.ref a := rv
    unfold okX at ok
    rw [Bool.and_eq_true, Bool.and_eq_true] at ok
    have hl := of_decide_eq_true ok.1.2
    obtain ⟨_, hsm, vs, kv, o, es, ep, e1, e2, e3, _, e4, _⟩ := dk_of I.hok h1
    obtain ⟨as, h5, h6⟩ := reads_oks I hs xs _ _ ok.2 r1 (pairs_vals kv e4)
    have hl2 : (toPysX ks).length = (toPysX xs).length := by rw [toPysX_length, toPysX_length]; exact hl
    refine ⟨_, .dict (as := []) (bs := as) e1 e2.1 e3 (by rw [zip_fst hl2]; exact reads_keys hk kv e4) (by rw [zip_snd hl2]; exact h5), fun z => ?_⟩
    rcases List.mem_cons.mp (show sysModules ∈ a :: as by simpa using z) with z | z
    · rw [← z] at hsm; simp at hsm
    · exact h6 z
  | .set _, _, _, ok, _, _ => by cases ok
  | .obj _ _ _, _, _, ok, _, _ => by cases ok
  | .dcn _ _, _, _, ok, _, _ => by cases ok
  | .exn _ _ _, _, _, ok, _, _ => by cases ok
  | .fn _, _, _, ok, _, _ => by cases ok
  | .scr _, _, _, ok, _, _ => by cases ok
theorem reads_oks {pins : List (Addr × Obj)} {s : Shared} {σ : L2.St} (I : Inv X pins σ M.H s) (hs : SysD X.K) : ∀ (ds : List D) (vs : List V) (us : List Value), okXs ds = true → RVs X.K T M ds vs → Vals vs us → ∃ as, ReadsAll s.heap us (toPysX ds) as ∧ sysModules ∉ as
  | [], vs, us, ok, r, rv => by
    rw [show vs = [] from r] at rv
    cases rv
    exact ⟨[], .nil, by simp⟩
  | d :: ds, vs, us, ok, r, rv => by
    obtain ⟨v, rr, rfl, r1, r2⟩ := r
    cases rv with
    | cons q1 q2 =>
      unfold okXs at ok
      rw [Bool.and_eq_true] at ok
      obtain ⟨as, h1, h2⟩ := reads_ok I hs d v _ ok.1 r1 q1
      obtain ⟨bs, h3, h4⟩ := reads_oks I hs ds rr _ ok.2 r2 q2
      exact ⟨as ++ bs, .cons h1 h3, fun z => (List.mem_append.mp z).elim h2 h4⟩
end
/-! ### repr -/
def bReprX : List D → Option D
  | [.lst xs] => if okX (.lst xs) = true ∧ (toPyX (.lst xs)).showable = true ∧ (toPyX (.lst xs)).depth ≤ 64 ∧ (toPyX (.lst xs)).shown.length ≤ sizeL then some (.str (toPyX (.lst xs)).shown.cps.toList) else none
  | [.tup xs] => if okX (.tup xs) = true ∧ (toPyX (.tup xs)).showable = true ∧ (toPyX (.tup xs)).depth ≤ 64 ∧ (toPyX (.tup xs)).shown.length ≤ sizeL then some (.str (toPyX (.tup xs)).shown.cps.toList) else none
  | _ => none
theorem reads_dv {pins : List (Addr × Obj)} {s : Shared} {σ : L2.St} (I : Inv X pins σ M.H s) (hs : SysD X.K) {d : D} {v : V} {u : Value} (ok : okX d = true) (r : DV X.K T M d v) (rv : RelV v u) (hl : ∀ ks vs, d ≠ .dct ks vs) : ∃ as, Reads s.heap u (toPyX d) as ∧ sysModules ∉ as := by
  rcases r with r | ⟨xs, a, vs, rfl, rfl, h1, r1⟩ | ⟨ks, xs, _, _, z, _⟩
  · exact reads_ok I hs d v u ok r rv
  · obtain rfl : u = Value.ref a := rv
    obtain ⟨_, its, n, h2, h3⟩ := I.hok a _ h1
    obtain ⟨as, h5, h6⟩ := reads_oks I hs xs vs its (by unfold okX at ok; exact ok) r1 h2
    exact ⟨a :: as, .list h3 rfl rfl (by simpa using h5), fun z => by
      rcases List.mem_cons.mp z with z | z
      · exact sys_ne hs I.kIn h3 rfl z
      · exact h6 z⟩
  · exact absurd z (hl _ _)
theorem reprX_ok {pins : List (Addr × Obj)} {s : Shared} {σ : L2.St} {p : D} {a : Addr} {u : Value} {Q : VK} (hs : SysD X.K) (hgu : X.A.guards = some []) (hu : X.A.units + 66 < cLine) (I : Inv X pins σ M.H s) (rx : RelV (.ref a) u) (R : Rep X.K T M) (d : DV X.K T M p (.ref a)) (hl : ∀ ks vs, p ≠ .dct ks vs) (ok : okX p = true) (sh : (toPyX p).showable = true)
    (dp : (toPyX p).depth ≤ 64) (sz : (toPyX p).shown.length ≤ sizeL) (k : ∀ M' v, M'.A = M.A → Rep X.K T M' → Ext M M' → RV X.K T M' (.str (toPyX p).shown.cps.toList) v → Q v M'.H) : wpAny (model X.prog X.w) X.A (call (.builtin "repr") [u]) (EP X pins σ Q) X.xe s := by
  obtain ⟨as, r1, r2⟩ := reads_dv I hs ok d rx hl
  obtain rfl : u = Value.ref a := rx
  refine repr_of_reads' r1 sh (fun _ => r2) hgu (by omega) (fun _ _ e => e) (fun h' t tk kp => ?_) sz
  exact ⟨.str (toPyX p).shown, M.H, I.kept (t' := tk) kp, ⟨t, rfl⟩, k M _ rfl R (Ext.refl M) (by show V.str _ = V.str _; simp)⟩
theorem cd_reprX (hs : SysD X.K) (hgu : X.A.guards = some []) (hu : X.A.units + 66 < cLine) : CallD X T (.builtin "repr") bReprX := call_D1 rfl (fun _ _ _ => by simp [bReprX]) fun pins s σ M p z x u Q I rx R d e k => by
  cases p with
  | tup xs =>
    have e : (if _ then _ else _) = some z := e
    split at e
    · rename_i h
      cases e
      obtain ⟨a, vs, rfl, _⟩ := d.tup
      exact reprX_ok hs hgu hu I rx R d (fun _ _ z => by cases z) h.1 h.2.1 h.2.2.1 h.2.2.2 k
    · cases e
  | lst xs =>
    have e : (if _ then _ else _) = some z := e
    split at e
    · rename_i h
      cases e
      obtain ⟨a, vs, rfl, _⟩ := d.lst
      exact reprX_ok hs hgu hu I rx R d (fun _ _ z => by cases z) h.1 h.2.1 h.2.2.1 h.2.2.2 k
    · cases e
  | _ => cases e
end
end Ev

set_option Elab.async false
set_option linter.all false
set_option maxRecDepth 100000
set_option maxHeartbeats 1000000
set_option autoImplicit false
/-! EvH: what the written part tells by names: the head's hook with facts of one's own. -/
namespace Ev
open PySem PySem.Spec PyProof.Rows L2
/-! ### written data -/
mutual
def kD (K : PySem.W.Frag) : D → Value → Bool
  | .non, .none => true
  | .bl b, .bool c => b == c
  | .int i, .int j _ => decide (i = j)
  | .str x, .str y _ => decide (x = y.cps.toList)
  | .tup xs, .ref a => (match K.lookup a with
    | some ⟨.type c, dd, .seq its _, _⟩ => dd.isNone && decide (c = "tuple") && (decide (its.size ≤ sizeLine) && kDs K xs its.toList)
    | _ => false)
  | _, _ => false
def kDs (K : PySem.W.Frag) : List D → List Value → Bool
  | [], [] => true
  | x :: xs, u :: us => kD K x u && kDs K xs us
  | _, _ => false
end
section
variable {K : PySem.W.Frag} {T : Tb}
mutual
theorem kD_ok : ∀ {d : D} {u : Value}, kD K d u = true → ∃ v, RelV v u ∧ ∀ M, RV K T M d v
  | .non, u, h => by
    cases u with
    | none => exact ⟨.non, rfl, fun _ => rfl⟩
    | _ => cases h
  | .bl b, u, h => by
    cases u with
    | bool c =>
      have e : b = c := eq_of_beq (show (b == c) = true from h)
      exact ⟨.bl b, by rw [e]; rfl, fun _ => rfl⟩
    | _ => cases h
  | .int i, u, h => by
    cases u with
    | int j t =>
      have e : i = j := of_decide_eq_true h
      exact ⟨.int i, ⟨t, by rw [e]⟩, fun _ => rfl⟩
    | _ => cases h
  | .str x, u, h => by
    cases u with
    | str y t =>
      have e : x = y.cps.toList := of_decide_eq_true h
      exact ⟨.str y, ⟨t, rfl⟩, fun _ => by show V.str y = V.str _; rw [e]⟩
    | _ => cases h
  | .tup xs, u, h => by
    cases u with
    | ref a =>
      unfold kD at h
      cases q : K.lookup a with
      | none => rw [q] at h; cases h
      | some o =>
        obtain ⟨oc, od, dt, osl⟩ := o
        rw [q] at h
        cases oc with
        | type c =>
          cases dt with
          | seq its n =>
            have h' : (od.isNone && decide (c = "tuple") && (decide (its.size ≤ sizeLine) && kDs K xs its.toList)) = true := h
            rw [Bool.and_eq_true, Bool.and_eq_true, Bool.and_eq_true] at h'
            have hod : od = none := Option.isNone_iff_eq_none.mp h'.1.1
            obtain ⟨vs, r1, r2⟩ := kDs_ok h'.2.2
            exact ⟨.ref a, rfl, fun M => ⟨a, vs, rfl, ⟨.inr ⟨_, its, n, q, congrArg Value.type (of_decide_eq_true h'.1.2), rfl, of_decide_eq_true h'.2.1, r1⟩, fun _ => .inr ⟨_, q, hod⟩⟩, r2 M⟩⟩
          | _ => cases h
        | _ => cases dt <;> cases h
    | _ => cases h
  | .lst _, u, h => by cases u <;> cases h
  | .dct _ _, u, h => by cases u <;> cases h
  | .set _, u, h => by cases u <;> cases h
  | .obj _ _ _, u, h => by cases u <;> cases h
  | .exn _ _ _, u, h => by cases u <;> cases h
  | .dcn _ _, u, h => by cases u <;> cases h
  | .fn _, u, h => by cases u <;> cases h
  | .scr _, u, h => by cases u <;> cases h
theorem kDs_ok : ∀ {ds : List D} {us : List Value}, kDs K ds us = true → ∃ vs, Vals vs us ∧ ∀ M, RVs K T M ds vs
  | [], us, h => by
    cases us with
    | nil => exact ⟨[], .nil, fun _ => rfl⟩
    | cons _ _ => cases h
  | d :: ds, us, h => by
    cases us with
    | nil => cases h
    | cons u us =>
      have h' : (kD K d u && kDs K ds us) = true := h
      rw [Bool.and_eq_true] at h'
      obtain ⟨v, r1, r2⟩ := kD_ok h'.1
      obtain ⟨vs, r3, r4⟩ := kDs_ok h'.2
      exact ⟨v :: vs, .cons r1 r3, fun M => ⟨v, vs, rfl, r2 M, r4 M⟩⟩
end
end
/-! ### facts by names -/
def mcT : Value := .type "type"
/-- the def behind a static method -/
def smAt (x m : Str) (K : PySem.W.Frag) : Addr := match PySem.W.recIn K (He.ma K (He.ga K x) m) "staticmethod" with
  | some (.ref g :: _) => g
  | _ => 0
/-- a method's def -/
def mAt (x m : Str) (K : PySem.W.Frag) : Addr := He.ma K (He.ga K x) m
def fcls (x : Str) (K : PySem.W.Frag) : Bool := (He.Fa.cls x).ok K
def fnoat (x f : Str) (K : PySem.W.Frag) : Bool := (He.Fa.noat x f).ok K
def fmeth (x m : Str) (K : PySem.W.Frag) : Bool := (He.Fa.meth x m).ok K
def fmkr (x : Str) (K : PySem.W.Frag) : Bool := (He.Fa.mkr x).ok K
def gloAt (x : Str) (K : PySem.W.Frag) : Addr := He.ga K x
def isGlo (x : Str) (K : PySem.W.Frag) : Bool := decide (PySem.W.nsIn K mainGlobals x = some (some (.ref (He.ga K x))))
def isFree (x : Str) (K : PySem.W.Frag) : Bool := decide (PySem.W.nsIn K mainGlobals x = some none)
def isDat (x : Str) (d : D) (K : PySem.W.Frag) : Bool := match PySem.W.nsIn K mainGlobals x with
  | some (some u) => kD K d u
  | _ => false
def isCls (x : Str) (K : PySem.W.Frag) : Bool := PySem.W.readsIn K (He.ga K x) mcT && decide (PySem.W.specialIn K (.ref (He.ga K x)) "__getattribute__" = some (some (.builtin "type.__getattribute__")))
def isCon (x f : Str) (d : D) (K : PySem.W.Frag) : Bool := match PySem.W.findCls K (.ref (He.ga K x)) mcT f with
  | some (.val u) => kD K d u
  | _ => false
def isSta (x m : Str) (K : PySem.W.Frag) : Bool := (match PySem.W.findCls K (.ref (He.ga K x)) mcT m with
  | some (.get g a o t) => decide (g = .builtin "staticmethod.__get__") && (decide (a = .ref (He.ma K (He.ga K x) m)) && (decide (o = .none) && decide (t = .ref (He.ga K x))))
  | _ => false) && (match PySem.W.recIn K (He.ma K (He.ga K x) m) "staticmethod" with
  | some (.ref _ :: _) => true
  | _ => false)
section
variable {K : PySem.W.Frag} {h : Heap} {mg : Str → Option Value} {T : Tb} {x m f : Str} {d : D}
theorem glo_of (I : K.In h) (G : h.Ns mainGlobals mg) (c : isGlo x K = true) : mg x = some (.ref (He.ga K x)) := PySem.W.mg_of I G (of_decide_eq_true c)
theorem free_of (I : K.In h) (G : h.Ns mainGlobals mg) (c : isFree x K = true) : mg x = none := PySem.W.mg_none_of I G (of_decide_eq_true c)
theorem dat_of (I : K.In h) (G : h.Ns mainGlobals mg) (c : isDat x d K = true) : ∃ u v, mg x = some u ∧ RelV v u ∧ ∀ M, RV K T M d v := by
  unfold isDat at c
  split at c
  · rename_i u e
    obtain ⟨v, r1, r2⟩ := kD_ok (T := T) c
    exact ⟨u, v, PySem.W.mg_of I G e, r1, r2⟩
  · cases c
theorem cls_of (c : isCls x K = true) : ClX.CRead K (He.ga K x) mcT := by
  unfold isCls at c
  rw [Bool.and_eq_true] at c
  exact ⟨c.1, of_decide_eq_true c.2⟩
theorem con_of (c : isCon x f d K = true) : ∃ v u, ClX.CVal K (He.ga K x) mcT f v u ∧ ∀ M, RV K T M d v := by
  unfold isCon at c
  split at c
  · rename_i u e
    obtain ⟨v, r1, r2⟩ := kD_ok (T := T) c
    exact ⟨v, u, ⟨e, r1⟩, r2⟩
  · cases c
theorem sta_of (c : isSta x m K = true) : SMet K (He.ga K x) mcT m (He.ma K (He.ga K x) m) (smAt x m K) := by
  unfold isSta at c
  rw [Bool.and_eq_true] at c
  obtain ⟨c1, c2⟩ := c
  refine ⟨?_, ?_⟩
  · split at c1
    · rename_i g a o t e
      rw [Bool.and_eq_true, Bool.and_eq_true, Bool.and_eq_true] at c1
      obtain ⟨h1, h2, h3, h4⟩ := c1
      rw [e, of_decide_eq_true h1, of_decide_eq_true h2, of_decide_eq_true h3, of_decide_eq_true h4]
    · cases c1
  · unfold smAt
    split at c2
    · rename_i g r e
      exact ⟨r, by rw [e]⟩
    · cases c2
end
/-! ### defs -/
structure DH where
  at_ : PySem.W.Frag → Addr
  name : Str
  qual : Str
  params : Arguments
  body : List Stmt
  scope : Scope
def DH.val (d : DH) : He.FnW := some (d.name, d.qual, d.params, .stmts d.body, d.scope, mainGlobals, [], builtinsNs)
def fnH (K : PySem.W.Frag) (a : Addr) : He.FnW := match K.lookup a with
  | some ⟨_, _, .func fd, _⟩ => some (fd.name, fd.qualname, fd.params, fd.body, fd.scope, fd.globals, fd.closure, fd.builtins)
  | _ => none
def DH.ok (K : PySem.W.Frag) (d : DH) : Bool := PySem.W.keepIn K (.ref (d.at_ K)) && (match K.lookup (d.at_ K) with
  | some ⟨_, _, .func fd, _⟩ => PySem.W.codeIn K fd.code d.qual && He.dflB K fd.defaults []
  | _ => false)
theorem DH.fun {K : PySem.W.Frag} {d : DH} (e : fnH K (d.at_ K) = d.val) (c : d.ok K = true) : ∃ fd, FunD K d.name d.qual d.params d.body d.scope [] [] (d.at_ K) fd := by
  unfold DH.ok at c
  rw [Bool.and_eq_true] at c
  unfold fnH at e
  cases q : K.lookup (d.at_ K) with
  | none => rw [q] at e; cases e
  | some o =>
    obtain ⟨oc, od, dt, osl⟩ := o
    rw [q] at e c
    cases dt with
    | func fd =>
      obtain ⟨n1, n2, n3, n4, n5, n6, n7, n8, n9, n10, n11, n12, n13, n14, n15⟩ := fd
      have e2 : some (n1, n2, n3, n4, n5, n6, n7, n15) = some (d.name, d.qual, d.params, FuncBody.stmts d.body, d.scope, mainGlobals, ([] : List (Str × Addr)), builtinsNs) := e
      simp only [Option.some.injEq, Prod.mk.injEq] at e2
      obtain ⟨g1, g2, g3, g4, g5, g6, g7, g8⟩ := e2
      subst g1 g2 g3 g4 g5 g6 g7 g8
      have c3 : (PySem.W.codeIn K n13 d.qual && He.dflB K n8 []) = true := c.2
      rw [Bool.and_eq_true] at c3
      exact ⟨_, ⟨oc, od, n8, n9, n10, n11, n12, n13, n14, osl, rfl, q, c3.1, He.dflB_ok c3.2, .inl rfl⟩, c.1⟩
    | _ => cases e
/-! ### the hook -/
abbrev Fc := PySem.W.Frag → Bool
def obsV (fs : List Fc) (ds : List DH) (K : PySem.W.Frag) : Bool × List He.FnW := (fs.all (fun f => f K) && ds.all (fun d => d.ok K), ds.map fun d => fnH K (d.at_ K))
def goodV (ds : List DH) : Bool × List He.FnW := (true, ds.map DH.val)
/-- what the module's names, and the statics, reach in n steps -/
def asV (g : Addr → Option Obj) : Nat → List Addr
  | 0 => [mainGlobals, cStatics]
  | n + 1 => He.growD g (asV g n)
def obsVG (n : Nat) (fs : List Fc) (ds : List DH) (g : Addr → Option Obj) : Bool × List He.FnW := obsV fs ds (He.frG g (sysModules :: asV g n))
def hookV (n : Nat) (fs : List Fc) (ds : List DH) : PySem.W.Hook where
  α := Bool × List He.FnW
  obs := fun s => obsVG n fs ds s.heap.get?
  val := fun _ => goodV ds
  says := fun _ h => ∃ K : PySem.W.Frag, K.In h ∧ obsV fs ds K = goodV ds
  of := fun _ _ e => ⟨_, He.frG_in, e⟩
  keeps := fun _ _ _ ⟨K, hK, c⟩ k => ⟨K, PySem.W.Frag.In.keeps hK k, c⟩
theorem obsVG_eq {n : Nat} {fs : List Fc} {ds : List DH} {g : Addr → Option Obj} {s : Shared} (h : ∀ a, g a = s.heap.get? a) : obsVG n fs ds g = (hookV n fs ds).obs s := by
  rw [show g = s.heap.get? from funext h]
  rfl
section
variable {fs : List Fc} {ds : List DH} {K : PySem.W.Frag}
theorem said_fact (c : obsV fs ds K = goodV ds) (i : Nat) {f : Fc} (h : fs[i]? = some f := by rfl) : f K = true := by
  have c1 : (fs.all (fun f => f K) && ds.all (fun d => d.ok K)) = true := congrArg Prod.fst c
  rw [Bool.and_eq_true] at c1
  exact List.all_eq_true.mp c1.1 f (List.mem_of_getElem? h)
theorem said_def (c : obsV fs ds K = goodV ds) (i : Nat) {d : DH} (h : ds[i]? = some d := by rfl) : ∃ fd, FunD K d.name d.qual d.params d.body d.scope [] [] (d.at_ K) fd := by
  have c1 : (fs.all (fun f => f K) && ds.all (fun d => d.ok K)) = true := congrArg Prod.fst c
  rw [Bool.and_eq_true] at c1
  have c2 : (ds.map fun d => fnH K (d.at_ K)) = ds.map DH.val := congrArg Prod.snd c
  have c3 : (ds.map fun d => fnH K (d.at_ K))[i]? = (ds.map DH.val)[i]? := by rw [c2]
  rw [List.getElem?_map, List.getElem?_map, h] at c3
  exact DH.fun (Option.some.inj c3) (List.all_eq_true.mp c1.2 d (List.mem_of_getElem? h))
end
/-! ### three names at once -/
section
variable {X : Cx} {T : Tb}
theorem js_par3 {i j l : Nat} {x y z : Str} {a b c : Expr} {f : SA} {px py pz pt pos : Pos} {kt k2 : Nat} {pt2 : Pos} (hc : X.calm = true) (hN : X.N.Nodup) (ha : JA X T [a, b, c] f) (hi : X.N[i]? = some x := by rfl) (hj : X.N[j]? = some y := by rfl) (hl : X.N[l]? = some z := by rfl)
    (hij : i ≠ j := by decide) (hil : i ≠ l := by decide) (hjl : j ≠ l := by decide) (hx : X.env.scope.names.lookup x = some .local := by rfl) (hy : X.env.scope.names.lookup y = some .local := by rfl) (hz : X.env.scope.names.lookup z = some .local := by rfl)
    (hw : swappedStores [.Tuple [.Name x px, .Name y py, .Name z pz] kt pt] (.Tuple [a, b, c] k2 pt2) X.env = pure (some [x, y, z]) := by rfl) (hs : swapsWithSole [.Tuple [.Name x px, .Name y py, .Name z pz] kt pt] (.Tuple [a, b, c] k2 pt2) pos.line X.env = pure false := by rfl) :
    JS X T (.Assign [.Tuple [.Name x px, .Name y py, .Name z pz] kt pt] (.Tuple [a, b, c] k2 pt2) pos) (sPar3 i j l f) := PS.weak (ps_par3 hc hN hi hj hl hij hil hjl hx hy hz ha hw hs) fun Dn σ H h => by
  obtain ⟨M, B, L, ρ, p, h⟩ := h
  refine ⟨M, B, L, ρ, p, (post.st h).mono fun ws L1 M1 eA R x q vs rvs => ?_⟩
  match ws, q, rvs with
  | [w1, w2, w3], q, rvs =>
    obtain ⟨v1, s1, rfl, a1, v2, s2, rfl, a2, v3, s3, rfl, a3, rfl⟩ := rvs
    exact ⟨v1, v2, v3, rfl, q.ext_next eA R ((((p.rs.ext p.rep x).set a1 i).set a2 j).set a3 l)⟩
  | [], q, _ => exact q.elim
  | [_], q, _ => exact q.elim
  | [_, _], q, _ => exact q.elim
  | _ :: _ :: _ :: _ :: _, q, _ => exact q.elim
end
end Ev

set_option Elab.async false
set_option linter.all false
set_option maxRecDepth 100000
set_option maxHeartbeats 1000000
set_option autoImplicit false
/-! EvJ: small words for printed walks. -/
namespace Ev
open PySem PySem.Spec PyProof.Rows L2
theorem u0 {k : Nat} {A : Around} (r : Room k A) : A.units < cLine := by have := r.un; omega
theorem u1 {k : Nat} {A : Around} (r : Room k A) : A.units + 1 < cLine := by have := r.un; omega
theorem u10 {k : Nat} {A : Around} (r : Room k A) : A.units + 10 < cLine := by have := r.un; omega
theorem u12 {k : Nat} {A : Around} (r : Room k A) : A.units + 12 < cLine := by have := r.un; omega
theorem u64 {k : Nat} {A : Around} (r : Room k A) : A.units + 64 < cLine := by have := r.un; omega
theorem u65 {k : Nat} {A : Around} (r : Room k A) : A.units + 65 < cLine := by have := r.un; omega
theorem u66 {k : Nat} {A : Around} (r : Room k A) : A.units + 66 < cLine := by have := r.un; omega
/-- a statement of a class's body -/
def inCls (s : Stmt) (j : Nat) : Stmt := match s with
  | .ClassDef (body := b) .. => b.getD j (.Pass ⟨0, 0, 0, 0⟩)
  | _ => .Pass ⟨0, 0, 0, 0⟩
theorem kw_binds {K : PySem.W.Frag} {x qual : Str} {params : Arguments} {body : List Stmt} {scope : Scope} {kws : List (Str × V)} {f : Addr} {fd : FuncData} {args : Args} {binds : List (Str × Value)} (F : FunD K x qual params body scope [] kws f fd)
    (h : ∀ (kV doc pm : Value) (an : Option Addr) (cdv ct : Value), bindArgs (PySem.W.fnOf x qual params body scope .none kV doc pm an cdv ct) args = pure binds) (s : Shared) : BindsTo s fd args binds := by
  obtain ⟨oc, od, dV, kV, doc, pm, an, cdv, ct, osl, rfl, lk, hcd, hD, hK⟩ := F.ex
  rcases hD with ⟨_, rfl⟩ | ⟨e, _⟩
  · exact .of_eq (h kV doc pm an cdv ct)
  · exact absurd rfl e
section
variable {X : Cx} {T : Tb}
theorem je_datum {x : Str} {d : D} {pos : Pos} (h : ∃ u v, X.mg x = some u ∧ RelV v u ∧ ∀ M, RV X.K T M d v) (hg : Gl X x := by rfl) (hd : (x == ("__debug__" : Str)) = false := by decide) : JE X T (.Name x pos) (eC d) :=
  let ⟨_, _, hm, r, rv⟩ := h; je_glob hm r (fun M _ => rv M) hg hd
theorem je_conD {x f : Str} {C : Addr} {mc : Value} {d : D} {p pos : Pos} (hm : X.mg x = some (.ref C)) (c : ClX.CRead X.K C mc) (h : ∃ v u, ClX.CVal X.K C mc f v u ∧ ∀ M, RV X.K T M d v) (hg : Gl X x := by rfl) (hd : (x == ("__debug__" : Str)) = false := by decide)
    (hb : attributeBase (.Name x p) f X.env (eval (.Name x p) X.env) = eval (.Name x p) X.env := by rfl) : JE X T (.Attribute (.Name x p) f pos) (eC d) :=
  let ⟨_, _, cv, rv⟩ := h; je_cval hm c cv (fun M _ => rv M) hg hd hb
end
theorem rvs_ints {K : PySem.W.Frag} {T : Tb} {M : Mem} : ∀ ns : List Int, RVs K T M (ns.map D.int) (ns.map V.int)
  | [] => rfl
  | _ :: ns => ⟨_, _, rfl, rfl, rvs_ints ns⟩
/-- the law's start: the script alone -/
theorem law_start {K : PySem.W.Frag} {T : Tb} {H : Hp} {a : Addr} {ns : List Int} {F : Fn} {E : XK} (hO : Only H) (hS : SqL K H a (ns.map V.int)) (h : ∃ L, F [.d (.scr (ns.map D.int))] [] [] = .ok (.d (.bl true)) L) : spOf K T 1 F [.ref a] H (fun v _ => v = .bl true) E := by
  obtain ⟨L, h⟩ := h
  have R : Rep K T ⟨fun _ => 0, [], H, []⟩ := ⟨fun i j ⟨o, e, _⟩ => by simp at e, fun n o e => by simp at e, fun a ha => by simp at ha⟩
  refine ⟨rfl, ⟨fun _ => 0, [], H, []⟩, [], [], [.d (.scr (ns.map D.int))], rfl, rfl, R, ⟨_, _, rfl, ⟨a, _, rfl, ?_, rvs_ints ns⟩, rfl⟩, ?_⟩
  · rcases hS with s | s
    · exact .inl ⟨⟨fun n ⟨o, e, _⟩ => by simp at e, by simp⟩, s⟩
    · exact .inr s
  · rw [h]
    exact fun M' _ _ _ v rv => rv
end Ev

set_option Elab.async false
set_option linter.all false
set_option maxRecDepth 100000
set_option maxHeartbeats 2000000
set_option autoImplicit false
/-! EvHx: what the written part tells of own exception classes. -/
namespace Ev
open PySem PySem.Spec PyProof.Rows L2 PySem.W
def xPar (p : Str) (p1 p2 : Pos) : Arguments := ⟨[], [⟨"self", none, p1⟩, ⟨p, none, p2⟩], none, [], [], none, []⟩
def xNames : List Str := ["value", "reason", "index", "test", "cut", "fact", "thing", "word", "count", "most"]
theorem xbind {p nm qual : Str} {p1 p2 : Pos} {body : List Stmt} {scope : Scope} {kV doc pm cd ct : Value} {an : Option Addr} {cc : Addr} (h : xNames.contains p = true) : ∀ (s : Shared) (a : Addr) (u : Value),
    BindsTo s (ksFn nm qual (xPar p p1 p2) body scope .none kV doc pm an cd ct cc) ⟨[.ref a, u], []⟩ [("self", .ref a), (p, u)] ∧ BindsTo s (ksFn nm qual (xPar p p1 p2) body scope .none kV doc pm an cd ct cc) ⟨[.ref a], [(p, u)]⟩ [("self", .ref a), (p, u)] := fun s a u => by
  have h : p ∈ xNames := List.contains_iff_mem.mp h
  simp only [xNames, List.mem_cons, List.not_mem_nil, or_false] at h
  rcases h with rfl | rfl | rfl | rfl | rfl | rfl | rfl | rfl | rfl | rfl <;> exact ⟨.of_eq rfl, .of_eq rfl⟩
/-- the bases: their facts -/
structure XBase (B i newId : String) (bmB : List Value) : Prop where
  FB : ExcBaseFacts B newId i bmB
  KF : KxsFacts B i
  SF : StoreFacts B bmB "object.__setattr__" "object"
theorem xb_ve : XBase "ValueError" "ValueError.__init__" "ValueError.__new__" [.type "ValueError", .type "Exception", .type "BaseException", .type "object"] := ⟨PySem.F.excBase_ValueError, kxs_ValueError, PySem.F.store_ValueError⟩
theorem xb_le : XBase "LookupError" "LookupError.__init__" "LookupError.__new__" [.type "LookupError", .type "Exception", .type "BaseException", .type "object"] := ⟨PySem.F.excBase_LookupError, kxs_LookupError, PySem.F.store_LookupError⟩
theorem xb_oe : XBase "OverflowError" "OverflowError.__init__" "OverflowError.__new__" [.type "OverflowError", .type "ArithmeticError", .type "Exception", .type "BaseException", .type "object"] := ⟨PySem.F.excBase_OverflowError, kxs_OverflowError, PySem.F.store_OverflowError⟩
def xkitB (K : PySem.W.Frag) (C : Addr) : Bool := (clsIn K C).isSome && (decide (findIn K (.ref C) "__getattribute__" = some (some (.builtin "BaseException.__getattribute__"))) && (decide (findIn K (.ref C) "__getattr__" = some none) && (decide (subIn K (.ref C) (.type "BaseException") = some true) &&
  (decide (findIn K (.ref C) "__class__" = some (some (.builtin "object.__class__"))) && (decide (specialIn K (.builtin "object.__class__") "__get__" = some (some (.builtin "getset_descriptor.__get__"))) && (decide (takesIn K (.builtin "object.__class__") = some true) && (decide (mroIn K C (.type "object") = some true) && hasDictIn K C)))))))
theorem xkit_of {K : PySem.W.Frag} {C : Addr} (h : xkitB K C = true) : XKit K C := by
  unfold xkitB at h
  simp only [Bool.and_eq_true, decide_eq_true_eq] at h
  obtain ⟨h1, h2, h3, h4, h5, h6, h7, h8, h9⟩ := h
  exact ⟨h1, h2, h3, h4, h5, h6, h7, h8, h9⟩
/-- the __init__'s def -/
def xBodyB (p : Str) : List Stmt → Bool
  | [.Expr (.Call (.Attribute (.Call (.Name s _) [] [] _) i q2) [.Name v _] [] q4) _, .Assign [.Attribute (.Name se _) f _] (.Name v2 _) _] => decide (s = "super") && (decide (i = "__init__") && (decide (v = p) && (decide (se = "self") && (decide (f = p) && (decide (v2 = p) && (q2.endLine == q4.line))))))
  | _ => false
theorem xBody_of {p : Str} {b : List Stmt} (h : xBodyB p b = true) : ∃ q0 q1 q2 q3 q4 q5 q6 q7 q8 q9, b = xBody p q0 q1 q2 q3 q4 q5 q6 q7 q8 q9 ∧ (q2.endLine == q4.line) = true := by
  unfold xBodyB at h
  split at h
  · rename_i s q0 q1 i q2 v q3 q4 q5 se q6 f q7 v2 q8 q9
    simp only [Bool.and_eq_true, decide_eq_true_eq] at h
    obtain ⟨rfl, rfl, rfl, rfl, rfl, rfl, h⟩ := h
    exact ⟨q0, q1, q2, q3, q4, q5, q6, q7, q8, q9, rfl, h⟩
  · cases h
def xParB (p : Str) : Arguments → Bool
  | ⟨[], [⟨s, none, _⟩, ⟨q, none, _⟩], none, [], [], none, []⟩ => decide (s = "self") && decide (q = p)
  | _ => false
theorem xPar_of {p : Str} {a : Arguments} (h : xParB p a = true) : ∃ p1 p2, a = xPar p p1 p2 := by
  unfold xParB at h
  split at h
  · rename_i s p1 q p2
    simp only [Bool.and_eq_true, decide_eq_true_eq] at h
    obtain ⟨rfl, rfl⟩ := h
    exact ⟨p1, p2, rfl⟩
  · cases h
def xScoB (p : Str) (sc : Scope) : Bool := decide (sc.names.lookup ("super" : Str) = some .globalImplicit) && (decide (sc.names.lookup ("__class__" : Str) = some .free) && (decide (sc.names.lookup ("self" : Str) = some .local) && (decide (sc.names.lookup p = some .local) && (decide (sc.kind = .function) && (decide (sc.isCoroutine = false) && (decide (sc.isGenerator = false) && sc.names.all fun x => decide (x.2 ≠ .cell)))))))
def xCodB (K : PySem.W.Frag) (cda : Addr) (file : Str) : Bool := match K.lookup cda with
  | some ⟨_, _, .fields vs, _⟩ => (match (vs[2]? : Option Value) with
    | some (Value.str f _) => decide (f = file)
    | _ => false)
  | _ => false
theorem xCod_of {K : PySem.W.Frag} {cda : Addr} {file : Str} (h : xCodB K cda file = true) : ∃ ccl cdd vs ccs tf, K.lookup cda = some ⟨ccl, cdd, .fields vs, ccs⟩ ∧ vs[2]? = some (.str file tf) := by
  unfold xCodB at h
  split at h
  · rename_i a b vs c e
    split at h
    · rename_i f tf e2
      rw [of_decide_eq_true h] at e2
      exact ⟨a, b, vs, c, tf, e, e2⟩
    · cases h
  · cases h
def xCelB (K : PySem.W.Frag) (cc C : Addr) : Bool := match K.lookup cc with
  | some ⟨_, _, .cell (some (.ref D)), _⟩ => decide (D = C)
  | _ => false
theorem xCel_of {K : PySem.W.Frag} {cc C : Addr} (h : xCelB K cc C = true) : ∃ cl cld csl, K.lookup cc = some ⟨cl, cld, .cell (some (.ref C)), csl⟩ := by
  unfold xCelB at h
  split at h
  · rename_i a b d c e
    rw [of_decide_eq_true h] at e
    exact ⟨a, b, c, e⟩
  · cases h
def xFunB (K : PySem.W.Frag) (C : Addr) (p file : Str) (fd : FuncData) : Bool := decide (fd.name = "__init__") && (xParB p fd.params && ((match fd.body with | .stmts b => xBodyB p b | _ => false) && (xScoB p fd.scope && (decide (fd.globals = mainGlobals) && (decide (fd.builtins = builtinsNs) && (decide (fd.defaults = .none) &&
  ((match fd.code with | .ref cda => codeIn K (.ref cda) fd.qualname && xCodB K cda file | _ => false) && (match fd.closure with | [(n, cc)] => decide (n = "__class__") && xCelB K cc C | _ => false))))))))
def xInB (C fI : Addr) (p file : Str) (B i newId : String) (bmB : List Value) (K : PySem.W.Frag) : Bool := excInitIn K C bmB newId && (excOver K C bmB && (decide (findIn K (.ref C) "__init__" = some (some (.ref fI))) && (isFn K (.ref fI) && ((match K.lookup fI with | some ⟨_, _, .func fd, _⟩ => xFunB K C p file fd | _ => false) &&
  (decide (mroIn K C (.ref C) = some true) && (decide (nsIn K mainGlobals "super" = some none) && (decide (nsIn K cStatics "thirdparty.any" = some none) && (decide (ks_superIn K C C "__init__" = some (some (.builtin i))) && (decide (subIn K (.ref C) (.type B) = some true) &&
  (decide (findIn K (.ref C) "__setattr__" = some (some (.builtin "object.__setattr__"))) && (decide (takerIn K C p = some none) && (xNames.contains p && (keepIn K (.ref C) && (xkitB K C && (decide (findIn K (.ref C) p = some none) && decide (typeIn K (.ref C) = some (.type "type")))))))))))))))))
/-- all that the walk asks of an own exception class -/
structure XCl (K : PySem.W.Frag) (C fI : Addr) (p file : Str) (B i newId : String) (bmB : List Value) (fd : FuncData) : Prop where
  T : XIn K C fI p B i newId bmB file fd
  b1 : ∀ (s : Shared) (a : Addr) (u : Value), BindsTo s fd ⟨[.ref a, u], []⟩ [("self", .ref a), (p, u)]
  b2 : ∀ (s : Shared) (a : Addr) (u : Value), BindsTo s fd ⟨[.ref a], [(p, u)]⟩ [("self", .ref a), (p, u)]
  keep : keepIn K (.ref C) = true
  kit : XKit K C
  no : findIn K (.ref C) p = some none
  ty : typeIn K (.ref C) = some (.type "type")
theorem xcl_of {K : PySem.W.Frag} {C fI : Addr} {p file : Str} {B i newId : String} {bmB : List Value} (h : xInB C fI p file B i newId bmB K = true) : ∃ fd, XCl K C fI p file B i newId bmB fd := by
  unfold xInB at h
  simp only [Bool.and_eq_true, decide_eq_true_eq] at h
  obtain ⟨h1, h2, h3, h4, h5, h6, h7, h8, h9, h10, h11, h12, h13, h14, h15, h16, h17⟩ := h
  split at h5
  · rename_i oc od fd osl e
    unfold xFunB at h5
    simp only [Bool.and_eq_true, decide_eq_true_eq] at h5
    obtain ⟨g1, g2, g3, g4, g5, g6, g7, g8, g9⟩ := h5
    obtain ⟨n1, n2, n3, n4, n5, n6, n7, n8, n9, n10, n11, n12, n13, n14, n15⟩ := fd
    dsimp only at g1 g2 g3 g4 g5 g6 g7 g8 g9
    subst g1 g5 g6 g7
    obtain ⟨p1, p2, rfl⟩ := xPar_of g2
    split at g3
    · rename_i b
      obtain ⟨q0, q1, q2, q3, q4, q5, q6, q7, q8, q9, rfl, k9⟩ := xBody_of g3
      split at g8
      · rename_i cda
        rw [Bool.and_eq_true] at g8
        split at g9
        · rename_i n cc
          rw [Bool.and_eq_true, decide_eq_true_eq] at g9
          obtain ⟨rfl, g9⟩ := g9
          unfold xScoB at g4
          simp only [Bool.and_eq_true, decide_eq_true_eq, List.all_eq_true] at g4
          obtain ⟨k1, k2, k3, k4, k5, k6, k7, k8⟩ := g4
          have hps : (p == ("self" : Str)) = false ∧ (p == ("__debug__" : Str)) = false := by
            have h : p ∈ xNames := List.contains_iff_mem.mp h13
            simp only [xNames, List.mem_cons, List.not_mem_nil, or_false] at h
            rcases h with rfl | rfl | rfl | rfl | rfl | rfl | rfl | rfl | rfl | rfl <;> decide
          have kit := xkit_of h15
          exact ⟨_, ⟨h1, h2, h3, h4, ⟨oc, od, osl, n2, xPar p p1 p2, n5, _, n9, n10, n11, n12, cda, n14, cc, ⟨"self", none, p1⟩, q0, q1, q2, q3, q4, q5, q6, q7, q8, q9, rfl, e, g8.1, rfl, rfl, xCod_of g8.2, xCel_of g9, k1, k2, k3, k4, k5, k6, k7, k8, k9⟩, kit.cl, h6, h7, h8, h9, h10, h11, h12, kit.hd, hps.2, hps.1⟩,
            fun s a u => (xbind h13 s a u).1, fun s a u => (xbind h13 s a u).2, h14, kit, h16, h17⟩
        · cases g9
      · cases g8
    · cases g3
  · cases h5
def isSysD (K : PySem.W.Frag) : Bool := match K.lookup sysModules with
  | some o => decide (o.cls = .type "dict")
  | none => false
theorem sysD_of {K : PySem.W.Frag} (h : isSysD K = true) : SysD K := by
  unfold isSysD at h
  split at h
  · rename_i o e
    exact ⟨o, e, of_decide_eq_true h⟩
  · cases h
theorem XCl.mk' {X : Cx} {C fI : Addr} {p file : Str} {B i newId : String} {bmB : List Value} {fd : FuncData} (c : XCl X.K C fI p file B i newId bmB fd) (b : XBase B i newId bmB) (h1 : ((X.prog.main.file : Str) == file) = true) (h2 : (X.prog.main.scope.names.lookup ("super" : Str)).isSome = false) : XMk X C fI p B i newId bmB file fd :=
  ⟨b.FB, b.KF, b.SF, c.T, h1, h2, c.keep⟩
end Ev
namespace Ev
open PySem PySem.Spec PyProof.Rows L2
section
variable {X : Cx} {T : Tb}
theorem je_exnE {C fI : Addr} {c : Nat} {f : List Nat} {B0 i newId : String} {bmB : List Value} {file : Str} {x : Str} {e : Expr} {a : SA} {pn pos : Pos} {k : Nat} (m : ∃ fd, XCl X.K C fI ⟨f.toArray⟩ file B0 i newId bmB fd) (b : XBase B0 i newId bmB) (h1 : ((X.prog.main.file : Str) == file) = true) (h2 : (X.prog.main.scope.names.lookup ("super" : Str)).isSome = false)
    (eC : T.cls c = C) (hr : Room (k + 1) X.A) (hm : X.mg x = some (.ref C)) (ha : JA X T [e] a) (hg : Gl X x := by rfl) (hdb : (x == ("__debug__" : Str)) = false := by decide) (he : starEach [e] X.env = (false, eval e X.env) :: starEach [] X.env := by rfl) :
    JE X T (.Call (.Name x pn) [e] [] pos) (eExn c f a) :=
  let ⟨_, m⟩ := m
  je_exn (m.mk' b h1 h2) eC hr hm m.b1 ha hg hdb he
theorem je_exnKE {C fI : Addr} {c : Nat} {f : List Nat} {B0 i newId : String} {bmB : List Value} {file : Str} {x : Str} {kws : List Keyword} {a : SA} {pn pos : Pos} {k : Nat} (m : ∃ fd, XCl X.K C fI ⟨f.toArray⟩ file B0 i newId bmB fd) (b : XBase B0 i newId bmB) (h1 : ((X.prog.main.file : Str) == file) = true) (h2 : (X.prog.main.scope.names.lookup ("super" : Str)).isSome = false)
    (eC : T.cls c = C) (hr : Room (k + 1) X.A) (hm : X.mg x = some (.ref C)) (ha : JK X T kws a) (hg : Gl X x := by rfl) (hdb : (x == ("__debug__" : Str)) = false := by decide) (hall : (backToKw pos (keywordEach kws X.env)).all (·.1.isSome) = true := by rfl) (hks : (backToKw pos (keywordEach kws X.env)).filterMap (·.1) = [⟨f.toArray⟩] := by rfl)
    (hpl : ((backTo pos (starEach [] X.env)).any (·.1) || (backToKw pos (keywordEach kws X.env)).any (·.1.isNone)) = false := by rfl) :
    JE X T (.Call (.Name x pn) [] kws pos) (eExn c f a) :=
  let ⟨_, m⟩ := m
  je_exnK (m.mk' b h1 h2) eC hr hm m.b2 ha hg hdb hall hks hpl
theorem pa_cls0 : PA X [] (fun _ H Q => Q (([] : List Addr).map V.ref) H) := pa_nil
theorem pa_cls1 {es : List Expr} {cvs : List Addr} {C : Addr} {n : Str} {p : Pos} (h : PA X es (fun _ H Q => Q (cvs.map V.ref) H)) (hm : X.mg n = some (.ref C)) (hg : Gl X n := by rfl) (hd : (n == ("__debug__" : Str)) = false := by decide) (he : starEach (.Name n p :: es) X.env = (false, eval (.Name n p) X.env) :: starEach es X.env := by rfl) :
    PA X (.Name n p :: es) (fun _ H Q => Q ((C :: cvs).map V.ref) H) := PA.weak (pa_cons (pe_glob (v := .ref C) hg hm rfl hd) h he) fun σ H Q q => q
/-- isinstance(e, C), C an own class -/
theorem je_isXo {e : Expr} {f : SE} {n : Str} {p q pos : Pos} {C : Addr} {ans : Nat → Option Bool} (hc : X.mg n = some (.ref C)) (ha : JE X T e f) (hk : ∀ i b, ans i = some b → XKit X.K (T.cls i) ∧ PySem.W.kitOne X.K (.ref (T.cls i)) (.ref C) = some b) (hm : X.mg "isinstance" = none)
    (hg : Gl X "isinstance" := by rfl) (hgn : Gl X n := by rfl) (hd : (n == ("__debug__" : Str)) = false := by decide) (he1 : starEach [e, .Name n q] X.env = (false, eval e X.env) :: starEach [.Name n q] X.env := by rfl) (he2 : starEach [.Name n q] X.env = (false, eval (.Name n q) X.env) :: starEach [] X.env := by rfl)
    (hpl : (backTo pos (starEach [.Name n q] X.env)).any (·.1) = false := by rfl) : JE X T (.Call (.Name "isinstance" p) [e, .Name n q] [] pos) (e1 (opIsX ans) f) :=
  je_isX ans (pe_glob (v := .ref C) hgn hc rfl hd) (fun _ r => r) ha hk hm hg he1 he2 hpl
/-- .. a built-in one -/
theorem je_isXb {e : Expr} {f : SE} {n : Str} {t : String} {p q pos : Pos} {ans : Nat → Option Bool} (hc : X.mg n = none) (ha : JE X T e f) (hk : ∀ i b, ans i = some b → XKit X.K (T.cls i) ∧ PySem.W.kitOne X.K (.ref (T.cls i)) (.type t) = some b) (hm : X.mg "isinstance" = none) (hv : bootBuiltins n = some (.type t) := by decide +kernel)
    (hg : Gl X "isinstance" := by rfl) (hgn : Gl X n := by rfl) (hnn : n ≠ "__name__" := by decide) (hd : (n == ("__debug__" : Str)) = false := by decide) (he1 : starEach [e, .Name n q] X.env = (false, eval e X.env) :: starEach [.Name n q] X.env := by rfl) (he2 : starEach [.Name n q] X.env = (false, eval (.Name n q) X.env) :: starEach [] X.env := by rfl)
    (hpl : (backTo pos (starEach [.Name n q] X.env)).any (·.1) = false := by rfl) : JE X T (.Call (.Name "isinstance" p) [e, .Name n q] [] pos) (e1 (opIsX ans) f) :=
  je_isX ans (pe_bltn (v := .ty t) hgn hc hv rfl hnn hd) (fun _ r => r) ha hk hm hg he1 he2 hpl
end
/-! ### tables of answers, by the head -/
def isAns (tc : PySem.W.Frag → Nat → Addr) (cv : PySem.W.Frag → Value) (tbl : List Bool) (K : PySem.W.Frag) : Bool := (List.range tbl.length).all fun i => xkitB K (tc K i) && decide (PySem.W.kitOne K (.ref (tc K i)) (cv K) = tbl[i]?)
theorem ans_of {K : PySem.W.Frag} {tc : PySem.W.Frag → Nat → Addr} {cv : PySem.W.Frag → Value} {tbl : List Bool} (h : isAns tc cv tbl K = true) (i : Nat) (b : Bool) (e : tbl[i]? = some b) : XKit K (tc K i) ∧ PySem.W.kitOne K (.ref (tc K i)) (cv K) = some b := by
  have hi := (List.getElem?_eq_some_iff.mp e).1
  have := List.all_eq_true.mp h i (List.mem_range.mpr hi)
  rw [Bool.and_eq_true, decide_eq_true_eq, e] at this
  exact ⟨xkit_of this.1, this.2⟩
def isAnsT (tc : PySem.W.Frag → Nat → Addr) (cvs : PySem.W.Frag → List Addr) (tbl : List Bool) (K : PySem.W.Frag) : Bool := (List.range tbl.length).all fun i => xkitB K (tc K i) && decide (PySem.W.kitAny K (.ref (tc K i)) ((cvs K).map Value.ref) = tbl[i]?)
theorem ansT_of {K : PySem.W.Frag} {tc : PySem.W.Frag → Nat → Addr} {cvs : PySem.W.Frag → List Addr} {tbl : List Bool} (h : isAnsT tc cvs tbl K = true) (i : Nat) (b : Bool) (e : tbl[i]? = some b) : XKit K (tc K i) ∧ PySem.W.kitAny K (.ref (tc K i)) ((cvs K).map Value.ref) = some b := by
  have hi := (List.getElem?_eq_some_iff.mp e).1
  have := List.all_eq_true.mp h i (List.mem_range.mpr hi)
  rw [Bool.and_eq_true, decide_eq_true_eq, e] at this
  exact ⟨xkit_of this.1, this.2⟩
def isFx (tc : PySem.W.Frag → Nat → Addr) (f : Str) (tbl : List Bool) (K : PySem.W.Frag) : Bool := (List.range tbl.length).all fun i => !(tbl.getD i false) || (xkitB K (tc K i) && decide (PySem.W.findIn K (.ref (tc K i)) f = some none))
theorem fx_of {K : PySem.W.Frag} {tc : PySem.W.Frag → Nat → Addr} {f : Str} {tbl : List Bool} (h : isFx tc f tbl K = true) (i : Nat) (e : tbl.getD i false = true) : XKit K (tc K i) ∧ PySem.W.findIn K (.ref (tc K i)) f = some none := by
  have hi : i < tbl.length := by
    rw [List.getD_eq_getElem?_getD] at e
    cases q : tbl[i]? with
    | none => rw [q] at e; cases e
    | some b => exact (List.getElem?_eq_some_iff.mp q).1
  have := List.all_eq_true.mp h i (List.mem_range.mpr hi)
  rw [e, Bool.not_true, Bool.false_or, Bool.and_eq_true, decide_eq_true_eq] at this
  exact ⟨xkit_of this.1, this.2⟩
end Ev

set_option linter.all false
set_option maxRecDepth 100000
set_option autoImplicit false
/-! EvX: running the plain semantics by rules. -/
namespace Ev
section
variable {B L L1 L2 L3 L4 : Hs} {ρ ρ1 ρ2 : Sl} {w x y z : W} {p q r s : D} {a b c o i v : SE} {f g : SA} {t u : ST} {k k1 k2 : Bool}
theorem x_var {n : Nat} (h : ρ[n]? = some (some w)) : eVar n B ρ L = .ok w L := by unfold eVar; rw [h]
theorem x_c {d : D} : eC d B ρ L = .ok (.d d) L := rfl
theorem x_1 {op : D → Option D} (h : a B ρ L = .ok x L1) (hx : vw B L1 x = some p) (ho : op p = some r) : e1 op a B ρ L = .ok (.d r) L1 := by
  unfold e1 vwR ofOpt Res.bind
  rw [h]
  dsimp only
  rw [hx]
  dsimp only
  rw [ho]
theorem x_2 {op : D → D → Option D} (h : a B ρ L = .ok x L1) (h2 : b B ρ L1 = .ok y L2) (hx : vw B L2 x = some p) (hy : vw B L2 y = some q) (ho : op p q = some r) : e2 op a b B ρ L = .ok (.d r) L2 := by
  unfold e2 vwR ofOpt Res.bind
  rw [h]
  dsimp only
  rw [h2]
  dsimp only
  rw [hx]
  dsimp only
  rw [hy]
  dsimp only
  rw [ho]
theorem x_nil : aNil B ρ L = .ok [] L := rfl
theorem x_cons {ws : List W} (h : a B ρ L = .ok x L1) (h2 : f B ρ L1 = .ok ws L2) : aCons a f B ρ L = .ok (x :: ws) L2 := by
  unfold aCons Res.bind
  rw [h]
  dsimp only
  rw [h2]
theorem x_star {ws : List W} {ys : List D} (h : a B ρ L = .ok x L1) (hx : vw B L1 x = some p) (hs : seqD p = some ys) (h2 : f B ρ L1 = .ok ws L2) : aStar a f B ρ L = .ok (ys.map .d ++ ws) L2 := by
  unfold aStar vwR ofOpt Res.bind
  rw [h]
  dsimp only
  rw [hx]
  dsimp only
  rw [hs]
  dsimp only
  rw [h2]
theorem x_tup {ws : List W} {xs : List D} (h : f B ρ L = .ok ws L1) (ho : ownAll B L1 ws = some (xs, L2)) (hl : xs.length ≤ sizeL) : eTup f B ρ L = .ok (.d (.tup xs)) L2 := by
  unfold eTup ownsR guardR Res.bind
  rw [h]
  dsimp only
  rw [ho]
  dsimp only
  rw [decide_eq_true hl]
theorem x_lst {ws : List W} {xs : List D} (h : f B ρ L = .ok ws L1) (ho : ownAll B L1 ws = some (xs, L2)) (hl : xs.length ≤ sizeL) : eLst f B ρ L = .ok (.d (.lst xs)) L2 := by
  unfold eLst ownsR guardR Res.bind
  rw [h]
  dsimp only
  rw [ho]
  dsimp only
  rw [decide_eq_true hl]
theorem x_lstM {ws : List W} (h : f B ρ L = .ok ws L1) (hl : ws.length ≤ sizeL) : eLstM f B ρ L = .ok (.ref (B.length + L1.length)) (L1 ++ [.lst ws]) := by
  unfold eLstM guardR Res.bind
  rw [h]
  dsimp only
  rw [decide_eq_true hl]
theorem x_call {np : Nat} {F : Fn} {ws : List W} (h : f B ρ L = .ok ws L1) (hl : ws.length = np) (hF : F ws B L1 = .ok w L2) : eCall np F f B ρ L = .ok w L2 := by
  unfold eCall guardR Res.bind
  rw [h]
  dsimp only
  rw [decide_eq_true hl]
  exact hF
theorem x_callK {nk np : Nat} {F : Fn} {ws : List W} {gg : List W → List W} (h : f B ρ L = .ok ws L1) (hl : ws.length = nk) (hF : F (gg ws) B L1 = .ok w L2) : eCallK nk np F gg f B ρ L = .ok w L2 := by
  unfold eCallK guardR Res.bind
  rw [h]
  dsimp only
  rw [decide_eq_true hl]
  exact hF
theorem x_B {op : List D → Option D} {ws : List W} {ps : List D} (h : f B ρ L = .ok ws L1) (hv : vwsR B L1 ws = .ok ps L2) (ho : op ps = some r) : eB op f B ρ L = .ok (.d r) L2 := by
  unfold eB ofOpt Res.bind
  rw [h]
  dsimp only
  rw [hv]
  dsimp only
  rw [ho]
theorem x_vnil : vwsR B L [] = .ok [] L := rfl
theorem x_vcons {ws : List W} {ps : List D} (h : vw B L w = some p) (h2 : vwsR B L ws = .ok ps L2) : vwsR B L (w :: ws) = .ok (p :: ps) L2 := by
  show (vwR B L w).bind _ = _
  unfold vwR ofOpt Res.bind
  rw [h]
  dsimp only
  rw [h2]
/-! tests -/
theorem x_tE (h : a B ρ L = .ok x L1) (hx : vw B L1 x = some p) (ht : tru p = some k) : tE a B ρ L = .ok k L1 := by
  unfold tE vwR ofOpt Res.bind
  rw [h]
  dsimp only
  rw [hx]
  dsimp only
  rw [ht]
/-- two ways on -/
def Br (k : Bool) (P Q : Prop) : Prop := (k = true → P) ∧ (k = false → Q)
theorem br1 {P Q : Prop} (h : k = true) (p : P) : Br k P Q := ⟨fun _ => p, fun z => by rw [h] at z; cases z⟩
theorem br0 {P Q : Prop} (h : k = false) (p : Q) : Br k P Q := ⟨fun z => absurd z (by rw [h]; exact Bool.false_ne_true), fun _ => p⟩
theorem br2 {P Q : Prop} (p : k = true → P) (q : k = false → Q) : Br k P Q := ⟨p, q⟩
theorem x_tAnd {R : Res Bool} (h : t B ρ L = .ok k L1) (h2 : Br k (u B ρ L1 = R) (Res.ok false L1 = R)) : tAnd t u B ρ L = R := by
  unfold tAnd Res.bind
  rw [h]
  cases k with
  | true => exact h2.1 rfl
  | false => exact h2.2 rfl
theorem x_tOr {R : Res Bool} (h : t B ρ L = .ok k L1) (h2 : Br k (Res.ok true L1 = R) (u B ρ L1 = R)) : tOr t u B ρ L = R := by
  unfold tOr Res.bind
  rw [h]
  cases k with
  | true => exact h2.1 rfl
  | false => exact h2.2 rfl
theorem x_tNot (h : t B ρ L = .ok k L1) : tNot t B ρ L = .ok (!k) L1 := by
  unfold tNot Res.bind
  rw [h]
theorem x_if {R : Res W} (h : t B ρ L = .ok k L1) (h2 : Br k (a B ρ L1 = R) (b B ρ L1 = R)) : eIf t a b B ρ L = R := by
  unfold eIf Res.bind
  rw [h]
  cases k with
  | true => exact h2.1 rfl
  | false => exact h2.2 rfl
theorem x_and {R : Res W} (h : a B ρ L = .ok x L1) (hx : vw B L1 x = some p) (ht : tru p = some k) (h2 : Br k (b B ρ L1 = R) (Res.ok x L1 = R)) : eAnd a b B ρ L = R := by
  unfold eAnd vwR ofOpt Res.bind
  rw [h]
  dsimp only
  rw [hx]
  dsimp only
  rw [ht]
  cases k with
  | true => exact h2.1 rfl
  | false => exact h2.2 rfl
theorem x_or {R : Res W} (h : a B ρ L = .ok x L1) (hx : vw B L1 x = some p) (ht : tru p = some k) (h2 : Br k (Res.ok x L1 = R) (b B ρ L1 = R)) : eOr a b B ρ L = R := by
  unfold eOr vwR ofOpt Res.bind
  rw [h]
  dsimp only
  rw [hx]
  dsimp only
  rw [ht]
  cases k with
  | true => exact h2.1 rfl
  | false => exact h2.2 rfl
theorem x_not (h : a B ρ L = .ok x L1) (hx : vw B L1 x = some p) (ht : tru p = some k) : eNot a B ρ L = .ok (.d (.bl (!k))) L1 := by
  unfold eNot vwR ofOpt Res.bind
  rw [h]
  dsimp only
  rw [hx]
  dsimp only
  rw [ht]
theorem x_isN (h : a B ρ L = .ok x L1) : eIsN a B ρ L = .ok (.d (.bl (isN x))) L1 := by
  unfold eIsN Res.bind
  rw [h]
theorem x_notN (h : a B ρ L = .ok x L1) : eNotN a B ρ L = .ok (.d (.bl (!isN x))) L1 := by
  unfold eNotN Res.bind
  rw [h]
/-- the second half of a chain -/
def ch2 (op' : D → D → Option D) (B : Hs) (y z : W) (L3 : Hs) : Res W := (vwR B L3 y).bind fun q L3 => (vwR B L3 z).bind fun s L3 => (ofOpt (op' q s) L3).bind fun r L4 => .ok (.d r) L4
theorem x_ch2 {op' : D → D → Option D} (hy : vw B L y = some q) (hz : vw B L z = some s) (ho : op' q s = some r) : ch2 op' B y z L = .ok (.d r) L := by
  unfold ch2 vwR ofOpt Res.bind
  rw [hy]
  dsimp only
  rw [hz]
  dsimp only
  rw [ho]
theorem x_chain {op op' : D → D → Option D} {R : Res W} (h : a B ρ L = .ok x L1) (h2 : b B ρ L1 = .ok y L2) (hx : vw B L2 x = some p) (hy : vw B L2 y = some q) (ho : op p q = some (.bl k))
    (h3 : Br k (∃ z L3, c B ρ L2 = .ok z L3 ∧ ch2 op' B y z L3 = R) (Res.ok (.d (.bl false)) L2 = R)) : eChain op op' a b c B ρ L = R := by
  unfold eChain
  rw [h]
  show (b B ρ L1).bind _ = _
  rw [h2]
  show (vwR B L2 x).bind _ = _
  unfold vwR
  rw [hx]
  show (ofOpt (vw B L2 y) L2).bind _ = _
  rw [hy]
  show (ofOpt (op p q) L2).bind _ = _
  rw [ho]
  show (if k = true then _ else _) = R
  cases k with
  | true =>
    obtain ⟨z, L3, e1, e2⟩ := h3.1 rfl
    rw [if_pos rfl, e1]
    exact e2
  | false => rw [if_neg Bool.false_ne_true]; exact h3.2 rfl
theorem x_ex {A' : Type} {B' : Type} {P : A' → B' → Prop} {Q : A' → B' → Prop} {z : A'} {l : B'} (h : P z l) (h2 : Q z l) : ∃ z l, P z l ∧ Q z l := ⟨z, l, h, h2⟩
theorem x_oNone : oNone B ρ L = .ok none L := rfl
theorem x_oSome {j : Int} (h : a B ρ L = .ok x L1) (hx : vw B L1 x = some p) (hj : intD p = some j) : oSome a B ρ L = .ok (some j) L1 := by
  unfold oSome vwR ofOpt Res.bind
  rw [h]
  dsimp only
  rw [hx]
  dsimp only
  rw [hj]
theorem x_sl {lo hi : SO} {l h : Option Int} (h1 : a B ρ L = .ok x L1) (h2 : lo B ρ L1 = .ok l L2) (h3 : hi B ρ L2 = .ok h L3) (hx : vw B L3 x = some p) (ho : opSl p l h = some r) : eSl a lo hi B ρ L = .ok (.d r) L3 := by
  unfold eSl vwR ofOpt Res.bind
  rw [h1]
  dsimp only
  rw [h2]
  dsimp only
  rw [h3]
  dsimp only
  rw [hx]
  dsimp only
  rw [ho]
/-! dicts -/
theorem x_pnil : pairsGo B ρ [] L = .ok ([], []) L := rfl
theorem x_pcons {ps : List (SE × SE)} {ww : List W × List W} (h : a B ρ L = .ok x L1) (h2 : b B ρ L1 = .ok y L2) (h3 : pairsGo B ρ ps L2 = .ok ww L3) : pairsGo B ρ ((a, b) :: ps) L = .ok (x :: ww.1, y :: ww.2) L3 := by
  show (a B ρ L).bind _ = _
  unfold Res.bind
  rw [h]
  dsimp only
  rw [h2]
  dsimp only
  rw [h3]
theorem x_dct {ps : List (SE × SE)} {ww : List W × List W} {xs ks : List D} (h : pairsGo B ρ ps L = .ok ww L1) (ho : ownAll B L1 ww.2 = some (xs, L2)) (hk : vwsR B L2 ww.1 = .ok ks L3) (hg : (ks.all isKey && decide (ks.length ≤ 15)) = true) :
    eDct ps B ρ L = .ok (.d (.dct (mergeKV [] [] ks xs).1 (mergeKV [] [] ks xs).2)) L3 := by
  unfold eDct ownsR guardR Res.bind
  rw [h]
  dsimp only
  rw [ho]
  dsimp only
  rw [hk]
  dsimp only
  rw [hg]
theorem x_dctM {ps : List (SE × SE)} {ww : List W × List W} {ks : List D} (h : pairsGo B ρ ps L = .ok ww L1) (hk : vwsR B L1 ww.1 = .ok ks L2) (hg : (ks.all isKey && decide (ks.length ≤ 15)) = true) :
    eDctM ps B ρ L = .ok (.ref (B.length + L2.length)) (L2 ++ [.dct (mergeKV [] [] ks ww.2).1 (mergeKV [] [] ks ww.2).2]) := by
  unfold eDctM guardR Res.bind
  rw [h]
  dsimp only
  rw [hk]
  dsimp only
  rw [hg]
/-! statements -/
variable {S1 S2 : SS} {sr : SR}
theorem x_snil : sNil B ρ L = .next ρ L := rfl
theorem x_seq {r1 : SR} (h : S1 B ρ L = r1) (h2 : r1.then (fun ρ1 L1 => S2 B ρ1 L1) = sr) : sSeq S1 S2 B ρ L = sr := by
  unfold sSeq
  rw [h]
  exact h2
theorem x_thenN (h : S2 B ρ L = sr) : (SR.next ρ L).then (fun ρ1 L1 => S2 B ρ1 L1) = sr := h
theorem x_thenR {kk : Sl → Hs → SR} : (SR.ret w L).then kk = .ret w L := rfl
theorem x_thenB {kk : Sl → Hs → SR} : (SR.brk ρ L).then kk = .brk ρ L := rfl
theorem x_thenC {kk : Sl → Hs → SR} : (SR.cnt ρ L).then kk = .cnt ρ L := rfl
theorem x_ret (h : a B ρ L = .ok w L1) : sRet a B ρ L = .ret w L1 := by
  unfold sRet Res.st
  rw [h]
theorem x_expr (h : a B ρ L = .ok w L1) : sExpr a B ρ L = .next ρ L1 := by
  unfold sExpr Res.st
  rw [h]
theorem x_sif (h : t B ρ L = .ok k L1) (h2 : Br k (S1 B ρ L1 = sr) (S2 B ρ L1 = sr)) : sIf t S1 S2 B ρ L = sr := by
  unfold sIf Res.st
  rw [h]
  cases k with
  | true => exact h2.1 rfl
  | false => exact h2.2 rfl
theorem x_asg {g : SG} (h : a B ρ L = .ok w L1) (hg : g w B ρ L1 = .ok ρ1 L2) : sAsg a g B ρ L = .next ρ1 L2 := by
  unfold sAsg Res.st
  rw [h]
  dsimp only
  rw [hg]
theorem x_gvar {n : Nat} : gVar n w B ρ L = .ok (ρ.set n (some w)) L := rfl
theorem x_gtup {gs : List SG} {xs : List D} (hx : vw B L w = some p) (ht : tupD p = some xs) (h : gAll gs xs B ρ L = .ok ρ1 L1) : gTup gs w B ρ L = .ok ρ1 L1 := by
  unfold gTup vwR ofOpt Res.bind
  rw [hx]
  dsimp only
  rw [ht]
  exact h
theorem x_gnil : gAll [] [] B ρ L = .ok ρ L := rfl
theorem x_gcons {g : SG} {gs : List SG} {xs : List D} (h : g (.d p) B ρ L = .ok ρ1 L1) (h2 : gAll gs xs B ρ1 L1 = .ok ρ2 L2) : gAll (g :: gs) (p :: xs) B ρ L = .ok ρ2 L2 := by
  show (g (.d p) B ρ L).bind _ = _
  unfold Res.bind
  rw [h]
  exact h2
theorem x_par {n m : Nat} (h : f B ρ L = .ok [x, y] L1) : sPar n m f B ρ L = .next ((ρ.set n (some x)).set m (some y)) L1 := by
  unfold sPar Res.st
  rw [h]
theorem x_par3 {n m l : Nat} (h : f B ρ L = .ok [x, y, z] L1) : sPar3 n m l f B ρ L = .next (((ρ.set n (some x)).set m (some y)).set l (some z)) L1 := by
  unfold sPar3 Res.st
  rw [h]
theorem x_dput (hv : v B ρ L = .ok z L1) (ho : o B ρ L1 = .ok x L2) (hi : i B ρ L2 = .ok y L3) (hy : vw B L3 y = some q) (hp : putAt B L3 x q z = some L4) : sDPut o i v B ρ L = .next ρ L4 := by
  unfold sDPut vwR ofOpt Res.st
  rw [hv]
  dsimp only
  rw [ho]
  dsimp only
  rw [hi]
  dsimp only
  rw [hy]
  dsimp only
  rw [hp]
/-! defs -/
def fnEnd : SR → Res W
  | .next _ L1 => .ok (.d .non) L1
  | .ret w L1 => .ok w L1
  | .exc c ds _ L1 => .exc c ds L1
  | _ => .bad
theorem x_fn {np ns : Nat} {b : SS} {ws : List W} {r1 : SR} {R : Res W} (hl : ws.length = np) (h : b B (ws.map some ++ List.replicate (ns - np) none) L = r1) (h2 : fnEnd r1 = R) : fnBody np ns b ws B L = R := by
  unfold fnBody
  rw [if_pos hl, h, ← h2]
  cases r1 <;> rfl
theorem x_pure {F : Fn} {ws : List W} {w' : W} (h : F ws (B ++ L) [] = .ok w L1) (ho : out (B ++ L).length L1 w = some w') : pureFn F ws B L = .ok w' L := by
  unfold pureFn
  rw [h]
  dsimp only
  rw [ho]
/-! operators -/
theorem o_fdiv {m n : Int} (h : 0 < n ∧ n.natAbs.log2 < 9000) : opFdiv (.int m) (.int n) = some (.int (m / n)) := if_pos h
theorem o_mod {m n : Int} (h : 0 < n) : opMod (.int m) (.int n) = some (.int (m % n)) := if_pos h
theorem o_pow {m n : Int} (h : 0 ≤ n ∧ n ≤ 1000000 ∧ m.natAbs < 2 ^ 64) : opPow (.int m) (.int n) = some (.int (m ^ n.toNat)) := if_pos h
theorem o_mul {m n : Int} (h : mulOk m n = true) : opMul (.int m) (.int n) = some (.int (m * n)) := if_pos h
theorem o_eq {d e : D} (h : (okD d && okD e) = true) : opEq d e = some (.bl (eqD d e)) := by
  cases d with
  | str x => cases e with
    | str y => rfl
    | _ => first | (unfold opEq; exact if_pos h) | (unfold opNe; exact if_pos h)
  | int m => cases e with
    | int n => rfl
    | _ => unfold opEq; exact if_pos h
  | lst xs => cases e with
    | lst ys => cases ys with
      | nil => cases xs <;> rfl
      | cons _ _ => unfold opEq; exact if_pos h
    | _ => unfold opEq; exact if_pos h
  | _ => cases e <;> (unfold opEq; exact if_pos h)
theorem o_ne {d e : D} (h : (okD d && okD e) = true) : opNe d e = some (.bl (!eqD d e)) := by
  cases d with
  | str x => cases e with
    | str y => rfl
    | _ => first | (unfold opEq; exact if_pos h) | (unfold opNe; exact if_pos h)
  | int m => cases e with
    | int n => rfl
    | _ => unfold opNe; exact if_pos h
  | lst xs => cases e with
    | lst ys => cases ys with
      | nil => cases xs <;> rfl
      | cons _ _ => unfold opNe; exact if_pos h
    | _ => unfold opNe; exact if_pos h
  | _ => cases e <;> (unfold opNe; exact if_pos h)
end
theorem r_ok {α : Type} {a : α} {L : Hs} : Res.ok a L = Res.ok a L := rfl
theorem v_d {B L : Hs} {p : D} : vw B L (.d p) = some p := rfl
theorem t_bl {k : Bool} : tru (.bl k) = some k := rfl
theorem t_int {n : Int} : tru (.int n) = some (decide (n ≠ 0)) := rfl
theorem t_non : tru .non = some false := rfl
theorem o_add {m n : Int} : opAdd (.int m) (.int n) = some (.int (m + n)) := rfl
theorem o_sub {m n : Int} : opSub (.int m) (.int n) = some (.int (m - n)) := rfl
theorem o_lt {m n : Int} : opLt (.int m) (.int n) = some (.bl (decide (m < n))) := rfl
theorem o_le {m n : Int} : opLe (.int m) (.int n) = some (.bl (decide (m ≤ n))) := rfl
theorem o_gt {m n : Int} : opGt (.int m) (.int n) = some (.bl (decide (n < m))) := rfl
theorem o_ge {m n : Int} : opGe (.int m) (.int n) = some (.bl (decide (n ≤ m))) := rfl
theorem o_eqI {m n : Int} : opEq (.int m) (.int n) = some (.bl (decide (m = n))) := rfl
theorem o_eqS {m n : List Nat} : opEq (.str m) (.str n) = some (.bl (decide (m = n))) := rfl
theorem o_neI {m n : Int} : opNe (.int m) (.int n) = some (.bl (!decide (m = n))) := rfl
theorem o_neS {m n : List Nat} : opNe (.str m) (.str n) = some (.bl (!decide (m = n))) := rfl
theorem b_len {xs : List D} : bLen [.lst xs] = some (.int xs.length) := rfl
theorem b_lenT {xs : List D} : bLen [.tup xs] = some (.int xs.length) := rfl
theorem b_lenS {xs : List D} : bLen [.scr xs] = some (.int xs.length) := rfl
theorem b_abs {n : Int} : bAbs [.int n] = some (.int (if n < 0 then -n else n)) := rfl
theorem b_int {n : Int} : bInt [.int n] = some (.int n) := rfl
theorem b_intB {k : Bool} : bInt [.bl k] = some (.int (if k then 1 else 0)) := rfl
theorem b_max {m n : Int} : bMax [.int m, .int n] = some (.int (if n > m then n else m)) := rfl
theorem b_min {m n : Int} : bMin [.int m, .int n] = some (.int (if n < m then n else m)) := rfl
theorem w_nil {B L : Hs} : ownAll B L [] = some ([], L) := rfl
theorem w_cons {B L L2 : Hs} {p : D} {ws : List W} {xs : List D} (h : ownAll B L ws = some (xs, L2)) : ownAll B L (.d p :: ws) = some (p :: xs, L2) := by
  show (match ownAll B L ws with | some (xs, L2) => some (p :: xs, L2) | none => none) = _
  rw [h]
section
variable {B L L1 L2 : Hs} {ρ ρ1 : Sl} {w x : W} {p r : D} {a : SE} {it : SI} {g : SG} {b : SS} {sr sr1 : SR} {xs ys : List D}
theorem x_iE (h : a B ρ L = .ok x L1) (hs : still B L1 x = some p) (hi : items p = some xs) : iE a B ρ L = .ok xs L1 := by
  unfold iE ofOpt Res.bind
  rw [h]
  dsimp only
  rw [hs]
  dsimp only
  rw [hi]
theorem x_iRange {j : Int} (h : a B ρ L = .ok x L1) (hx : vw B L1 x = some p) (hj : intD p = some j) (hg : -(2 ^ 62) ≤ j ∧ j < 2 ^ 62) : iRange a B ρ L = .ok ((List.range j.toNat).map fun (i : Nat) => D.int i) L1 := by
  unfold iRange vwR ofOpt guardR Res.bind
  rw [h]
  dsimp only
  rw [hx]
  dsimp only
  rw [hj]
  dsimp only
  rw [decide_eq_true hg]
theorem x_for (hi : it B ρ L = .ok xs L1) (h : forGo g b B xs ρ L1 = sr) : sFor it g b B ρ L = sr := by
  unfold sFor Res.st
  rw [hi]
  exact h
theorem x_fornil : forGo g b B [] ρ L = .next ρ L := rfl
theorem x_forcons (hg : g (.d p) B ρ L = .ok ρ1 L1) (hb : b B ρ1 L1 = sr1) (h : sr1.turn (fun ρ2 L2 => forGo g b B xs ρ2 L2) = sr) : forGo g b B (p :: xs) ρ L = sr := by
  show (g (.d p) B ρ L).st ρ _ = sr
  unfold Res.st
  rw [hg]
  dsimp only
  rw [hb]
  exact h
theorem x_turnN {k : Sl → Hs → SR} (h : k ρ L = sr) : (SR.next ρ L).turn k = sr := h
theorem x_turnC {k : Sl → Hs → SR} (h : k ρ L = sr) : (SR.cnt ρ L).turn k = sr := h
theorem x_turnB {k : Sl → Hs → SR} : (SR.brk ρ L).turn k = .next ρ L := rfl
theorem x_turnR {k : Sl → Hs → SR} : (SR.ret w L).turn k = .ret w L := rfl
theorem e_ret : fnEnd (.ret w L) = .ok w L := rfl
theorem e_next : fnEnd (.next ρ L) = .ok (.d .non) L := rfl
theorem o_out {n : Nat} : out n L (.d p) = some (.d p) := rfl
theorem a_lst (h : xs.length + ys.length ≤ sizeL) : opAdd (.lst xs) (.lst ys) = some (.lst (xs ++ ys)) := if_pos h
theorem a_tup (h : xs.length + ys.length ≤ sizeL) (hr : (xs.isEmpty || ys.isEmpty || !rowy (xs ++ ys)) = true) : opAdd (.tup xs) (.tup ys) = some (.tup (xs ++ ys)) := if_pos ⟨h, hr⟩
end
section
variable {B L L1 L2 L3 L4 : Hs} {ρ ρ1 ρ2 : Sl} {w x y z : W} {p q r s : D} {a b c o i v : SE} {f g : SA} {t u t1 t2 : ST} {k k1 k2 : Bool} {n : Nat} {ws : List W}
theorem x_app (ho : o B ρ L = .ok x L1) (h1 : (lstAt B L1 x).isSome = true) (ha : a B ρ L1 = .ok y L2) (h2 : lstAt B L2 x = some (n, ws)) (hl : ws.length < sizeL) (hL : L2.set n (.lst (ws ++ [y])) = L3) : eApp o a B ρ L = .ok (.d .non) L3 := by
  unfold eApp guardR Res.bind
  rw [ho]
  dsimp only
  rw [h1]
  dsimp only
  rw [ha]
  dsimp only
  rw [h2]
  dsimp only
  rw [if_pos hl, hL]
theorem x_ext {ys : List D} (ho : o B ρ L = .ok x L1) (h1 : (lstAt B L1 x).isSome = true) (ha : a B ρ L1 = .ok y L2) (hy : vw B L2 y = some p) (hp : lstD p = some ys) (h2 : lstAt B L2 x = some (n, ws)) (hl : ws.length + ys.length ≤ sizeL) (hL : L2.set n (.lst (ws ++ ys.map .d)) = L3) : eExt o a B ρ L = .ok (.d .non) L3 := by
  unfold eExt guardR vwR ofOpt Res.bind
  rw [ho]
  dsimp only
  rw [h1]
  dsimp only
  rw [ha]
  dsimp only
  rw [hy]
  dsimp only
  rw [hp]
  dsimp only
  rw [h2]
  dsimp only
  rw [if_pos hl, hL]
theorem x_pop (ho : o B ρ L = .ok x L1) (h2 : lstAt B L1 x = some (n, ws)) (hl : ws[ws.length - 1]? = some y) (hL : L1.set n (.lst ws.dropLast) = L3) : ePop o B ρ L = .ok y L3 := by
  unfold ePop Res.bind
  rw [ho]
  dsimp only
  rw [h2]
  dsimp only
  rw [hl, hL]
theorem x_inN {ks : List D} {neg : Bool} (h : a B ρ L = .ok x L1) (h2 : b B ρ L1 = .ok (.ref n) L2) (hx : vw B L2 x = some p) (hd : look B L2 n = some (.dcn ks ws)) (hk : isNK p = true) (he : (if neg = true then !nkIn p ks else nkIn p ks) = k) : eInN neg a b B ρ L = .ok (.d (.bl k)) L2 := by
  unfold eInN vwR ofOpt Res.bind
  rw [h]
  dsimp only
  rw [h2]
  dsimp only
  rw [hx]
  dsimp only
  rw [hd]
  dsimp only
  rw [if_pos hk, he]
theorem x_gitem (ho : o B ρ L = .ok x L1) (hi : i B ρ L1 = .ok y L2) (hy : vw B L2 y = some p) (hp : putIn B L2 x p w = some L3) : gItem o i w B ρ L = .ok ρ L3 := by
  unfold gItem vwR ofOpt Res.bind
  rw [ho]
  dsimp only
  rw [hi]
  dsimp only
  rw [hy]
  dsimp only
  rw [hp]
theorem x_listM {xs : List D} (h : a B ρ L = .ok x L1) (hx : vw B L1 x = some p) (hs : seqS p = some xs) : eListM a B ρ L = .ok (.ref (B.length + L1.length)) (L1 ++ [.lst (xs.map .d)]) := by
  unfold eListM vwR ofOpt Res.bind
  rw [h]
  dsimp only
  rw [hx]
  dsimp only
  rw [hs]
theorem x_parN {is : List Nat} (h : f B ρ L = .ok ws L1) (hs : setAll is ws ρ = some ρ1) (hl : ws.length ≤ sizeL) : sParN is f B ρ L = .next ρ1 L1 := by
  unfold sParN Res.st
  rw [h]
  dsimp only
  rw [hs]
  dsimp only
  rw [if_pos hl]
theorem x_tIf {R : Res Bool} (h : t B ρ L = .ok k L1) (h2 : Br k (t1 B ρ L1 = R) (t2 B ρ L1 = R)) : tIfT t t1 t2 B ρ L = R := by
  unfold tIfT Res.bind
  rw [h]
  cases k with
  | true => exact h2.1 rfl
  | false => exact h2.2 rfl
theorem l_own : lstAt B [.lst ws] (.ref B.length) = some (0, ws) := by
  unfold lstAt
  simp
theorem l_some : (lstAt B [.lst ws] (.ref B.length)).isSome = true := by rw [l_own]; rfl
end
end Ev

set_option linter.all false
set_option maxRecDepth 100000
set_option autoImplicit false
/-! EvY: how long a repr may be. -/
namespace Ev
open PySem
mutual
def est : D → Nat
  | .int i => i.natAbs.log2 + 2
  | .str s => 10 * s.length + 2
  | .tup xs => 3 + ests xs
  | .lst xs => 3 + ests xs
  | _ => 5
def ests : List D → Nat
  | [] => 0
  | x :: xs => est x + 2 + ests xs
end
theorem join_le (ts : List Str) : (Str.join ", " ts).length ≤ piled ts := by
  by_cases h : ts = []
  · subst h; decide
  · have := join_length_add ts h
    omega
theorem tupT_le (ts : List Str) : (tupleText ts).length ≤ piled ts + 3 := by
  unfold tupleText
  rw [strLen_append, strLen_append]
  have h1 := join_le ts
  have h2 : ((if ts.length == 1 then ",)" else ")" : String) : Str).length ≤ 2 := by split <;> decide
  have h3 : ((("(" : String) : Str)).length = 1 := by decide
  omega
theorem from_le : ∀ (ts : List Str) (k : Nat) (acc : Str), (textFrom k acc ts).length ≤ acc.length + piled ts
  | [], k, acc => Nat.le_refl _
  | t :: r, k, acc => by
    have h := from_le r (k + 1) (acc ++ (if k > 0 then ", " else "" : String) ++ t)
    have e : ((if k > 0 then ", " else "" : String) : Str).length ≤ 2 := by split <;> decide
    rw [strLen_append, strLen_append] at h
    rw [piled_cons]
    show (textFrom (k + 1) _ r).length ≤ _
    omega
theorem lstT_le (ts : List Str) : (listText ts).length ≤ piled ts + 3 := by
  unfold listText
  rw [strLen_append]
  have h1 := from_le ts 0 "["
  have h2 : ((("[" : String) : Str)).length = 1 := by decide
  have h3 : ((("]" : String) : Str)).length = 1 := by decide
  omega
mutual
theorem shown_le : ∀ d : D, dOk d = true → (toPy d).shown.length ≤ est d
  | .non, _ => by decide
  | .bl true, _ => by decide
  | .bl false, _ => by decide
  | .int i, _ => by
    show (Str.ofString (toString i)).length ≤ i.natAbs.log2 + 2
    have := int_text_length_le (a := i) (k := i.natAbs.log2 + 1) (by omega) (by omega)
    have e : (Str.ofString (toString i)).length = (toString i).length := ofString_length _
    omega
  | .str s, h => by
    show (reprText ⟨s.toArray⟩).length ≤ 10 * s.length + 2
    have := StrLaws.reprText_len ⟨s.toArray⟩ (fun c hc => by
      have h' : s.all (· < 0x110000) = true := h
      have := List.all_eq_true.mp h' c (by simpa using hc)
      have : c < 0x110000 := by simpa using this
      omega)
    have e : (⟨s.toArray⟩ : Str).length = s.length := by simp [Str.length]
    omega
  | .tup xs, h => by
    show (tupleText (PyData.shownAll (toPys xs))).length ≤ 3 + ests xs
    have h1 := tupT_le (PyData.shownAll (toPys xs))
    have h2 := shows_le xs h
    omega
  | .lst xs, h => by
    show (listText (PyData.shownAll (toPys xs))).length ≤ 3 + ests xs
    have h1 := lstT_le (PyData.shownAll (toPys xs))
    have h2 := shows_le xs h
    omega
theorem shows_le : ∀ ds : List D, dOks ds = true → piled (PyData.shownAll (toPys ds)) ≤ ests ds
  | [], _ => Nat.le_refl _
  | d :: ds, h => by
    have h' : (dOk d && dOks ds) = true := h
    rw [Bool.and_eq_true] at h'
    have h1 := shown_le d h'.1
    have h2 := shows_le ds h'.2
    show piled (PyData.shown (toPy d) :: PyData.shownAll (toPys ds)) ≤ est d + 2 + ests ds
    rw [piled_cons]
    omega
end
mutual
def shOk : D → Bool
  | .int i => decide (i.natAbs.log2 < 1920)
  | .tup xs => shOks xs
  | .lst xs => shOks xs
  | _ => true
def shOks : List D → Bool
  | [] => true
  | x :: xs => shOk x && shOks xs
end
mutual
theorem sh_ok : ∀ d : D, dOk d = true → shOk d = true → (toPy d).showable = true
  | .non, _, _ => rfl
  | .bl _, _, _ => rfl
  | .int i, _, h => h
  | .str _, _, _ => rfl
  | .tup xs, h, h2 => shs_ok xs h h2
  | .lst xs, h, h2 => shs_ok xs h h2
theorem shs_ok : ∀ ds : List D, dOks ds = true → shOks ds = true → PyData.showableAll (toPys ds) = true
  | [], _, _ => rfl
  | d :: ds, h, h2 => by
    have h' : (dOk d && dOks ds) = true := h
    have h2' : (shOk d && shOks ds) = true := h2
    rw [Bool.and_eq_true] at h' h2'
    show (PyData.showable (toPy d) && PyData.showableAll (toPys ds)) = true
    rw [sh_ok d h'.1 h2'.1, shs_ok ds h'.2 h2'.2]
    rfl
end
/-- repr is told -/
theorem repr_tup {xs : List D} (h1 : okD (.tup xs) = true) (h2 : shOks xs = true) (h3 : 3 + ests xs ≤ sizeL) : ∃ s, bRepr [.tup xs] = some (.str s) := by
  have ok : dOk (.tup xs) = true := by
    unfold okD at h1
    rw [Bool.and_eq_true] at h1
    exact h1.1
  exact ⟨_, if_pos ⟨h1, sh_ok (.tup xs) ok h2, Nat.le_trans (shown_le (.tup xs) ok) h3⟩⟩
theorem repr_lst {xs : List D} (h1 : okD (.lst xs) = true) (h2 : shOks xs = true) (h3 : 3 + ests xs ≤ sizeL) : ∃ s, bRepr [.lst xs] = some (.str s) := by
  have ok : dOk (.lst xs) = true := by
    unfold okD at h1
    rw [Bool.and_eq_true] at h1
    exact h1.1
  exact ⟨_, if_pos ⟨h1, sh_ok (.lst xs) ok h2, Nat.le_trans (shown_le (.lst xs) ok) h3⟩⟩
end Ev

set_option linter.all false
set_option maxRecDepth 100000
namespace Ev

namespace K00
def ans0 : Nat → Option Bool := fun i => ([false, false, true, false, false, false, false, false, false, false, false, false, false, false, false, false, false, false] : List Bool)[i]?
def ans1 : Nat → Option Bool := fun i => ([false, true, false, false, false, false, false, false, false, false, false, false, false, false, false, false, false, false] : List Bool)[i]?
def ans2 : Nat → Option Bool := fun i => ([true, false, false, false, false, false, false, false, false, false, false, false, false, false, false, false, false, false] : List Bool)[i]?
def ans3 : Nat → Option Bool := fun i => ([false, false, false, false, false, false, false, false, false, false, false, true, false, false, false, false, false, false] : List Bool)[i]?
def ans4 : Nat → Option Bool := fun i => ([false, false, false, false, false, false, false, true, false, false, false, false, false, false, false, false, false, false] : List Bool)[i]?
def ans5 : Nat → Option Bool := fun i => ([false, false, false, true, false, false, false, false, false, false, false, false, false, false, false, false, false, false] : List Bool)[i]?
def ans6 : Nat → Option Bool := fun i => ([false, false, false, false, false, true, false, false, false, false, false, false, false, false, false, false, false, false] : List Bool)[i]?
def ans7 : Nat → Option Bool := fun i => ([false, false, false, false, true, false, false, false, false, false, false, false, false, false, false, false, false, false] : List Bool)[i]?
def ans8 : Nat → Option Bool := fun i => ([false, false, false, false, false, false, false, false, false, false, false, false, false, false, false, true, false, false] : List Bool)[i]?
def ans9 : Nat → Option Bool := fun i => ([false, false, false, false, false, false, false, false, false, true, false, false, false, false, false, false, false, false] : List Bool)[i]?
def ans10 : Nat → Option Bool := fun i => ([false, false, false, false, false, false, false, false, true, false, false, false, false, false, false, false, false, false] : List Bool)[i]?
def ans11 : Nat → Option Bool := fun i => ([false, false, false, false, false, false, true, false, false, false, false, false, false, false, false, false, false, false] : List Bool)[i]?
def ans12 : Nat → Option Bool := fun i => ([false, false, false, false, false, false, false, false, false, false, false, false, false, false, true, false, false, false] : List Bool)[i]?
def ans13 : Nat → Option Bool := fun i => ([false, false, false, false, false, false, false, false, false, false, false, false, false, true, false, false, false, false] : List Bool)[i]?
def ans14 : Nat → Option Bool := fun i => ([false, false, false, false, false, false, false, false, false, false, false, false, true, false, false, false, false, false] : List Bool)[i]?
def ans15 : Nat → Option Bool := fun i => ([false, false, false, false, false, false, false, false, false, false, true, false, false, false, false, false, false, false] : List Bool)[i]?
def ans16 : Nat → Option Bool := fun i => ([false, false, false, false, false, false, false, false, false, false, false, false, false, false, false, false, false, true] : List Bool)[i]?
def ans17 : Nat → Option Bool := fun i => ([false, false, false, false, false, false, false, false, false, false, false, false, false, false, false, false, true, false] : List Bool)[i]?
def ans18 : Nat → Option Bool := fun i => ([false, false, false, false, false, false, false, false, false, false, false, false, true, true, true, true, true, false] : List Bool)[i]?
def ans19 : Nat → Option Bool := fun i => ([false, false, false, false, false, false, false, false, false, false, false, false, false, false, false, false, false, true] : List Bool)[i]?
def ans20 : Nat → Option Bool := fun i => ([false, false, false, false, false, false, false, false, false, false, false, false, true, true, true, true, true, false] : List Bool)[i]?
def ans21 : Nat → Option Bool := fun i => ([true, true, true, true, true, true, true, true, true, true, true, true, false, false, false, false, false, false] : List Bool)[i]?
def cs_value : Nat → Bool := fun i => ([true, true, true, true, false, false, false, true, false, false, false, true, false, false, false, true, false, false] : List Bool).getD i false
def cs_reason : Nat → Bool := fun i => ([false, false, false, false, true, true, false, false, false, false, false, false, false, false, false, false, false, false] : List Bool).getD i false
def cs_index : Nat → Bool := fun i => ([false, false, false, false, false, false, true, false, false, false, false, false, false, false, false, false, false, false] : List Bool).getD i false
def cs_test : Nat → Bool := fun i => ([false, false, false, false, false, false, false, false, true, false, false, false, false, false, false, false, false, false] : List Bool).getD i false
def cs_cut : Nat → Bool := fun i => ([false, false, false, false, false, false, false, false, false, true, false, false, false, false, false, false, false, false] : List Bool).getD i false
def cs_fact : Nat → Bool := fun i => ([false, false, false, false, false, false, false, false, false, false, false, false, true, false, false, false, false, false] : List Bool).getD i false
def cs_thing : Nat → Bool := fun i => ([false, false, false, false, false, false, false, false, false, false, false, false, false, true, false, false, false, false] : List Bool).getD i false
def cs_word : Nat → Bool := fun i => ([false, false, false, false, false, false, false, false, false, false, false, false, false, false, true, false, false, false] : List Bool).getD i false
def cs_count : Nat → Bool := fun i => ([false, false, false, false, false, false, false, false, false, false, false, false, false, false, false, false, true, false] : List Bool).getD i false
def cs_most : Nat → Bool := fun i => ([false, false, false, false, false, false, false, false, false, false, false, false, false, false, false, false, false, true] : List Bool).getD i false
def F__law_pen : Fn := fnBody 1 1 (sRet (eDctM ((eC (.str [99, 101, 108, 108, 115]), eB bList (aCons (eSl (eVar 0) (oNone) (oSome (eC (.int 63)))) (aNil))) :: (eC (.str [97, 116]), eC (.int 0)) :: (eC (.str [114, 101, 115, 116]), eC (.int 0)) :: [])))
def F__law_draw : Fn := fnBody 2 6 (sSeq (sIf (tE (e2 opGt (e2 opIx (eVar 0) (eC (.str [114, 101, 115, 116]))) (eC (.int 0)))) (sSeq (sAsg (e2 opMod (eB bInt (aCons (e2 opIx (eVar 0) (eC (.str [114, 101, 115, 116]))) (aNil))) (eVar 1)) (gVar 5))
  (sSeq (sAsg (e2 opFdiv (e2 opIx (eVar 0) (eC (.str [114, 101, 115, 116]))) (eVar 1)) (gItem (eVar 0) (eC (.str [114, 101, 115, 116]))))
  (sRet (eVar 5)))) (sNil))
  (sSeq (sAsg (e2 opIx (eVar 0) (eC (.str [97, 116]))) (gVar 2))
  (sSeq (sAsg (e2 opAdd (eVar 2) (eC (.int 1))) (gItem (eVar 0) (eC (.str [97, 116]))))
  (sSeq (sAsg (e2 opAdd (e2 opMul (eC (.int 61)) (eVar 2)) (eC (.int 23))) (gVar 3))
  (sSeq (sIf (tE (e2 opNe (e2 opIx (eVar 0) (eC (.str [99, 101, 108, 108, 115]))) (eLst (aNil)))) (sAsg (e2 opIx (e2 opIx (eVar 0) (eC (.str [99, 101, 108, 108, 115]))) (e2 opMod (eB bInt (aCons (eVar 2) (aNil))) (eB bLen (aCons (e2 opIx (eVar 0) (eC (.str [99, 101, 108, 108, 115]))) (aNil))))) (gVar 3)) (sNil))
  (sSeq (sIf (tAnd (tE (e2 opLt (eVar 2) (eB bLen (aCons (e2 opIx (eVar 0) (eC (.str [99, 101, 108, 108, 115]))) (aNil))))) (tE (e2 opGe (eB bAbs (aCons (eVar 3) (aNil))) (e2 opPow (eC (.int 10)) (eC (.int 18)))))) (sSeq (sAsg (e2 opFdiv (e2 opSub (eB bAbs (aCons (eVar 3) (aNil))) (e2 opPow (eC (.int 10)) (eC (.int 18)))) (eVar 1)) (gItem (eVar 0) (eC (.str [114, 101, 115, 116]))))
  (sRet (e2 opMod (e2 opSub (eB bAbs (aCons (eVar 3) (aNil))) (e2 opPow (eC (.int 10)) (eC (.int 18)))) (eVar 1)))) (sNil))
  (sSeq (sAsg (e2 opMod (eB bInt (aCons (e2 opAdd (e2 opAdd (e2 opMul (e2 opMod (eB bInt (aCons (eVar 3) (aNil))) (eC (.int 4294966927))) (eC (.int 57331))) (e2 opMul (e2 opMul (eC (.int 39119)) (eVar 2)) (eVar 2))) (eC (.int 417))) (aNil))) (eC (.int 4294966909))) (gVar 4))
  (sSeq (sAsg (e2 opMod (eB bInt (aCons (e2 opAdd (e2 opAdd (e2 opAdd (e2 opMul (eVar 4) (eVar 4)) (e2 opMul (eC (.int 91193)) (eVar 4))) (e2 opMul (eC (.int 29)) (eVar 2))) (eC (.int 5))) (aNil))) (eC (.int 4294966877))) (gVar 4))
  (sRet (e2 opMod (eB bInt (aCons (e2 opFdiv (e2 opMod (eB bInt (aCons (e2 opMul (eVar 4) (e2 opAdd (eVar 4) (eC (.int 65521)))) (aNil))) (eC (.int 4294966813))) (eC (.int 64))) (aNil))) (eVar 1)))))))))))
def F__law_pick : Fn := fnBody 2 2 (sRet (e2 opIx (eVar 1) (eCall 2 F__law_draw (aCons (eVar 0) (aCons (eB bLen (aCons (eVar 1) (aNil))) (aNil))))))
def F__law_values : Fn := pureFn (fnBody 1 4 (sSeq (sAsg (eLstM (aCons (eTup (aCons (eExn 0 [118, 97, 108, 117, 101] (aCons (eVar 0) (aNil))) (aCons (eExn 0 [118, 97, 108, 117, 101] (aCons (eVar 0) aNil)) (aNil)))) (aCons (eTup (aCons (eExn 1 [118, 97, 108, 117, 101] (aCons (eVar 0) (aNil))) (aCons (eExn 1 [118, 97, 108, 117, 101] (aCons (eVar 0) aNil)) (aNil)))) (aNil)))) (gVar 1))
  (sSeq (sExpr (eApp (eVar 1) (eTup (aCons (eExn 2 [118, 97, 108, 117, 101] (aCons (eVar 0) (aNil))) (aCons (eExn 2 [118, 97, 108, 117, 101] (aCons (eVar 0) aNil)) (aNil))))))
  (sSeq (sAsg (e2 opAdd (eVar 1) (eLst (aCons (eTup (aCons (eExn 3 [118, 97, 108, 117, 101] (aCons (eVar 0) (aNil))) (aCons (eExn 3 [118, 97, 108, 117, 101] (aCons (eVar 0) aNil)) (aNil)))) (aCons (eTup (aCons (eExn 7 [118, 97, 108, 117, 101] (aCons (eVar 0) (aNil))) (aCons (eExn 7 [118, 97, 108, 117, 101] (aCons (eVar 0) aNil)) (aNil)))) (aNil))))) (gVar 1))
  (sSeq (sAsg (e2 opAdd (eVar 1) (eLst (aCons (eTup (aCons (eExn 11 [118, 97, 108, 117, 101] (aCons (eVar 0) (aNil))) (aCons (eExn 11 [118, 97, 108, 117, 101] (aCons (eVar 0) aNil)) (aNil)))) (aCons (eTup (aCons (eExn 15 [118, 97, 108, 117, 101] (aCons (eVar 0) (aNil))) (aCons (eExn 15 [118, 97, 108, 117, 101] (aCons (eVar 0) aNil)) (aNil)))) (aNil))))) (gVar 1))
  (sRet (eComp (iE (eVar 1)) (gTup (gVar 2 :: gVar 3 :: [])) (tYes) (eTup (aCons (eVar 2) (aCons (eVar 3) (aCons (e1 (fldXc cs_value [118, 97, 108, 117, 101]) (eVar 2)) (aCons (e1 (fldXc cs_value [118, 97, 108, 117, 101]) (eVar 3)) (aNil)))))) [2, 3])))))))
def F__law_others : Fn := pureFn (fnBody 1 4 (sSeq (sAsg (eLstM (aNil)) (gVar 1))
  (sSeq (sFor (iE (eLst (aCons (eTup (aCons (eExn 4 [114, 101, 97, 115, 111, 110] (aCons (eVar 0) (aNil))) (aCons (eExn 4 [114, 101, 97, 115, 111, 110] (aCons (eVar 0) aNil)) (aNil)))) (aCons (eTup (aCons (eExn 5 [114, 101, 97, 115, 111, 110] (aCons (eVar 0) (aNil))) (aCons (eExn 5 [114, 101, 97, 115, 111, 110] (aCons (eVar 0) aNil)) (aNil)))) (aNil))))) (gTup (gVar 2 :: gVar 3 :: [])) (sExpr (eApp (eVar 1) (eTup (aCons (eVar 2) (aCons (eVar 3) (aCons (e1 (fldXc cs_reason [114, 101, 97, 115, 111, 110]) (eVar 2)) (aCons (e1 (fldXc cs_reason [114, 101, 97, 115, 111, 110]) (eVar 3)) (aNil)))))))))
  (sSeq (sPar 2 3 (aCons (eExn 6 [105, 110, 100, 101, 120] (aCons (eVar 0) (aNil))) (aCons (eExn 6 [105, 110, 100, 101, 120] (aCons (eVar 0) aNil)) (aNil))))
  (sSeq (sExpr (eApp (eVar 1) (eTup (aCons (eVar 2) (aCons (eVar 3) (aCons (e1 (fldXc cs_index [105, 110, 100, 101, 120]) (eVar 2)) (aCons (e1 (fldXc cs_index [105, 110, 100, 101, 120]) (eVar 3)) (aNil))))))))
  (sSeq (sPar 2 3 (aCons (eExn 8 [116, 101, 115, 116] (aCons (eVar 0) (aNil))) (aCons (eExn 8 [116, 101, 115, 116] (aCons (eVar 0) aNil)) (aNil))))
  (sSeq (sExpr (eApp (eVar 1) (eTup (aCons (eVar 2) (aCons (eVar 3) (aCons (e1 (fldXc cs_test [116, 101, 115, 116]) (eVar 2)) (aCons (e1 (fldXc cs_test [116, 101, 115, 116]) (eVar 3)) (aNil))))))))
  (sSeq (sPar 2 3 (aCons (eExn 9 [99, 117, 116] (aCons (eVar 0) (aNil))) (aCons (eExn 9 [99, 117, 116] (aCons (eVar 0) aNil)) (aNil))))
  (sSeq (sExpr (eApp (eVar 1) (eTup (aCons (eVar 2) (aCons (eVar 3) (aCons (e1 (fldXc cs_cut [99, 117, 116]) (eVar 2)) (aCons (e1 (fldXc cs_cut [99, 117, 116]) (eVar 3)) (aNil))))))))
  (sSeq (sPar 2 3 (aCons (eExn 12 [102, 97, 99, 116] (aCons (eVar 0) (aNil))) (aCons (eExn 12 [102, 97, 99, 116] (aCons (eVar 0) aNil)) (aNil))))
  (sSeq (sExpr (eApp (eVar 1) (eTup (aCons (eVar 2) (aCons (eVar 3) (aCons (e1 (fldXc cs_fact [102, 97, 99, 116]) (eVar 2)) (aCons (e1 (fldXc cs_fact [102, 97, 99, 116]) (eVar 3)) (aNil))))))))
  (sSeq (sPar 2 3 (aCons (eExn 13 [116, 104, 105, 110, 103] (aCons (eVar 0) (aNil))) (aCons (eExn 13 [116, 104, 105, 110, 103] (aCons (eVar 0) aNil)) (aNil))))
  (sSeq (sExpr (eApp (eVar 1) (eTup (aCons (eVar 2) (aCons (eVar 3) (aCons (e1 (fldXc cs_thing [116, 104, 105, 110, 103]) (eVar 2)) (aCons (e1 (fldXc cs_thing [116, 104, 105, 110, 103]) (eVar 3)) (aNil))))))))
  (sSeq (sPar 2 3 (aCons (eExn 14 [119, 111, 114, 100] (aCons (eVar 0) (aNil))) (aCons (eExn 14 [119, 111, 114, 100] (aCons (eVar 0) aNil)) (aNil))))
  (sSeq (sExpr (eApp (eVar 1) (eTup (aCons (eVar 2) (aCons (eVar 3) (aCons (e1 (fldXc cs_word [119, 111, 114, 100]) (eVar 2)) (aCons (e1 (fldXc cs_word [119, 111, 114, 100]) (eVar 3)) (aNil))))))))
  (sSeq (sPar 2 3 (aCons (eExn 16 [99, 111, 117, 110, 116] (aCons (eVar 0) (aNil))) (aCons (eExn 16 [99, 111, 117, 110, 116] (aCons (eVar 0) aNil)) (aNil))))
  (sSeq (sExpr (eApp (eVar 1) (eTup (aCons (eVar 2) (aCons (eVar 3) (aCons (e1 (fldXc cs_count [99, 111, 117, 110, 116]) (eVar 2)) (aCons (e1 (fldXc cs_count [99, 111, 117, 110, 116]) (eVar 3)) (aNil))))))))
  (sSeq (sPar 2 3 (aCons (eExn 17 [109, 111, 115, 116] (aCons (eVar 0) (aNil))) (aCons (eExn 17 [109, 111, 115, 116] (aCons (eVar 0) aNil)) (aNil))))
  (sSeq (sExpr (eApp (eVar 1) (eTup (aCons (eVar 2) (aCons (eVar 3) (aCons (e1 (fldXc cs_most [109, 111, 115, 116]) (eVar 2)) (aCons (e1 (fldXc cs_most [109, 111, 115, 116]) (eVar 3)) (aNil))))))))
  (sRet (eVar 1)))))))))))))))))))))
def F__law_kinds_of : Fn := pureFn (fnBody 1 2 (sSeq (sAsg (eLst (aCons (e1 (opIsX ans2) (eVar 0)) (aCons (e1 (opIsX ans1) (eVar 0)) (aCons (e1 (opIsX ans0) (eVar 0)) (aNil))))) (gVar 1))
  (sSeq (sAsg (e2 opAdd (eVar 1) (eLst (aCons (e1 (opIsX ans5) (eVar 0)) (aCons (e1 (opIsX ans4) (eVar 0)) (aCons (e1 (opIsX ans3) (eVar 0)) (aNil)))))) (gVar 1))
  (sSeq (sAsg (e2 opAdd (eVar 1) (eLst (aCons (e1 (opIsX ans8) (eVar 0)) (aCons (e1 (opIsX ans7) (eVar 0)) (aCons (e1 (opIsX ans6) (eVar 0)) (aNil)))))) (gVar 1))
  (sSeq (sAsg (e2 opAdd (eVar 1) (eLst (aCons (e1 (opIsX ans11) (eVar 0)) (aCons (e1 (opIsX ans10) (eVar 0)) (aCons (e1 (opIsX ans9) (eVar 0)) (aNil)))))) (gVar 1))
  (sSeq (sAsg (e2 opAdd (eVar 1) (eLst (aCons (e1 (opIsX ans14) (eVar 0)) (aCons (e1 (opIsX ans13) (eVar 0)) (aCons (e1 (opIsX ans12) (eVar 0)) (aNil)))))) (gVar 1))
  (sRet (e2 opAdd (eVar 1) (eLst (aCons (e1 (opIsX ans17) (eVar 0)) (aCons (e1 (opIsX ans16) (eVar 0)) (aCons (e1 (opIsX ans15) (eVar 0)) (aNil)))))))))))))
def F__law_odd : Fn := fnBody 1 2 (sSeq (sAsg (eLstM (aCons (eC .non) (aCons (eC (.bl true)) (aCons (eC (.bl false)) (aCons (eC (.int 0)) (aCons (eC (.int 1)) (aCons (e1 opNeg (eC (.int 1))) (aCons (eC (.int 99)) (aCons (eC (.int 100)) (aCons (e1 opNeg (eC (.int 100))) (aCons (e2 opMul (e2 opPow (eC (.int 10)) (eC (.int 60))) (e2 opPow (eC (.int 10)) (eC (.int 40)))) (aCons (eC (.str [])) (aCons (eC (.str [97])) (aCons (eC (.str [65])) (aCons (eC (.str [97, 98, 99, 100, 101, 102, 103])) (aCons (eC (.str [97, 32, 98])) (aCons (eC (.str [115, 101, 116])) (aNil)))))))))))))))))) (gVar 1))
  (sSeq (sAsg (eAddM (eVar 1) (eLst (aCons (eTup (aNil)) (aCons (eTup (aCons (eC (.str [97])) (aNil))) (aCons (eTup (aCons (eC (.str [102, 97, 105, 108])) (aNil))) (aCons (eLst (aNil)) (aCons (eLst (aCons (eC (.str [97])) (aNil))) (aCons (eC (.dct [] [])) (aCons (eDct ((eC (.str [97]), eC (.int 1)) :: [])) (aCons (eTup (aCons (eC .non) (aNil))) (aCons (eTup (aCons (eTup (aNil)) (aNil))) (aCons (eTup (aCons (eC (.str [118, 97, 108, 117, 101])) (aCons (eC (.int 1)) (aNil)))) (aCons (eTup (aCons (eC (.str [98, 111, 100, 121])) (aNil))) (aCons (eLst (aCons (eTup (aCons (eC (.str [102, 97, 105, 108])) (aNil))) (aNil))) (aNil))))))))))))))) (gVar 1))
  (sSeq (sExpr (eApp (eVar 1) (eC (.str [102, 97, 105, 108]))))
  (sRet (eCall 2 F__law_pick (aCons (eVar 0) (aCons (e2 opAdd (eVar 1) (eLst (aCons (eTup (aCons (eC (.str [114, 111, 119])) (aCons (eC (.str [97])) (aNil)))) (aCons (eTup (aCons (eC (.str [115, 101, 110, 100])) (aCons (eC (.str [97])) (aCons (eC .non) (aCons (eTup (aCons (eC (.str [98, 111, 100, 121])) (aNil))) (aNil)))))) (aCons (eTup (aCons (eC (.str [97])) (aCons (eC (.str [98])) (aCons (eC (.int 1)) (aNil))))) (aCons (eTup (aCons (eTup (aCons (eC (.str [102, 97, 105, 108])) (aNil))) (aNil))) (aNil))))))) (aNil))))))))
def F__law_base : Fn := pureFn (fnBody 1 1 (sSeq (sIf (tE (e1 (opIsX ans16) (eVar 0))) (sRet (eC (.int 2))) (sNil))
  (sRet (eIf (tE (e1 (opIsX ans18) (eVar 0))) (eC (.int 1)) (eC (.int 0))))))
def F_law : Fn := fnBody 1 13 (sSeq (sAsg (eCall 1 F__law_pen (aCons (eVar 0) (aNil))) (gVar 1))
  (sSeq (sFor (iRange (eC (.int 12))) (gVar 2) (sSeq (sAsg (eCall 2 F__law_pick (aCons (eVar 1) (aCons (eLst (aCons (eCall 1 F__law_odd (aCons (eVar 1) (aNil))) (aCons (eCall 1 F__law_odd (aCons (eVar 1) (aNil))) (aCons (eTup (aCons (eCall 1 F__law_odd (aCons (eVar 1) (aNil))) (aCons (eCall 1 F__law_odd (aCons (eVar 1) (aNil))) (aNil)))) (aNil))))) (aNil)))) (gVar 4))
  (sSeq (sAsg (e2 opAdd (eCall 1 F__law_values (aCons (eVar 4) (aNil))) (eCall 1 F__law_others (aCons (eVar 4) (aNil)))) (gVar 5))
  (sFor (iRange (eB bLen (aCons (eVar 5) (aNil)))) (gVar 6) (sSeq (sAsg (e2 opIx (eVar 5) (eVar 6)) (gTup (gVar 7 :: gVar 8 :: gVar 9 :: gVar 10 :: [])))
  (sSeq (sIf (tE (e2 opNe (eB bReprX (aCons (eLst (aCons (eVar 9) (aCons (eVar 10) (aNil)))) (aNil))) (eB bReprX (aCons (eLst (aCons (eVar 4) (aCons (eVar 4) (aNil)))) (aNil))))) (sRet (eC (.bl false))) (sNil))
  (sFor (iE (eTup (aCons (eVar 7) (aCons (eVar 8) (aNil))))) (gVar 3) (sSeq (sAsg (eLst (aCons (e1 (opIsX ans21) (eVar 3)) (aCons (e1 (opIsX ans20) (eVar 3)) (aCons (e1 (opIsX ans19) (eVar 3)) (aNil))))) (gVar 11))
  (sSeq (sIf (tE (e2 opNe (eVar 11) (eComp (iRange (eC (.int 3))) (gVar 12) (tYes) (e2 opEq (eVar 12) (eCall 1 F__law_base (aCons (eVar 3) (aNil)))) [12]))) (sRet (eC (.bl false))) (sNil))
  (sIf (tE (e2 opNe (eCall 1 F__law_kinds_of (aCons (eVar 3) (aNil))) (eComp (iRange (eC (.int 18))) (gVar 12) (tYes) (e2 opEq (eVar 12) (eVar 6)) [12]))) (sRet (eC (.bl false))) (sNil)))))))))))
  (sSeq (sAsg (eExn0 10) (gVar 3))
  (sRet (eAnd (e1 (opIsX ans21) (eVar 3)) (e2 opEq (eCall 1 F__law_kinds_of (aCons (eVar 3) (aNil))) (eComp (iRange (eC (.int 18))) (gVar 12) (tYes) (e2 opEq (eVar 12) (eC (.int 17))) [12])))))))
end K00
end Ev

set_option Elab.async false
set_option linter.all false
set_option maxRecDepth 100000
set_option maxHeartbeats 4000000
set_option autoImplicit false
namespace Ev
namespace K00
open PySem PySem.Spec PyProof.Rows L2
def top (i : Nat) : Stmt := PySem.Challenge.pw_oncepost_k00_errors.main.body.getD i (.Pass ⟨0, 0, 0, 0⟩)
/-- what the walk leans on -/
structure Facts (P : Program) (w : World) (T : Tb) (K : PySem.W.Frag) (mg : Str → Option Value) (fd : Nat → FuncData) : Prop where
  tw : T.w = w
  tp : T.P = P
  pf : ((P.main.file : Str) == "/claim/cut.py") = true
  ps : (P.main.scope.names.lookup ("super" : Str)).isSome = false
  sysd : SysD K
  f__law_pen : FunD K "_law_pen" "_law_pen" (defArgs (top 20)) (defBody (top 20)) (defScope (top 20)) [] [] (gloAt "_law_pen" K) (fd 0)
  g__law_pen : mg "_law_pen" = some (.ref (gloAt "_law_pen" K))
  f__law_draw : FunD K "_law_draw" "_law_draw" (defArgs (top 21)) (defBody (top 21)) (defScope (top 21)) [] [] (gloAt "_law_draw" K) (fd 1)
  g__law_draw : mg "_law_draw" = some (.ref (gloAt "_law_draw" K))
  f__law_pick : FunD K "_law_pick" "_law_pick" (defArgs (top 22)) (defBody (top 22)) (defScope (top 22)) [] [] (gloAt "_law_pick" K) (fd 2)
  g__law_pick : mg "_law_pick" = some (.ref (gloAt "_law_pick" K))
  f__law_values : FunD K "_law_values" "_law_values" (defArgs (top 24)) (defBody (top 24)) (defScope (top 24)) [] [] (gloAt "_law_values" K) (fd 3)
  g__law_values : mg "_law_values" = some (.ref (gloAt "_law_values" K))
  f__law_others : FunD K "_law_others" "_law_others" (defArgs (top 25)) (defBody (top 25)) (defScope (top 25)) [] [] (gloAt "_law_others" K) (fd 4)
  g__law_others : mg "_law_others" = some (.ref (gloAt "_law_others" K))
  f__law_kinds_of : FunD K "_law_kinds_of" "_law_kinds_of" (defArgs (top 27)) (defBody (top 27)) (defScope (top 27)) [] [] (gloAt "_law_kinds_of" K) (fd 5)
  g__law_kinds_of : mg "_law_kinds_of" = some (.ref (gloAt "_law_kinds_of" K))
  f__law_odd : FunD K "_law_odd" "_law_odd" (defArgs (top 23)) (defBody (top 23)) (defScope (top 23)) [] [] (gloAt "_law_odd" K) (fd 6)
  g__law_odd : mg "_law_odd" = some (.ref (gloAt "_law_odd" K))
  f__law_base : FunD K "_law_base" "_law_base" (defArgs (top 26)) (defBody (top 26)) (defScope (top 26)) [] [] (gloAt "_law_base" K) (fd 7)
  g__law_base : mg "_law_base" = some (.ref (gloAt "_law_base" K))
  f_law : FunD K "law" "law" (defArgs (top 28)) (defBody (top 28)) (defScope (top 28)) [] [] (gloAt "law" K) (fd 8)
  g_law : mg "law" = some (.ref (gloAt "law" K))
  n_list : mg "list" = none
  n_int : mg "int" = none
  n_len : mg "len" = none
  n_abs : mg "abs" = none
  n_isinstance : mg "isinstance" = none
  n_range : mg "range" = none
  n_repr : mg "repr" = none
  n_OverflowError : mg "OverflowError" = none
  n_LookupError : mg "LookupError" = none
  n_ValueError : mg "ValueError" = none
  h_InvalidHandler : mg "InvalidHandler" = some (.ref (T.cls 0))
  h_InvalidRows : mg "InvalidRows" = some (.ref (T.cls 1))
  h_InvalidMessage : mg "InvalidMessage" = some (.ref (T.cls 2))
  h_InvalidWay : mg "InvalidWay" = some (.ref (T.cls 3))
  h_InvalidService : mg "InvalidService" = some (.ref (T.cls 4))
  h_InvalidSystem : mg "InvalidSystem" = some (.ref (T.cls 5))
  h_NotPlayed : mg "NotPlayed" = some (.ref (T.cls 6))
  h_InvalidState : mg "InvalidState" = some (.ref (T.cls 7))
  h_InvalidTest : mg "InvalidTest" = some (.ref (T.cls 8))
  h_InvalidCut : mg "InvalidCut" = some (.ref (T.cls 9))
  h_OtherWorld : mg "OtherWorld" = some (.ref (T.cls 10))
  h_InvalidCount : mg "InvalidCount" = some (.ref (T.cls 11))
  h_NoFact : mg "NoFact" = some (.ref (T.cls 12))
  h_NoThing : mg "NoThing" = some (.ref (T.cls 13))
  h_NoWord : mg "NoWord" = some (.ref (T.cls 14))
  h_NoService : mg "NoService" = some (.ref (T.cls 15))
  h_OutOfRange : mg "OutOfRange" = some (.ref (T.cls 16))
  h_TooMany : mg "TooMany" = some (.ref (T.cls 17))
  x_InvalidRows : ∃ fd, XCl K (T.cls 1) (mAt "InvalidRows" "__init__" K) (⟨([118, 97, 108, 117, 101] : List Nat).toArray⟩ : Str) "/claim/cut.py" "ValueError" "ValueError.__init__" "ValueError.__new__" [.type "ValueError", .type "Exception", .type "BaseException", .type "object"] fd
  x_InvalidHandler : ∃ fd, XCl K (T.cls 0) (mAt "InvalidHandler" "__init__" K) (⟨([118, 97, 108, 117, 101] : List Nat).toArray⟩ : Str) "/claim/cut.py" "ValueError" "ValueError.__init__" "ValueError.__new__" [.type "ValueError", .type "Exception", .type "BaseException", .type "object"] fd
  x_InvalidMessage : ∃ fd, XCl K (T.cls 2) (mAt "InvalidMessage" "__init__" K) (⟨([118, 97, 108, 117, 101] : List Nat).toArray⟩ : Str) "/claim/cut.py" "ValueError" "ValueError.__init__" "ValueError.__new__" [.type "ValueError", .type "Exception", .type "BaseException", .type "object"] fd
  x_InvalidState : ∃ fd, XCl K (T.cls 7) (mAt "InvalidState" "__init__" K) (⟨([118, 97, 108, 117, 101] : List Nat).toArray⟩ : Str) "/claim/cut.py" "ValueError" "ValueError.__init__" "ValueError.__new__" [.type "ValueError", .type "Exception", .type "BaseException", .type "object"] fd
  x_InvalidWay : ∃ fd, XCl K (T.cls 3) (mAt "InvalidWay" "__init__" K) (⟨([118, 97, 108, 117, 101] : List Nat).toArray⟩ : Str) "/claim/cut.py" "ValueError" "ValueError.__init__" "ValueError.__new__" [.type "ValueError", .type "Exception", .type "BaseException", .type "object"] fd
  x_NoService : ∃ fd, XCl K (T.cls 15) (mAt "NoService" "__init__" K) (⟨([118, 97, 108, 117, 101] : List Nat).toArray⟩ : Str) "/claim/cut.py" "LookupError" "LookupError.__init__" "LookupError.__new__" [.type "LookupError", .type "Exception", .type "BaseException", .type "object"] fd
  x_InvalidCount : ∃ fd, XCl K (T.cls 11) (mAt "InvalidCount" "__init__" K) (⟨([118, 97, 108, 117, 101] : List Nat).toArray⟩ : Str) "/claim/cut.py" "ValueError" "ValueError.__init__" "ValueError.__new__" [.type "ValueError", .type "Exception", .type "BaseException", .type "object"] fd
  x_InvalidSystem : ∃ fd, XCl K (T.cls 5) (mAt "InvalidSystem" "__init__" K) (⟨([114, 101, 97, 115, 111, 110] : List Nat).toArray⟩ : Str) "/claim/cut.py" "ValueError" "ValueError.__init__" "ValueError.__new__" [.type "ValueError", .type "Exception", .type "BaseException", .type "object"] fd
  x_InvalidService : ∃ fd, XCl K (T.cls 4) (mAt "InvalidService" "__init__" K) (⟨([114, 101, 97, 115, 111, 110] : List Nat).toArray⟩ : Str) "/claim/cut.py" "ValueError" "ValueError.__init__" "ValueError.__new__" [.type "ValueError", .type "Exception", .type "BaseException", .type "object"] fd
  x_NotPlayed : ∃ fd, XCl K (T.cls 6) (mAt "NotPlayed" "__init__" K) (⟨([105, 110, 100, 101, 120] : List Nat).toArray⟩ : Str) "/claim/cut.py" "ValueError" "ValueError.__init__" "ValueError.__new__" [.type "ValueError", .type "Exception", .type "BaseException", .type "object"] fd
  x_InvalidTest : ∃ fd, XCl K (T.cls 8) (mAt "InvalidTest" "__init__" K) (⟨([116, 101, 115, 116] : List Nat).toArray⟩ : Str) "/claim/cut.py" "ValueError" "ValueError.__init__" "ValueError.__new__" [.type "ValueError", .type "Exception", .type "BaseException", .type "object"] fd
  x_InvalidCut : ∃ fd, XCl K (T.cls 9) (mAt "InvalidCut" "__init__" K) (⟨([99, 117, 116] : List Nat).toArray⟩ : Str) "/claim/cut.py" "ValueError" "ValueError.__init__" "ValueError.__new__" [.type "ValueError", .type "Exception", .type "BaseException", .type "object"] fd
  x_NoFact : ∃ fd, XCl K (T.cls 12) (mAt "NoFact" "__init__" K) (⟨([102, 97, 99, 116] : List Nat).toArray⟩ : Str) "/claim/cut.py" "LookupError" "LookupError.__init__" "LookupError.__new__" [.type "LookupError", .type "Exception", .type "BaseException", .type "object"] fd
  x_NoThing : ∃ fd, XCl K (T.cls 13) (mAt "NoThing" "__init__" K) (⟨([116, 104, 105, 110, 103] : List Nat).toArray⟩ : Str) "/claim/cut.py" "LookupError" "LookupError.__init__" "LookupError.__new__" [.type "LookupError", .type "Exception", .type "BaseException", .type "object"] fd
  x_NoWord : ∃ fd, XCl K (T.cls 14) (mAt "NoWord" "__init__" K) (⟨([119, 111, 114, 100] : List Nat).toArray⟩ : Str) "/claim/cut.py" "LookupError" "LookupError.__init__" "LookupError.__new__" [.type "LookupError", .type "Exception", .type "BaseException", .type "object"] fd
  x_OutOfRange : ∃ fd, XCl K (T.cls 16) (mAt "OutOfRange" "__init__" K) (⟨([99, 111, 117, 110, 116] : List Nat).toArray⟩ : Str) "/claim/cut.py" "LookupError" "LookupError.__init__" "LookupError.__new__" [.type "LookupError", .type "Exception", .type "BaseException", .type "object"] fd
  x_TooMany : ∃ fd, XCl K (T.cls 17) (mAt "TooMany" "__init__" K) (⟨([109, 111, 115, 116] : List Nat).toArray⟩ : Str) "/claim/cut.py" "OverflowError" "OverflowError.__init__" "OverflowError.__new__" [.type "OverflowError", .type "ArithmeticError", .type "Exception", .type "BaseException", .type "object"] fd
  xb_OtherWorld : ExcBaseFacts "ValueError" "ValueError.__new__" "ValueError.__init__" [.type "ValueError", .type "Exception", .type "BaseException", .type "object"]
  x_OtherWorld : PySem.W.excIn K (T.cls 10) [.type "ValueError", .type "Exception", .type "BaseException", .type "object"] "ValueError.__new__" = true
  xk_OtherWorld : PySem.W.keepIn K (.ref (T.cls 10)) = true
  q0 : ∀ i b, ans0 i = some b → XKit K (T.cls i) ∧ PySem.W.kitOne K (.ref (T.cls i)) (.ref (T.cls 2)) = some b
  q1 : ∀ i b, ans1 i = some b → XKit K (T.cls i) ∧ PySem.W.kitOne K (.ref (T.cls i)) (.ref (T.cls 1)) = some b
  q2 : ∀ i b, ans2 i = some b → XKit K (T.cls i) ∧ PySem.W.kitOne K (.ref (T.cls i)) (.ref (T.cls 0)) = some b
  q3 : ∀ i b, ans3 i = some b → XKit K (T.cls i) ∧ PySem.W.kitOne K (.ref (T.cls i)) (.ref (T.cls 11)) = some b
  q4 : ∀ i b, ans4 i = some b → XKit K (T.cls i) ∧ PySem.W.kitOne K (.ref (T.cls i)) (.ref (T.cls 7)) = some b
  q5 : ∀ i b, ans5 i = some b → XKit K (T.cls i) ∧ PySem.W.kitOne K (.ref (T.cls i)) (.ref (T.cls 3)) = some b
  q6 : ∀ i b, ans6 i = some b → XKit K (T.cls i) ∧ PySem.W.kitOne K (.ref (T.cls i)) (.ref (T.cls 5)) = some b
  q7 : ∀ i b, ans7 i = some b → XKit K (T.cls i) ∧ PySem.W.kitOne K (.ref (T.cls i)) (.ref (T.cls 4)) = some b
  q8 : ∀ i b, ans8 i = some b → XKit K (T.cls i) ∧ PySem.W.kitOne K (.ref (T.cls i)) (.ref (T.cls 15)) = some b
  q9 : ∀ i b, ans9 i = some b → XKit K (T.cls i) ∧ PySem.W.kitOne K (.ref (T.cls i)) (.ref (T.cls 9)) = some b
  q10 : ∀ i b, ans10 i = some b → XKit K (T.cls i) ∧ PySem.W.kitOne K (.ref (T.cls i)) (.ref (T.cls 8)) = some b
  q11 : ∀ i b, ans11 i = some b → XKit K (T.cls i) ∧ PySem.W.kitOne K (.ref (T.cls i)) (.ref (T.cls 6)) = some b
  q12 : ∀ i b, ans12 i = some b → XKit K (T.cls i) ∧ PySem.W.kitOne K (.ref (T.cls i)) (.ref (T.cls 14)) = some b
  q13 : ∀ i b, ans13 i = some b → XKit K (T.cls i) ∧ PySem.W.kitOne K (.ref (T.cls i)) (.ref (T.cls 13)) = some b
  q14 : ∀ i b, ans14 i = some b → XKit K (T.cls i) ∧ PySem.W.kitOne K (.ref (T.cls i)) (.ref (T.cls 12)) = some b
  q15 : ∀ i b, ans15 i = some b → XKit K (T.cls i) ∧ PySem.W.kitOne K (.ref (T.cls i)) (.ref (T.cls 10)) = some b
  q16 : ∀ i b, ans16 i = some b → XKit K (T.cls i) ∧ PySem.W.kitOne K (.ref (T.cls i)) (.ref (T.cls 17)) = some b
  q17 : ∀ i b, ans17 i = some b → XKit K (T.cls i) ∧ PySem.W.kitOne K (.ref (T.cls i)) (.ref (T.cls 16)) = some b
  q18 : ∀ i b, ans18 i = some b → XKit K (T.cls i) ∧ PySem.W.kitAny K (.ref (T.cls i)) (([T.cls 12, T.cls 13, T.cls 14, T.cls 15, T.cls 16] : List Addr).map Value.ref) = some b
  q19 : ∀ i b, ans19 i = some b → XKit K (T.cls i) ∧ PySem.W.kitOne K (.ref (T.cls i)) (.type "OverflowError") = some b
  q20 : ∀ i b, ans20 i = some b → XKit K (T.cls i) ∧ PySem.W.kitOne K (.ref (T.cls i)) (.type "LookupError") = some b
  q21 : ∀ i b, ans21 i = some b → XKit K (T.cls i) ∧ PySem.W.kitOne K (.ref (T.cls i)) (.type "ValueError") = some b
  fx_value : ∀ c, cs_value c = true → XKit K (T.cls c) ∧ PySem.W.findIn K (.ref (T.cls c)) (⟨([118, 97, 108, 117, 101] : List Nat).toArray⟩ : Str) = some none
  fx_reason : ∀ c, cs_reason c = true → XKit K (T.cls c) ∧ PySem.W.findIn K (.ref (T.cls c)) (⟨([114, 101, 97, 115, 111, 110] : List Nat).toArray⟩ : Str) = some none
  fx_index : ∀ c, cs_index c = true → XKit K (T.cls c) ∧ PySem.W.findIn K (.ref (T.cls c)) (⟨([105, 110, 100, 101, 120] : List Nat).toArray⟩ : Str) = some none
  fx_test : ∀ c, cs_test c = true → XKit K (T.cls c) ∧ PySem.W.findIn K (.ref (T.cls c)) (⟨([116, 101, 115, 116] : List Nat).toArray⟩ : Str) = some none
  fx_cut : ∀ c, cs_cut c = true → XKit K (T.cls c) ∧ PySem.W.findIn K (.ref (T.cls c)) (⟨([99, 117, 116] : List Nat).toArray⟩ : Str) = some none
  fx_fact : ∀ c, cs_fact c = true → XKit K (T.cls c) ∧ PySem.W.findIn K (.ref (T.cls c)) (⟨([102, 97, 99, 116] : List Nat).toArray⟩ : Str) = some none
  fx_thing : ∀ c, cs_thing c = true → XKit K (T.cls c) ∧ PySem.W.findIn K (.ref (T.cls c)) (⟨([116, 104, 105, 110, 103] : List Nat).toArray⟩ : Str) = some none
  fx_word : ∀ c, cs_word c = true → XKit K (T.cls c) ∧ PySem.W.findIn K (.ref (T.cls c)) (⟨([119, 111, 114, 100] : List Nat).toArray⟩ : Str) = some none
  fx_count : ∀ c, cs_count c = true → XKit K (T.cls c) ∧ PySem.W.findIn K (.ref (T.cls c)) (⟨([99, 111, 117, 110, 116] : List Nat).toArray⟩ : Str) = some none
  fx_most : ∀ c, cs_most c = true → XKit K (T.cls c) ∧ PySem.W.findIn K (.ref (T.cls c)) (⟨([109, 111, 115, 116] : List Nat).toArray⟩ : Str) = some none
section
variable {P : Program} {w : World} {K : PySem.W.Frag} {mg : Str → Option Value} {base : Heap} {T : Tb} {fd : Nat → FuncData}
theorem sc__law_pen : FnScope ["_law_script"] ["_law_script"] (defScope (top 20)) := ⟨rfl, rfl, rfl, by decide +kernel, rfl, by decide +kernel, by decide +kernel⟩
theorem ok__law_pen (W : Facts P w T K mg fd) : FnG P w K mg base CX0 1 (gloAt "_law_pen" K) (fd 0) ["_law_script"] (spOf K T 1 F__law_pen) :=
  fn_ok W.f__law_pen sc__law_pen (k := 0) fun cdv A outer s H E hgu hr =>
    js_one (js_ret (je_dctM (.cons (je_str) (je_BT cd_list W.n_list (ja_cons (je_sl (je_var (i := 0)) (jo_none) (jo_some (je_int))) (ja_nil))) (.cons (je_str) (je_int) (.cons (je_str) (je_int) (.nil))))))
theorem b__law_pen (W : Facts P w T K mg fd) : Binds K (fd 0) ["_law_script"] [] := W.f__law_pen.bindsN fun _ _ _ _ _ _ us hl => match us, hl with | [_], _ => rfl
theorem sc__law_draw : FnScope ["_law_pen_here", "_law_many", "_law_at", "_law_cell", "_law_blend", "_law_digit"] ["_law_pen_here", "_law_many"] (defScope (top 21)) := ⟨rfl, rfl, rfl, by decide +kernel, rfl, by decide +kernel, by decide +kernel⟩
theorem ok__law_draw (W : Facts P w T K mg fd) : FnG P w K mg base CX0 1 (gloAt "_law_draw" K) (fd 1) ["_law_pen_here", "_law_many"] (spOf K T 2 F__law_draw) :=
  fn_ok W.f__law_draw sc__law_draw (k := 0) fun cdv A outer s H E hgu hr =>
    js_cons (js_if (jt_cmpD opD_gt opGt_bool (je_ix (u1 hr) (je_var (i := 0)) (je_str)) (je_int)) (js_cons (js_set (i := 5) sc__law_draw.nd (je_bin opD_mod (je_BT cd_int W.n_int (ja_cons (je_ix (u1 hr) (je_var (i := 0)) (je_str)) (ja_nil))) (je_var (i := 1))))
    (js_cons (js_asg (je_bin opD_fdiv (je_ix (u1 hr) (je_var (i := 0)) (je_str)) (je_var (i := 1))) (jg_item W.tw W.tp (u10 hr) (je_var (i := 0)) (je_str)))
    (js_one (js_ret (je_var (i := 5)))))) (js_nil))
    (js_cons (js_set (i := 2) sc__law_draw.nd (je_ix (u1 hr) (je_var (i := 0)) (je_str)))
    (js_cons (js_asg (je_bin opD_add (je_var (i := 2)) (je_int)) (jg_item W.tw W.tp (u10 hr) (je_var (i := 0)) (je_str)))
    (js_cons (js_set (i := 3) sc__law_draw.nd (je_bin opD_add (je_bin opD_mul (je_int) (je_var (i := 2))) (je_int)))
    (js_cons (js_if (jt_cmpD (opD_ne (u64 hr)) opNe_bool (je_ix (u1 hr) (je_var (i := 0)) (je_str)) (je_lst (ja_nil))) (js_one (js_set (i := 3) sc__law_draw.nd (je_ix (u1 hr) (je_ix (u1 hr) (je_var (i := 0)) (je_str)) (je_bin opD_mod (je_BT cd_int W.n_int (ja_cons (je_var (i := 2)) (ja_nil))) (je_B cd_len W.n_len (ja_cons (je_ix (u1 hr) (je_var (i := 0)) (je_str)) (ja_nil))))))) (js_nil))
    (js_cons (js_if (JW.t (jw_and (jt_cmpD (opD_lt (u0 hr)) opLt_bool (je_var (i := 2)) (je_B cd_len W.n_len (ja_cons (je_ix (u1 hr) (je_var (i := 0)) (je_str)) (ja_nil)))) (jw_and1 (jt_cmpD opD_ge opGe_bool (je_B cd_abs W.n_abs (ja_cons (je_var (i := 3)) (ja_nil))) (je_bin opD_pow (je_int) (je_int)))))) (js_cons (js_asg (je_bin opD_fdiv (je_bin opD_sub (je_B cd_abs W.n_abs (ja_cons (je_var (i := 3)) (ja_nil))) (je_bin opD_pow (je_int) (je_int))) (je_var (i := 1))) (jg_item W.tw W.tp (u10 hr) (je_var (i := 0)) (je_str)))
    (js_one (js_ret (je_bin opD_mod (je_bin opD_sub (je_B cd_abs W.n_abs (ja_cons (je_var (i := 3)) (ja_nil))) (je_bin opD_pow (je_int) (je_int))) (je_var (i := 1)))))) (js_nil))
    (js_cons (js_set (i := 4) sc__law_draw.nd (je_bin opD_mod (je_BT cd_int W.n_int (ja_cons (je_bin opD_add (je_bin opD_add (je_bin opD_mul (je_bin opD_mod (je_BT cd_int W.n_int (ja_cons (je_var (i := 3)) (ja_nil))) (je_int)) (je_int)) (je_bin opD_mul (je_bin opD_mul (je_int) (je_var (i := 2))) (je_var (i := 2)))) (je_int)) (ja_nil))) (je_int)))
    (js_cons (js_set (i := 4) sc__law_draw.nd (je_bin opD_mod (je_BT cd_int W.n_int (ja_cons (je_bin opD_add (je_bin opD_add (je_bin opD_add (je_bin opD_mul (je_var (i := 4)) (je_var (i := 4))) (je_bin opD_mul (je_int) (je_var (i := 4)))) (je_bin opD_mul (je_int) (je_var (i := 2)))) (je_int)) (ja_nil))) (je_int)))
    (js_one (js_ret (je_bin opD_mod (je_BT cd_int W.n_int (ja_cons (je_bin opD_fdiv (je_bin opD_mod (je_BT cd_int W.n_int (ja_cons (je_bin opD_mul (je_var (i := 4)) (je_bin opD_add (je_var (i := 4)) (je_int))) (ja_nil))) (je_int)) (je_int)) (ja_nil))) (je_var (i := 1))))))))))))
theorem b__law_draw (W : Facts P w T K mg fd) : Binds K (fd 1) ["_law_pen_here", "_law_many"] [] := W.f__law_draw.bindsN fun _ _ _ _ _ _ us hl => match us, hl with | [_, _], _ => rfl
theorem sc__law_pick : FnScope ["_law_pen_here", "_law_items"] ["_law_pen_here", "_law_items"] (defScope (top 22)) := ⟨rfl, rfl, rfl, by decide +kernel, rfl, by decide +kernel, by decide +kernel⟩
theorem ok__law_pick (W : Facts P w T K mg fd) : FnG P w K mg base CX0 2 (gloAt "_law_pick" K) (fd 2) ["_law_pen_here", "_law_items"] (spOf K T 2 F__law_pick) :=
  fn_ok W.f__law_pick sc__law_pick (k := 1) fun cdv A outer s H E hgu hr =>
    js_one (js_ret (je_ix (u1 hr) (je_var (i := 1)) (je_call (ok__law_draw W) hgu (hr.mono (by decide)) W.g__law_draw W.f__law_draw.kp (b__law_draw W) (ja_cons (je_var (i := 0)) (ja_cons (je_B cd_len W.n_len (ja_cons (je_var (i := 1)) (ja_nil))) (ja_nil))))))
theorem b__law_pick (W : Facts P w T K mg fd) : Binds K (fd 2) ["_law_pen_here", "_law_items"] [] := W.f__law_pick.bindsN fun _ _ _ _ _ _ us hl => match us, hl with | [_, _], _ => rfl
theorem sc__law_values : FnScope ["_law_odd_here", "_law_some", "_law_one", "_law_other"] ["_law_odd_here"] (defScope (top 24)) := ⟨rfl, rfl, rfl, by decide +kernel, rfl, by decide +kernel, by decide +kernel⟩
theorem ok__law_values (W : Facts P w T K mg fd) : FnG P w K mg base CX0 3 (gloAt "_law_values" K) (fd 3) ["_law_odd_here"] (spOf K T 1 F__law_values) :=
  fn_pure (fn_ok W.f__law_values sc__law_values (k := 2) fun cdv A outer s H E hgu hr =>
    js_cons (js_set (i := 1) sc__law_values.nd (je_lstM (ja_cons (je_tup (ja_cons (je_exnE (c := 0) (f := [118, 97, 108, 117, 101]) (k := 0) W.x_InvalidHandler xb_ve W.pf W.ps rfl (hr.mono (by decide)) W.h_InvalidHandler (ja_cons (je_var (i := 0)) (ja_nil))) (ja_cons (je_exnKE (c := 0) (f := [118, 97, 108, 117, 101]) (k := 0) W.x_InvalidHandler xb_ve W.pf W.ps rfl (hr.mono (by decide)) W.h_InvalidHandler (.cons (je_var (i := 0)) .nil)) (ja_nil)))) (ja_cons (je_tup (ja_cons (je_exnE (c := 1) (f := [118, 97, 108, 117, 101]) (k := 0) W.x_InvalidRows xb_ve W.pf W.ps rfl (hr.mono (by decide)) W.h_InvalidRows (ja_cons (je_var (i := 0)) (ja_nil))) (ja_cons (je_exnKE (c := 1) (f := [118, 97, 108, 117, 101]) (k := 0) W.x_InvalidRows xb_ve W.pf W.ps rfl (hr.mono (by decide)) W.h_InvalidRows (.cons (je_var (i := 0)) .nil)) (ja_nil)))) (ja_nil)))))
    (js_cons (js_expr (je_app (je_var (i := 1)) (je_tup (ja_cons (je_exnE (c := 2) (f := [118, 97, 108, 117, 101]) (k := 0) W.x_InvalidMessage xb_ve W.pf W.ps rfl (hr.mono (by decide)) W.h_InvalidMessage (ja_cons (je_var (i := 0)) (ja_nil))) (ja_cons (je_exnKE (c := 2) (f := [118, 97, 108, 117, 101]) (k := 0) W.x_InvalidMessage xb_ve W.pf W.ps rfl (hr.mono (by decide)) W.h_InvalidMessage (.cons (je_var (i := 0)) .nil)) (ja_nil))))))
    (js_cons (js_set (i := 1) sc__law_values.nd (je_bin opD_add (je_var (i := 1)) (je_lst (ja_cons (je_tup (ja_cons (je_exnE (c := 3) (f := [118, 97, 108, 117, 101]) (k := 0) W.x_InvalidWay xb_ve W.pf W.ps rfl (hr.mono (by decide)) W.h_InvalidWay (ja_cons (je_var (i := 0)) (ja_nil))) (ja_cons (je_exnKE (c := 3) (f := [118, 97, 108, 117, 101]) (k := 0) W.x_InvalidWay xb_ve W.pf W.ps rfl (hr.mono (by decide)) W.h_InvalidWay (.cons (je_var (i := 0)) .nil)) (ja_nil)))) (ja_cons (je_tup (ja_cons (je_exnE (c := 7) (f := [118, 97, 108, 117, 101]) (k := 0) W.x_InvalidState xb_ve W.pf W.ps rfl (hr.mono (by decide)) W.h_InvalidState (ja_cons (je_var (i := 0)) (ja_nil))) (ja_cons (je_exnKE (c := 7) (f := [118, 97, 108, 117, 101]) (k := 0) W.x_InvalidState xb_ve W.pf W.ps rfl (hr.mono (by decide)) W.h_InvalidState (.cons (je_var (i := 0)) .nil)) (ja_nil)))) (ja_nil))))))
    (js_cons (js_set (i := 1) sc__law_values.nd (je_bin opD_add (je_var (i := 1)) (je_lst (ja_cons (je_tup (ja_cons (je_exnE (c := 11) (f := [118, 97, 108, 117, 101]) (k := 0) W.x_InvalidCount xb_ve W.pf W.ps rfl (hr.mono (by decide)) W.h_InvalidCount (ja_cons (je_var (i := 0)) (ja_nil))) (ja_cons (je_exnKE (c := 11) (f := [118, 97, 108, 117, 101]) (k := 0) W.x_InvalidCount xb_ve W.pf W.ps rfl (hr.mono (by decide)) W.h_InvalidCount (.cons (je_var (i := 0)) .nil)) (ja_nil)))) (ja_cons (je_tup (ja_cons (je_exnE (c := 15) (f := [118, 97, 108, 117, 101]) (k := 0) W.x_NoService xb_le W.pf W.ps rfl (hr.mono (by decide)) W.h_NoService (ja_cons (je_var (i := 0)) (ja_nil))) (ja_cons (je_exnKE (c := 15) (f := [118, 97, 108, 117, 101]) (k := 0) W.x_NoService xb_le W.pf W.ps rfl (hr.mono (by decide)) W.h_NoService (.cons (je_var (i := 0)) .nil)) (ja_nil)))) (ja_nil))))))
    (js_one (js_ret (je_comp (own := [("_law_one", 2), ("_law_other", 3)]) rfl sc__law_values.nd (ji_seq (je_var (i := 1))) (BlkOk.mk (N := ["_law_odd_here", "_law_some", "_law_one", "_law_other"]) (sc := defScope (top 24)) rfl (by decide +kernel) (by decide +kernel) (by decide +kernel) (by decide +kernel)) (fun _ _ _ _ _ => jg_tup rfl (jgs_cons (jg_name (i := 2) sc__law_values.nd) (jgs_cons (jg_name (i := 3) sc__law_values.nd) (jgs_nil)))) (fun _ _ _ _ _ => jts_nil) (fun _ _ _ _ _ => je_tup (ja_cons (je_var (i := 2)) (ja_cons (je_var (i := 3)) (ja_cons (je_fldX (f := [118, 97, 108, 117, 101]) (cs := cs_value) W.fx_value (je_var (i := 2))) (ja_cons (je_fldX (f := [118, 97, 108, 117, 101]) (cs := cs_value) W.fx_value (je_var (i := 3))) (ja_nil)))))))))))))
theorem b__law_values (W : Facts P w T K mg fd) : Binds K (fd 3) ["_law_odd_here"] [] := W.f__law_values.bindsN fun _ _ _ _ _ _ us hl => match us, hl with | [_], _ => rfl
theorem sc__law_others : FnScope ["_law_odd_here", "_law_found", "_law_one", "_law_other"] ["_law_odd_here"] (defScope (top 25)) := ⟨rfl, rfl, rfl, by decide +kernel, rfl, by decide +kernel, by decide +kernel⟩
theorem ok__law_others (W : Facts P w T K mg fd) : FnG P w K mg base CX0 3 (gloAt "_law_others" K) (fd 4) ["_law_odd_here"] (spOf K T 1 F__law_others) :=
  fn_pure (fn_ok W.f__law_others sc__law_others (k := 2) fun cdv A outer s H E hgu hr =>
    js_cons (js_set (i := 1) sc__law_others.nd (je_lstM (ja_nil)))
    (js_cons (js_for PassesOwn.never rfl (ji_seq (je_lst (ja_cons (je_tup (ja_cons (je_exnE (c := 4) (f := [114, 101, 97, 115, 111, 110]) (k := 0) W.x_InvalidService xb_ve W.pf W.ps rfl (hr.mono (by decide)) W.h_InvalidService (ja_cons (je_var (i := 0)) (ja_nil))) (ja_cons (je_exnKE (c := 4) (f := [114, 101, 97, 115, 111, 110]) (k := 0) W.x_InvalidService xb_ve W.pf W.ps rfl (hr.mono (by decide)) W.h_InvalidService (.cons (je_var (i := 0)) .nil)) (ja_nil)))) (ja_cons (je_tup (ja_cons (je_exnE (c := 5) (f := [114, 101, 97, 115, 111, 110]) (k := 0) W.x_InvalidSystem xb_ve W.pf W.ps rfl (hr.mono (by decide)) W.h_InvalidSystem (ja_cons (je_var (i := 0)) (ja_nil))) (ja_cons (je_exnKE (c := 5) (f := [114, 101, 97, 115, 111, 110]) (k := 0) W.x_InvalidSystem xb_ve W.pf W.ps rfl (hr.mono (by decide)) W.h_InvalidSystem (.cons (je_var (i := 0)) .nil)) (ja_nil)))) (ja_nil))))) (jg_tup rfl (jgs_cons (jg_name (i := 2) sc__law_others.nd) (jgs_cons (jg_name (i := 3) sc__law_others.nd) (jgs_nil)))) (js_one (js_expr (je_app (je_var (i := 1)) (je_tup (ja_cons (je_var (i := 2)) (ja_cons (je_var (i := 3)) (ja_cons (je_fldX (f := [114, 101, 97, 115, 111, 110]) (cs := cs_reason) W.fx_reason (je_var (i := 2))) (ja_cons (je_fldX (f := [114, 101, 97, 115, 111, 110]) (cs := cs_reason) W.fx_reason (je_var (i := 3))) (ja_nil))))))))))
    (js_cons (js_par (i := 2) (j := 3) rfl sc__law_others.nd (ja_cons (je_exnE (c := 6) (f := [105, 110, 100, 101, 120]) (k := 0) W.x_NotPlayed xb_ve W.pf W.ps rfl (hr.mono (by decide)) W.h_NotPlayed (ja_cons (je_var (i := 0)) (ja_nil))) (ja_cons (je_exnKE (c := 6) (f := [105, 110, 100, 101, 120]) (k := 0) W.x_NotPlayed xb_ve W.pf W.ps rfl (hr.mono (by decide)) W.h_NotPlayed (.cons (je_var (i := 0)) .nil)) (ja_nil))))
    (js_cons (js_expr (je_app (je_var (i := 1)) (je_tup (ja_cons (je_var (i := 2)) (ja_cons (je_var (i := 3)) (ja_cons (je_fldX (f := [105, 110, 100, 101, 120]) (cs := cs_index) W.fx_index (je_var (i := 2))) (ja_cons (je_fldX (f := [105, 110, 100, 101, 120]) (cs := cs_index) W.fx_index (je_var (i := 3))) (ja_nil))))))))
    (js_cons (js_par (i := 2) (j := 3) rfl sc__law_others.nd (ja_cons (je_exnE (c := 8) (f := [116, 101, 115, 116]) (k := 0) W.x_InvalidTest xb_ve W.pf W.ps rfl (hr.mono (by decide)) W.h_InvalidTest (ja_cons (je_var (i := 0)) (ja_nil))) (ja_cons (je_exnKE (c := 8) (f := [116, 101, 115, 116]) (k := 0) W.x_InvalidTest xb_ve W.pf W.ps rfl (hr.mono (by decide)) W.h_InvalidTest (.cons (je_var (i := 0)) .nil)) (ja_nil))))
    (js_cons (js_expr (je_app (je_var (i := 1)) (je_tup (ja_cons (je_var (i := 2)) (ja_cons (je_var (i := 3)) (ja_cons (je_fldX (f := [116, 101, 115, 116]) (cs := cs_test) W.fx_test (je_var (i := 2))) (ja_cons (je_fldX (f := [116, 101, 115, 116]) (cs := cs_test) W.fx_test (je_var (i := 3))) (ja_nil))))))))
    (js_cons (js_par (i := 2) (j := 3) rfl sc__law_others.nd (ja_cons (je_exnE (c := 9) (f := [99, 117, 116]) (k := 0) W.x_InvalidCut xb_ve W.pf W.ps rfl (hr.mono (by decide)) W.h_InvalidCut (ja_cons (je_var (i := 0)) (ja_nil))) (ja_cons (je_exnKE (c := 9) (f := [99, 117, 116]) (k := 0) W.x_InvalidCut xb_ve W.pf W.ps rfl (hr.mono (by decide)) W.h_InvalidCut (.cons (je_var (i := 0)) .nil)) (ja_nil))))
    (js_cons (js_expr (je_app (je_var (i := 1)) (je_tup (ja_cons (je_var (i := 2)) (ja_cons (je_var (i := 3)) (ja_cons (je_fldX (f := [99, 117, 116]) (cs := cs_cut) W.fx_cut (je_var (i := 2))) (ja_cons (je_fldX (f := [99, 117, 116]) (cs := cs_cut) W.fx_cut (je_var (i := 3))) (ja_nil))))))))
    (js_cons (js_par (i := 2) (j := 3) rfl sc__law_others.nd (ja_cons (je_exnE (c := 12) (f := [102, 97, 99, 116]) (k := 0) W.x_NoFact xb_le W.pf W.ps rfl (hr.mono (by decide)) W.h_NoFact (ja_cons (je_var (i := 0)) (ja_nil))) (ja_cons (je_exnKE (c := 12) (f := [102, 97, 99, 116]) (k := 0) W.x_NoFact xb_le W.pf W.ps rfl (hr.mono (by decide)) W.h_NoFact (.cons (je_var (i := 0)) .nil)) (ja_nil))))
    (js_cons (js_expr (je_app (je_var (i := 1)) (je_tup (ja_cons (je_var (i := 2)) (ja_cons (je_var (i := 3)) (ja_cons (je_fldX (f := [102, 97, 99, 116]) (cs := cs_fact) W.fx_fact (je_var (i := 2))) (ja_cons (je_fldX (f := [102, 97, 99, 116]) (cs := cs_fact) W.fx_fact (je_var (i := 3))) (ja_nil))))))))
    (js_cons (js_par (i := 2) (j := 3) rfl sc__law_others.nd (ja_cons (je_exnE (c := 13) (f := [116, 104, 105, 110, 103]) (k := 0) W.x_NoThing xb_le W.pf W.ps rfl (hr.mono (by decide)) W.h_NoThing (ja_cons (je_var (i := 0)) (ja_nil))) (ja_cons (je_exnKE (c := 13) (f := [116, 104, 105, 110, 103]) (k := 0) W.x_NoThing xb_le W.pf W.ps rfl (hr.mono (by decide)) W.h_NoThing (.cons (je_var (i := 0)) .nil)) (ja_nil))))
    (js_cons (js_expr (je_app (je_var (i := 1)) (je_tup (ja_cons (je_var (i := 2)) (ja_cons (je_var (i := 3)) (ja_cons (je_fldX (f := [116, 104, 105, 110, 103]) (cs := cs_thing) W.fx_thing (je_var (i := 2))) (ja_cons (je_fldX (f := [116, 104, 105, 110, 103]) (cs := cs_thing) W.fx_thing (je_var (i := 3))) (ja_nil))))))))
    (js_cons (js_par (i := 2) (j := 3) rfl sc__law_others.nd (ja_cons (je_exnE (c := 14) (f := [119, 111, 114, 100]) (k := 0) W.x_NoWord xb_le W.pf W.ps rfl (hr.mono (by decide)) W.h_NoWord (ja_cons (je_var (i := 0)) (ja_nil))) (ja_cons (je_exnKE (c := 14) (f := [119, 111, 114, 100]) (k := 0) W.x_NoWord xb_le W.pf W.ps rfl (hr.mono (by decide)) W.h_NoWord (.cons (je_var (i := 0)) .nil)) (ja_nil))))
    (js_cons (js_expr (je_app (je_var (i := 1)) (je_tup (ja_cons (je_var (i := 2)) (ja_cons (je_var (i := 3)) (ja_cons (je_fldX (f := [119, 111, 114, 100]) (cs := cs_word) W.fx_word (je_var (i := 2))) (ja_cons (je_fldX (f := [119, 111, 114, 100]) (cs := cs_word) W.fx_word (je_var (i := 3))) (ja_nil))))))))
    (js_cons (js_par (i := 2) (j := 3) rfl sc__law_others.nd (ja_cons (je_exnE (c := 16) (f := [99, 111, 117, 110, 116]) (k := 0) W.x_OutOfRange xb_le W.pf W.ps rfl (hr.mono (by decide)) W.h_OutOfRange (ja_cons (je_var (i := 0)) (ja_nil))) (ja_cons (je_exnKE (c := 16) (f := [99, 111, 117, 110, 116]) (k := 0) W.x_OutOfRange xb_le W.pf W.ps rfl (hr.mono (by decide)) W.h_OutOfRange (.cons (je_var (i := 0)) .nil)) (ja_nil))))
    (js_cons (js_expr (je_app (je_var (i := 1)) (je_tup (ja_cons (je_var (i := 2)) (ja_cons (je_var (i := 3)) (ja_cons (je_fldX (f := [99, 111, 117, 110, 116]) (cs := cs_count) W.fx_count (je_var (i := 2))) (ja_cons (je_fldX (f := [99, 111, 117, 110, 116]) (cs := cs_count) W.fx_count (je_var (i := 3))) (ja_nil))))))))
    (js_cons (js_par (i := 2) (j := 3) rfl sc__law_others.nd (ja_cons (je_exnE (c := 17) (f := [109, 111, 115, 116]) (k := 0) W.x_TooMany xb_oe W.pf W.ps rfl (hr.mono (by decide)) W.h_TooMany (ja_cons (je_var (i := 0)) (ja_nil))) (ja_cons (je_exnKE (c := 17) (f := [109, 111, 115, 116]) (k := 0) W.x_TooMany xb_oe W.pf W.ps rfl (hr.mono (by decide)) W.h_TooMany (.cons (je_var (i := 0)) .nil)) (ja_nil))))
    (js_cons (js_expr (je_app (je_var (i := 1)) (je_tup (ja_cons (je_var (i := 2)) (ja_cons (je_var (i := 3)) (ja_cons (je_fldX (f := [109, 111, 115, 116]) (cs := cs_most) W.fx_most (je_var (i := 2))) (ja_cons (je_fldX (f := [109, 111, 115, 116]) (cs := cs_most) W.fx_most (je_var (i := 3))) (ja_nil))))))))
    (js_one (js_ret (je_var (i := 1))))))))))))))))))))))
theorem b__law_others (W : Facts P w T K mg fd) : Binds K (fd 4) ["_law_odd_here"] [] := W.f__law_others.bindsN fun _ _ _ _ _ _ us hl => match us, hl with | [_], _ => rfl
theorem sc__law_kinds_of : FnScope ["_law_one", "_law_found"] ["_law_one"] (defScope (top 27)) := ⟨rfl, rfl, rfl, by decide +kernel, rfl, by decide +kernel, by decide +kernel⟩
theorem ok__law_kinds_of (W : Facts P w T K mg fd) : FnG P w K mg base CX0 3 (gloAt "_law_kinds_of" K) (fd 5) ["_law_one"] (spOf K T 1 F__law_kinds_of) :=
  fn_pure (fn_ok W.f__law_kinds_of sc__law_kinds_of (k := 2) fun cdv A outer s H E hgu hr =>
    js_cons (js_set (i := 1) sc__law_kinds_of.nd (je_lst (ja_cons (je_isXo (ans := ans2) W.h_InvalidHandler (je_var (i := 0)) W.q2 W.n_isinstance) (ja_cons (je_isXo (ans := ans1) W.h_InvalidRows (je_var (i := 0)) W.q1 W.n_isinstance) (ja_cons (je_isXo (ans := ans0) W.h_InvalidMessage (je_var (i := 0)) W.q0 W.n_isinstance) (ja_nil))))))
    (js_cons (js_set (i := 1) sc__law_kinds_of.nd (je_bin opD_add (je_var (i := 1)) (je_lst (ja_cons (je_isXo (ans := ans5) W.h_InvalidWay (je_var (i := 0)) W.q5 W.n_isinstance) (ja_cons (je_isXo (ans := ans4) W.h_InvalidState (je_var (i := 0)) W.q4 W.n_isinstance) (ja_cons (je_isXo (ans := ans3) W.h_InvalidCount (je_var (i := 0)) W.q3 W.n_isinstance) (ja_nil)))))))
    (js_cons (js_set (i := 1) sc__law_kinds_of.nd (je_bin opD_add (je_var (i := 1)) (je_lst (ja_cons (je_isXo (ans := ans8) W.h_NoService (je_var (i := 0)) W.q8 W.n_isinstance) (ja_cons (je_isXo (ans := ans7) W.h_InvalidService (je_var (i := 0)) W.q7 W.n_isinstance) (ja_cons (je_isXo (ans := ans6) W.h_InvalidSystem (je_var (i := 0)) W.q6 W.n_isinstance) (ja_nil)))))))
    (js_cons (js_set (i := 1) sc__law_kinds_of.nd (je_bin opD_add (je_var (i := 1)) (je_lst (ja_cons (je_isXo (ans := ans11) W.h_NotPlayed (je_var (i := 0)) W.q11 W.n_isinstance) (ja_cons (je_isXo (ans := ans10) W.h_InvalidTest (je_var (i := 0)) W.q10 W.n_isinstance) (ja_cons (je_isXo (ans := ans9) W.h_InvalidCut (je_var (i := 0)) W.q9 W.n_isinstance) (ja_nil)))))))
    (js_cons (js_set (i := 1) sc__law_kinds_of.nd (je_bin opD_add (je_var (i := 1)) (je_lst (ja_cons (je_isXo (ans := ans14) W.h_NoFact (je_var (i := 0)) W.q14 W.n_isinstance) (ja_cons (je_isXo (ans := ans13) W.h_NoThing (je_var (i := 0)) W.q13 W.n_isinstance) (ja_cons (je_isXo (ans := ans12) W.h_NoWord (je_var (i := 0)) W.q12 W.n_isinstance) (ja_nil)))))))
    (js_one (js_ret (je_bin opD_add (je_var (i := 1)) (je_lst (ja_cons (je_isXo (ans := ans17) W.h_OutOfRange (je_var (i := 0)) W.q17 W.n_isinstance) (ja_cons (je_isXo (ans := ans16) W.h_TooMany (je_var (i := 0)) W.q16 W.n_isinstance) (ja_cons (je_isXo (ans := ans15) W.h_OtherWorld (je_var (i := 0)) W.q15 W.n_isinstance) (ja_nil)))))))))))))
theorem b__law_kinds_of (W : Facts P w T K mg fd) : Binds K (fd 5) ["_law_one"] [] := W.f__law_kinds_of.bindsN fun _ _ _ _ _ _ us hl => match us, hl with | [_], _ => rfl
theorem sc__law_odd : FnScope ["_law_pen_here", "_law_some"] ["_law_pen_here"] (defScope (top 23)) := ⟨rfl, rfl, rfl, by decide +kernel, rfl, by decide +kernel, by decide +kernel⟩
theorem ok__law_odd (W : Facts P w T K mg fd) : FnG P w K mg base CX0 3 (gloAt "_law_odd" K) (fd 6) ["_law_pen_here"] (spOf K T 1 F__law_odd) :=
  fn_ok W.f__law_odd sc__law_odd (k := 2) fun cdv A outer s H E hgu hr =>
    js_cons (js_set (i := 1) sc__law_odd.nd (je_lstM (ja_cons (je_non) (ja_cons (je_bl) (ja_cons (je_bl) (ja_cons (je_int) (ja_cons (je_int) (ja_cons (je_neg (je_int)) (ja_cons (je_int) (ja_cons (je_int) (ja_cons (je_neg (je_int)) (ja_cons (je_bin opD_mul (je_bin opD_pow (je_int) (je_int)) (je_bin opD_pow (je_int) (je_int))) (ja_cons (je_str) (ja_cons (je_str) (ja_cons (je_str) (ja_cons (je_str) (ja_cons (je_str) (ja_cons (je_str) (ja_nil)))))))))))))))))))
    (js_cons (js_set (i := 1) sc__law_odd.nd (je_addM (je_var (i := 1)) (je_lst (ja_cons (je_tup (ja_nil)) (ja_cons (je_tup (ja_cons (je_str) (ja_nil))) (ja_cons (je_tup (ja_cons (je_str) (ja_nil))) (ja_cons (je_lst (ja_nil)) (ja_cons (je_lst (ja_cons (je_str) (ja_nil))) (ja_cons (je_dct0) (ja_cons (je_dct (.cons (je_str) (je_int) (.nil))) (ja_cons (je_tup (ja_cons (je_non) (ja_nil))) (ja_cons (je_tup (ja_cons (je_tup (ja_nil)) (ja_nil))) (ja_cons (je_tup (ja_cons (je_str) (ja_cons (je_int) (ja_nil)))) (ja_cons (je_tup (ja_cons (je_str) (ja_nil))) (ja_cons (je_lst (ja_cons (je_tup (ja_cons (je_str) (ja_nil))) (ja_nil))) (ja_nil))))))))))))))))
    (js_cons (js_expr (je_app (je_var (i := 1)) (je_str)))
    (js_one (js_ret (je_call (ok__law_pick W) hgu (hr.mono (by decide)) W.g__law_pick W.f__law_pick.kp (b__law_pick W) (ja_cons (je_var (i := 0)) (ja_cons (je_bin opD_add (je_var (i := 1)) (je_lst (ja_cons (je_tup (ja_cons (je_str) (ja_cons (je_str) (ja_nil)))) (ja_cons (je_tup (ja_cons (je_str) (ja_cons (je_str) (ja_cons (je_non) (ja_cons (je_tup (ja_cons (je_str) (ja_nil))) (ja_nil)))))) (ja_cons (je_tup (ja_cons (je_str) (ja_cons (je_str) (ja_cons (je_int) (ja_nil))))) (ja_cons (je_tup (ja_cons (je_tup (ja_cons (je_str) (ja_nil))) (ja_nil))) (ja_nil))))))) (ja_nil))))))))
theorem b__law_odd (W : Facts P w T K mg fd) : Binds K (fd 6) ["_law_pen_here"] [] := W.f__law_odd.bindsN fun _ _ _ _ _ _ us hl => match us, hl with | [_], _ => rfl
theorem sc__law_base : FnScope ["_law_one"] ["_law_one"] (defScope (top 26)) := ⟨rfl, rfl, rfl, by decide +kernel, rfl, by decide +kernel, by decide +kernel⟩
theorem ok__law_base (W : Facts P w T K mg fd) : FnG P w K mg base CX0 3 (gloAt "_law_base" K) (fd 7) ["_law_one"] (spOf K T 1 F__law_base) :=
  fn_pure (fn_ok W.f__law_base sc__law_base (k := 2) fun cdv A outer s H E hgu hr =>
    js_cons (js_if (jt_plain (je_isXo (ans := ans16) W.h_TooMany (je_var (i := 0)) W.q16 W.n_isinstance)) (js_one (js_ret (je_int))) (js_nil))
    (js_one (js_ret (je_if (jt_plain (je_isXT ans18 (pa_cls1 (pa_cls1 (pa_cls1 (pa_cls1 (pa_cls1 (pa_cls0) W.h_OutOfRange) W.h_NoService) W.h_NoWord) W.h_NoThing) W.h_NoFact) (Nat.le_of_ble_eq_true rfl) (je_var (i := 0)) W.q18 W.n_isinstance)) (je_int) (je_int)))))
theorem b__law_base (W : Facts P w T K mg fd) : Binds K (fd 7) ["_law_one"] [] := W.f__law_base.bindsN fun _ _ _ _ _ _ us hl => match us, hl with | [_], _ => rfl
theorem sc_law : FnScope ["_law_script", "_law_pen_here", "_law_turn", "_law_made", "_law_odd_here", "_law_some", "_law_k", "_law_one", "_law_other", "_law_told", "_law_named", "_law_bases", "_law_j"] ["_law_script"] (defScope (top 28)) := ⟨rfl, rfl, rfl, by decide +kernel, rfl, by decide +kernel, by decide +kernel⟩
theorem ok_law (W : Facts P w T K mg fd) : FnG P w K mg base CX0 4 (gloAt "law" K) (fd 8) ["_law_script"] (spOf K T 1 F_law) :=
  fn_ok W.f_law sc_law (k := 3) fun cdv A outer s H E hgu hr =>
    js_cons (js_set (i := 1) sc_law.nd (je_call (ok__law_pen W) hgu (hr.mono (by decide)) W.g__law_pen W.f__law_pen.kp (b__law_pen W) (ja_cons (je_var (i := 0)) (ja_nil))))
    (js_cons (js_for PassesOwn.never rfl (ji_range W.n_range (je_int)) (jg_name (i := 2) sc_law.nd) (js_cons (js_set (i := 4) sc_law.nd (je_call (ok__law_pick W) hgu (hr.mono (by decide)) W.g__law_pick W.f__law_pick.kp (b__law_pick W) (ja_cons (je_var (i := 1)) (ja_cons (je_lst (ja_cons (je_call (ok__law_odd W) hgu (hr.mono (by decide)) W.g__law_odd W.f__law_odd.kp (b__law_odd W) (ja_cons (je_var (i := 1)) (ja_nil))) (ja_cons (je_call (ok__law_odd W) hgu (hr.mono (by decide)) W.g__law_odd W.f__law_odd.kp (b__law_odd W) (ja_cons (je_var (i := 1)) (ja_nil))) (ja_cons (je_tup (ja_cons (je_call (ok__law_odd W) hgu (hr.mono (by decide)) W.g__law_odd W.f__law_odd.kp (b__law_odd W) (ja_cons (je_var (i := 1)) (ja_nil))) (ja_cons (je_call (ok__law_odd W) hgu (hr.mono (by decide)) W.g__law_odd W.f__law_odd.kp (b__law_odd W) (ja_cons (je_var (i := 1)) (ja_nil))) (ja_nil)))) (ja_nil))))) (ja_nil)))))
    (js_cons (js_set (i := 5) sc_law.nd (je_bin opD_add (je_call (ok__law_values W) hgu (hr.mono (by decide)) W.g__law_values W.f__law_values.kp (b__law_values W) (ja_cons (je_var (i := 4)) (ja_nil))) (je_call (ok__law_others W) hgu (hr.mono (by decide)) W.g__law_others W.f__law_others.kp (b__law_others W) (ja_cons (je_var (i := 4)) (ja_nil)))))
    (js_one (js_for PassesOwn.never rfl (ji_range W.n_range (je_B cd_len W.n_len (ja_cons (je_var (i := 5)) (ja_nil)))) (jg_name (i := 6) sc_law.nd) (js_cons (js_asg (je_ix (u1 hr) (je_var (i := 5)) (je_var (i := 6))) (jg_tup rfl (jgs_cons (jg_name (i := 7) sc_law.nd) (jgs_cons (jg_name (i := 8) sc_law.nd) (jgs_cons (jg_name (i := 9) sc_law.nd) (jgs_cons (jg_name (i := 10) sc_law.nd) (jgs_nil)))))))
    (js_cons (js_if (jt_cmpD (opD_ne (u64 hr)) opNe_bool (je_B (cd_reprX W.sysd hgu (u66 hr)) W.n_repr (ja_cons (je_lst (ja_cons (je_var (i := 9)) (ja_cons (je_var (i := 10)) (ja_nil)))) (ja_nil))) (je_B (cd_reprX W.sysd hgu (u66 hr)) W.n_repr (ja_cons (je_lst (ja_cons (je_var (i := 4)) (ja_cons (je_var (i := 4)) (ja_nil)))) (ja_nil)))) (js_one (js_ret (je_bl))) (js_nil))
    (js_one (js_for PassesOwn.never rfl (ji_seq (je_tup (ja_cons (je_var (i := 7)) (ja_cons (je_var (i := 8)) (ja_nil))))) (jg_name (i := 3) sc_law.nd) (js_cons (js_set (i := 11) sc_law.nd (je_lst (ja_cons (je_isXb (ans := ans21) (t := "ValueError") W.n_ValueError (je_var (i := 3)) W.q21 W.n_isinstance) (ja_cons (je_isXb (ans := ans20) (t := "LookupError") W.n_LookupError (je_var (i := 3)) W.q20 W.n_isinstance) (ja_cons (je_isXb (ans := ans19) (t := "OverflowError") W.n_OverflowError (je_var (i := 3)) W.q19 W.n_isinstance) (ja_nil))))))
    (js_cons (js_if (jt_cmpD (opD_ne (u64 hr)) opNe_bool (je_var (i := 11)) (je_comp (own := [("_law_j", 12)]) rfl sc_law.nd (ji_range W.n_range (je_int)) (BlkOk.mk (N := ["_law_script", "_law_pen_here", "_law_turn", "_law_made", "_law_odd_here", "_law_some", "_law_k", "_law_one", "_law_other", "_law_told", "_law_named", "_law_bases", "_law_j"]) (sc := defScope (top 28)) rfl (by decide +kernel) (by decide +kernel) (by decide +kernel) (by decide +kernel)) (fun _ _ _ _ _ => jg_name (i := 12) sc_law.nd) (fun _ _ _ _ _ => jts_nil) (fun _ _ _ _ _ => je_cmpD (opD_eq (u64 hr)) (je_var (i := 12)) (je_call (ok__law_base W) hgu (hr.mono (by decide)) W.g__law_base W.f__law_base.kp (b__law_base W) (ja_cons (je_var (i := 3)) (ja_nil)))))) (js_one (js_ret (je_bl))) (js_nil))
    (js_one (js_if (jt_cmpD (opD_ne (u64 hr)) opNe_bool (je_call (ok__law_kinds_of W) hgu (hr.mono (by decide)) W.g__law_kinds_of W.f__law_kinds_of.kp (b__law_kinds_of W) (ja_cons (je_var (i := 3)) (ja_nil))) (je_comp (own := [("_law_j", 12)]) rfl sc_law.nd (ji_range W.n_range (je_int)) (BlkOk.mk (N := ["_law_script", "_law_pen_here", "_law_turn", "_law_made", "_law_odd_here", "_law_some", "_law_k", "_law_one", "_law_other", "_law_told", "_law_named", "_law_bases", "_law_j"]) (sc := defScope (top 28)) rfl (by decide +kernel) (by decide +kernel) (by decide +kernel) (by decide +kernel)) (fun _ _ _ _ _ => jg_name (i := 12) sc_law.nd) (fun _ _ _ _ _ => jts_nil) (fun _ _ _ _ _ => je_cmpD (opD_eq (u64 hr)) (je_var (i := 12)) (je_var (i := 6))))) (js_one (js_ret (je_bl))) (js_nil))))))))))))))
    (js_cons (js_set (i := 3) sc_law.nd (je_exn0 (c := 10) W.xb_OtherWorld W.x_OtherWorld W.h_OtherWorld W.xk_OtherWorld rfl))
    (js_one (js_ret (je_and (je_isXb (ans := ans21) (t := "ValueError") W.n_ValueError (je_var (i := 3)) W.q21 W.n_isinstance) (je_one (je_cmpD (opD_eq (u64 hr)) (je_call (ok__law_kinds_of W) hgu (hr.mono (by decide)) W.g__law_kinds_of W.f__law_kinds_of.kp (b__law_kinds_of W) (ja_cons (je_var (i := 3)) (ja_nil))) (je_comp (own := [("_law_j", 12)]) rfl sc_law.nd (ji_range W.n_range (je_int)) (BlkOk.mk (N := ["_law_script", "_law_pen_here", "_law_turn", "_law_made", "_law_odd_here", "_law_some", "_law_k", "_law_one", "_law_other", "_law_told", "_law_named", "_law_bases", "_law_j"]) (sc := defScope (top 28)) rfl (by decide +kernel) (by decide +kernel) (by decide +kernel) (by decide +kernel)) (fun _ _ _ _ _ => jg_name (i := 12) sc_law.nd) (fun _ _ _ _ _ => jts_nil) (fun _ _ _ _ _ => je_cmpD (opD_eq (u64 hr)) (je_var (i := 12)) (je_int))))))))))
theorem b_law (W : Facts P w T K mg fd) : Binds K (fd 8) ["_law_script"] [] := W.f_law.bindsN fun _ _ _ _ _ _ us hl => match us, hl with | [_], _ => rfl
end
/-! ### the head -/
def tcls (K : PySem.W.Frag) : Nat → Addr := fun c => gloAt ((["InvalidHandler", "InvalidRows", "InvalidMessage", "InvalidWay", "InvalidService", "InvalidSystem", "NotPlayed", "InvalidState", "InvalidTest", "InvalidCut", "OtherWorld", "InvalidCount", "NoFact", "NoThing", "NoWord", "NoService", "OutOfRange", "TooMany"] : List Str).getD c "InvalidHandler") K
def ds : List DH := [⟨gloAt "_law_pen", "_law_pen", "_law_pen", defArgs (top 20), defBody (top 20), defScope (top 20)⟩,
  ⟨gloAt "_law_draw", "_law_draw", "_law_draw", defArgs (top 21), defBody (top 21), defScope (top 21)⟩,
  ⟨gloAt "_law_pick", "_law_pick", "_law_pick", defArgs (top 22), defBody (top 22), defScope (top 22)⟩,
  ⟨gloAt "_law_values", "_law_values", "_law_values", defArgs (top 24), defBody (top 24), defScope (top 24)⟩,
  ⟨gloAt "_law_others", "_law_others", "_law_others", defArgs (top 25), defBody (top 25), defScope (top 25)⟩,
  ⟨gloAt "_law_kinds_of", "_law_kinds_of", "_law_kinds_of", defArgs (top 27), defBody (top 27), defScope (top 27)⟩,
  ⟨gloAt "_law_odd", "_law_odd", "_law_odd", defArgs (top 23), defBody (top 23), defScope (top 23)⟩,
  ⟨gloAt "_law_base", "_law_base", "_law_base", defArgs (top 26), defBody (top 26), defScope (top 26)⟩,
  ⟨gloAt "law", "law", "law", defArgs (top 28), defBody (top 28), defScope (top 28)⟩]
def fs : List Fc := [isSysD,
  isGlo "_law_pen",
  isGlo "_law_draw",
  isGlo "_law_pick",
  isGlo "_law_values",
  isGlo "_law_others",
  isGlo "_law_kinds_of",
  isGlo "_law_odd",
  isGlo "_law_base",
  isGlo "law",
  isFree "list",
  isFree "int",
  isFree "len",
  isFree "abs",
  isFree "isinstance",
  isFree "range",
  isFree "repr",
  isFree "OverflowError",
  isFree "LookupError",
  isFree "ValueError",
  isGlo "InvalidHandler",
  isGlo "InvalidRows",
  isGlo "InvalidMessage",
  isGlo "InvalidWay",
  isGlo "InvalidService",
  isGlo "InvalidSystem",
  isGlo "NotPlayed",
  isGlo "InvalidState",
  isGlo "InvalidTest",
  isGlo "InvalidCut",
  isGlo "OtherWorld",
  isGlo "InvalidCount",
  isGlo "NoFact",
  isGlo "NoThing",
  isGlo "NoWord",
  isGlo "NoService",
  isGlo "OutOfRange",
  isGlo "TooMany",
  (fun K => xInB (tcls K 1) (mAt "InvalidRows" "__init__" K) (⟨([118, 97, 108, 117, 101] : List Nat).toArray⟩ : Str) "/claim/cut.py" "ValueError" "ValueError.__init__" "ValueError.__new__" [.type "ValueError", .type "Exception", .type "BaseException", .type "object"] K),
  (fun K => xInB (tcls K 0) (mAt "InvalidHandler" "__init__" K) (⟨([118, 97, 108, 117, 101] : List Nat).toArray⟩ : Str) "/claim/cut.py" "ValueError" "ValueError.__init__" "ValueError.__new__" [.type "ValueError", .type "Exception", .type "BaseException", .type "object"] K),
  (fun K => xInB (tcls K 2) (mAt "InvalidMessage" "__init__" K) (⟨([118, 97, 108, 117, 101] : List Nat).toArray⟩ : Str) "/claim/cut.py" "ValueError" "ValueError.__init__" "ValueError.__new__" [.type "ValueError", .type "Exception", .type "BaseException", .type "object"] K),
  (fun K => xInB (tcls K 7) (mAt "InvalidState" "__init__" K) (⟨([118, 97, 108, 117, 101] : List Nat).toArray⟩ : Str) "/claim/cut.py" "ValueError" "ValueError.__init__" "ValueError.__new__" [.type "ValueError", .type "Exception", .type "BaseException", .type "object"] K),
  (fun K => xInB (tcls K 3) (mAt "InvalidWay" "__init__" K) (⟨([118, 97, 108, 117, 101] : List Nat).toArray⟩ : Str) "/claim/cut.py" "ValueError" "ValueError.__init__" "ValueError.__new__" [.type "ValueError", .type "Exception", .type "BaseException", .type "object"] K),
  (fun K => xInB (tcls K 15) (mAt "NoService" "__init__" K) (⟨([118, 97, 108, 117, 101] : List Nat).toArray⟩ : Str) "/claim/cut.py" "LookupError" "LookupError.__init__" "LookupError.__new__" [.type "LookupError", .type "Exception", .type "BaseException", .type "object"] K),
  (fun K => xInB (tcls K 11) (mAt "InvalidCount" "__init__" K) (⟨([118, 97, 108, 117, 101] : List Nat).toArray⟩ : Str) "/claim/cut.py" "ValueError" "ValueError.__init__" "ValueError.__new__" [.type "ValueError", .type "Exception", .type "BaseException", .type "object"] K),
  (fun K => xInB (tcls K 5) (mAt "InvalidSystem" "__init__" K) (⟨([114, 101, 97, 115, 111, 110] : List Nat).toArray⟩ : Str) "/claim/cut.py" "ValueError" "ValueError.__init__" "ValueError.__new__" [.type "ValueError", .type "Exception", .type "BaseException", .type "object"] K),
  (fun K => xInB (tcls K 4) (mAt "InvalidService" "__init__" K) (⟨([114, 101, 97, 115, 111, 110] : List Nat).toArray⟩ : Str) "/claim/cut.py" "ValueError" "ValueError.__init__" "ValueError.__new__" [.type "ValueError", .type "Exception", .type "BaseException", .type "object"] K),
  (fun K => xInB (tcls K 6) (mAt "NotPlayed" "__init__" K) (⟨([105, 110, 100, 101, 120] : List Nat).toArray⟩ : Str) "/claim/cut.py" "ValueError" "ValueError.__init__" "ValueError.__new__" [.type "ValueError", .type "Exception", .type "BaseException", .type "object"] K),
  (fun K => xInB (tcls K 8) (mAt "InvalidTest" "__init__" K) (⟨([116, 101, 115, 116] : List Nat).toArray⟩ : Str) "/claim/cut.py" "ValueError" "ValueError.__init__" "ValueError.__new__" [.type "ValueError", .type "Exception", .type "BaseException", .type "object"] K),
  (fun K => xInB (tcls K 9) (mAt "InvalidCut" "__init__" K) (⟨([99, 117, 116] : List Nat).toArray⟩ : Str) "/claim/cut.py" "ValueError" "ValueError.__init__" "ValueError.__new__" [.type "ValueError", .type "Exception", .type "BaseException", .type "object"] K),
  (fun K => xInB (tcls K 12) (mAt "NoFact" "__init__" K) (⟨([102, 97, 99, 116] : List Nat).toArray⟩ : Str) "/claim/cut.py" "LookupError" "LookupError.__init__" "LookupError.__new__" [.type "LookupError", .type "Exception", .type "BaseException", .type "object"] K),
  (fun K => xInB (tcls K 13) (mAt "NoThing" "__init__" K) (⟨([116, 104, 105, 110, 103] : List Nat).toArray⟩ : Str) "/claim/cut.py" "LookupError" "LookupError.__init__" "LookupError.__new__" [.type "LookupError", .type "Exception", .type "BaseException", .type "object"] K),
  (fun K => xInB (tcls K 14) (mAt "NoWord" "__init__" K) (⟨([119, 111, 114, 100] : List Nat).toArray⟩ : Str) "/claim/cut.py" "LookupError" "LookupError.__init__" "LookupError.__new__" [.type "LookupError", .type "Exception", .type "BaseException", .type "object"] K),
  (fun K => xInB (tcls K 16) (mAt "OutOfRange" "__init__" K) (⟨([99, 111, 117, 110, 116] : List Nat).toArray⟩ : Str) "/claim/cut.py" "LookupError" "LookupError.__init__" "LookupError.__new__" [.type "LookupError", .type "Exception", .type "BaseException", .type "object"] K),
  (fun K => xInB (tcls K 17) (mAt "TooMany" "__init__" K) (⟨([109, 111, 115, 116] : List Nat).toArray⟩ : Str) "/claim/cut.py" "OverflowError" "OverflowError.__init__" "OverflowError.__new__" [.type "OverflowError", .type "ArithmeticError", .type "Exception", .type "BaseException", .type "object"] K),
  (fun K => PySem.W.excIn K (tcls K 10) [.type "ValueError", .type "Exception", .type "BaseException", .type "object"] "ValueError.__new__"),
  (fun K => PySem.W.keepIn K (.ref (tcls K 10))),
  isAns tcls (fun K => .ref (tcls K 2)) [false, false, true, false, false, false, false, false, false, false, false, false, false, false, false, false, false, false],
  isAns tcls (fun K => .ref (tcls K 1)) [false, true, false, false, false, false, false, false, false, false, false, false, false, false, false, false, false, false],
  isAns tcls (fun K => .ref (tcls K 0)) [true, false, false, false, false, false, false, false, false, false, false, false, false, false, false, false, false, false],
  isAns tcls (fun K => .ref (tcls K 11)) [false, false, false, false, false, false, false, false, false, false, false, true, false, false, false, false, false, false],
  isAns tcls (fun K => .ref (tcls K 7)) [false, false, false, false, false, false, false, true, false, false, false, false, false, false, false, false, false, false],
  isAns tcls (fun K => .ref (tcls K 3)) [false, false, false, true, false, false, false, false, false, false, false, false, false, false, false, false, false, false],
  isAns tcls (fun K => .ref (tcls K 5)) [false, false, false, false, false, true, false, false, false, false, false, false, false, false, false, false, false, false],
  isAns tcls (fun K => .ref (tcls K 4)) [false, false, false, false, true, false, false, false, false, false, false, false, false, false, false, false, false, false],
  isAns tcls (fun K => .ref (tcls K 15)) [false, false, false, false, false, false, false, false, false, false, false, false, false, false, false, true, false, false],
  isAns tcls (fun K => .ref (tcls K 9)) [false, false, false, false, false, false, false, false, false, true, false, false, false, false, false, false, false, false],
  isAns tcls (fun K => .ref (tcls K 8)) [false, false, false, false, false, false, false, false, true, false, false, false, false, false, false, false, false, false],
  isAns tcls (fun K => .ref (tcls K 6)) [false, false, false, false, false, false, true, false, false, false, false, false, false, false, false, false, false, false],
  isAns tcls (fun K => .ref (tcls K 14)) [false, false, false, false, false, false, false, false, false, false, false, false, false, false, true, false, false, false],
  isAns tcls (fun K => .ref (tcls K 13)) [false, false, false, false, false, false, false, false, false, false, false, false, false, true, false, false, false, false],
  isAns tcls (fun K => .ref (tcls K 12)) [false, false, false, false, false, false, false, false, false, false, false, false, true, false, false, false, false, false],
  isAns tcls (fun K => .ref (tcls K 10)) [false, false, false, false, false, false, false, false, false, false, true, false, false, false, false, false, false, false],
  isAns tcls (fun K => .ref (tcls K 17)) [false, false, false, false, false, false, false, false, false, false, false, false, false, false, false, false, false, true],
  isAns tcls (fun K => .ref (tcls K 16)) [false, false, false, false, false, false, false, false, false, false, false, false, false, false, false, false, true, false],
  isAnsT tcls (fun K => [tcls K 12, tcls K 13, tcls K 14, tcls K 15, tcls K 16]) [false, false, false, false, false, false, false, false, false, false, false, false, true, true, true, true, true, false],
  isAns tcls (fun K => .type "OverflowError") [false, false, false, false, false, false, false, false, false, false, false, false, false, false, false, false, false, true],
  isAns tcls (fun K => .type "LookupError") [false, false, false, false, false, false, false, false, false, false, false, false, true, true, true, true, true, false],
  isAns tcls (fun K => .type "ValueError") [true, true, true, true, true, true, true, true, true, true, true, true, false, false, false, false, false, false],
  isFx tcls (⟨([118, 97, 108, 117, 101] : List Nat).toArray⟩ : Str) [true, true, true, true, false, false, false, true, false, false, false, true, false, false, false, true, false, false],
  isFx tcls (⟨([114, 101, 97, 115, 111, 110] : List Nat).toArray⟩ : Str) [false, false, false, false, true, true, false, false, false, false, false, false, false, false, false, false, false, false],
  isFx tcls (⟨([105, 110, 100, 101, 120] : List Nat).toArray⟩ : Str) [false, false, false, false, false, false, true, false, false, false, false, false, false, false, false, false, false, false],
  isFx tcls (⟨([116, 101, 115, 116] : List Nat).toArray⟩ : Str) [false, false, false, false, false, false, false, false, true, false, false, false, false, false, false, false, false, false],
  isFx tcls (⟨([99, 117, 116] : List Nat).toArray⟩ : Str) [false, false, false, false, false, false, false, false, false, true, false, false, false, false, false, false, false, false],
  isFx tcls (⟨([102, 97, 99, 116] : List Nat).toArray⟩ : Str) [false, false, false, false, false, false, false, false, false, false, false, false, true, false, false, false, false, false],
  isFx tcls (⟨([116, 104, 105, 110, 103] : List Nat).toArray⟩ : Str) [false, false, false, false, false, false, false, false, false, false, false, false, false, true, false, false, false, false],
  isFx tcls (⟨([119, 111, 114, 100] : List Nat).toArray⟩ : Str) [false, false, false, false, false, false, false, false, false, false, false, false, false, false, true, false, false, false],
  isFx tcls (⟨([99, 111, 117, 110, 116] : List Nat).toArray⟩ : Str) [false, false, false, false, false, false, false, false, false, false, false, false, false, false, false, false, true, false],
  isFx tcls (⟨([109, 111, 115, 116] : List Nat).toArray⟩ : Str) [false, false, false, false, false, false, false, false, false, false, false, false, false, false, false, false, false, true]]
theorem facts {K : PySem.W.Frag} {h : Heap} {mg : Str → Option Value} {T : Tb} {P : Program} {w : World} (tw : T.w = w) (tp : T.P = P) (pf : ((P.main.file : Str) == "/claim/cut.py") = true) (ps : (P.main.scope.names.lookup ("super" : Str)).isSome = false) (tc : T.cls = tcls K) (I : K.In h) (G : h.Ns mainGlobals mg) (c : obsV fs ds K = goodV ds) : ∃ fd : Nat → FuncData, Facts P w T K mg fd := by
  obtain ⟨d0, f0⟩ := said_def c 0
  obtain ⟨d1, f1⟩ := said_def c 1
  obtain ⟨d2, f2⟩ := said_def c 2
  obtain ⟨d3, f3⟩ := said_def c 3
  obtain ⟨d4, f4⟩ := said_def c 4
  obtain ⟨d5, f5⟩ := said_def c 5
  obtain ⟨d6, f6⟩ := said_def c 6
  obtain ⟨d7, f7⟩ := said_def c 7
  obtain ⟨d8, f8⟩ := said_def c 8
  exact ⟨fun i => [d0, d1, d2, d3, d4, d5, d6, d7, d8].getD i d0, tw, tp, pf, ps, sysD_of (said_fact c 0 (f := isSysD)),
    f0,
    glo_of I G (said_fact c 1 (f := isGlo "_law_pen")),
    f1,
    glo_of I G (said_fact c 2 (f := isGlo "_law_draw")),
    f2,
    glo_of I G (said_fact c 3 (f := isGlo "_law_pick")),
    f3,
    glo_of I G (said_fact c 4 (f := isGlo "_law_values")),
    f4,
    glo_of I G (said_fact c 5 (f := isGlo "_law_others")),
    f5,
    glo_of I G (said_fact c 6 (f := isGlo "_law_kinds_of")),
    f6,
    glo_of I G (said_fact c 7 (f := isGlo "_law_odd")),
    f7,
    glo_of I G (said_fact c 8 (f := isGlo "_law_base")),
    f8,
    glo_of I G (said_fact c 9 (f := isGlo "law")),
    free_of I G (said_fact c 10 (f := isFree "list")),
    free_of I G (said_fact c 11 (f := isFree "int")),
    free_of I G (said_fact c 12 (f := isFree "len")),
    free_of I G (said_fact c 13 (f := isFree "abs")),
    free_of I G (said_fact c 14 (f := isFree "isinstance")),
    free_of I G (said_fact c 15 (f := isFree "range")),
    free_of I G (said_fact c 16 (f := isFree "repr")),
    free_of I G (said_fact c 17 (f := isFree "OverflowError")),
    free_of I G (said_fact c 18 (f := isFree "LookupError")),
    free_of I G (said_fact c 19 (f := isFree "ValueError")),
    (by rw [tc]; exact glo_of I G (said_fact c 20 (f := isGlo "InvalidHandler"))),
    (by rw [tc]; exact glo_of I G (said_fact c 21 (f := isGlo "InvalidRows"))),
    (by rw [tc]; exact glo_of I G (said_fact c 22 (f := isGlo "InvalidMessage"))),
    (by rw [tc]; exact glo_of I G (said_fact c 23 (f := isGlo "InvalidWay"))),
    (by rw [tc]; exact glo_of I G (said_fact c 24 (f := isGlo "InvalidService"))),
    (by rw [tc]; exact glo_of I G (said_fact c 25 (f := isGlo "InvalidSystem"))),
    (by rw [tc]; exact glo_of I G (said_fact c 26 (f := isGlo "NotPlayed"))),
    (by rw [tc]; exact glo_of I G (said_fact c 27 (f := isGlo "InvalidState"))),
    (by rw [tc]; exact glo_of I G (said_fact c 28 (f := isGlo "InvalidTest"))),
    (by rw [tc]; exact glo_of I G (said_fact c 29 (f := isGlo "InvalidCut"))),
    (by rw [tc]; exact glo_of I G (said_fact c 30 (f := isGlo "OtherWorld"))),
    (by rw [tc]; exact glo_of I G (said_fact c 31 (f := isGlo "InvalidCount"))),
    (by rw [tc]; exact glo_of I G (said_fact c 32 (f := isGlo "NoFact"))),
    (by rw [tc]; exact glo_of I G (said_fact c 33 (f := isGlo "NoThing"))),
    (by rw [tc]; exact glo_of I G (said_fact c 34 (f := isGlo "NoWord"))),
    (by rw [tc]; exact glo_of I G (said_fact c 35 (f := isGlo "NoService"))),
    (by rw [tc]; exact glo_of I G (said_fact c 36 (f := isGlo "OutOfRange"))),
    (by rw [tc]; exact glo_of I G (said_fact c 37 (f := isGlo "TooMany"))),
    (by rw [tc]; exact xcl_of (said_fact c 38 (f := (fun K => xInB (tcls K 1) (mAt "InvalidRows" "__init__" K) (⟨([118, 97, 108, 117, 101] : List Nat).toArray⟩ : Str) "/claim/cut.py" "ValueError" "ValueError.__init__" "ValueError.__new__" [.type "ValueError", .type "Exception", .type "BaseException", .type "object"] K)))),
    (by rw [tc]; exact xcl_of (said_fact c 39 (f := (fun K => xInB (tcls K 0) (mAt "InvalidHandler" "__init__" K) (⟨([118, 97, 108, 117, 101] : List Nat).toArray⟩ : Str) "/claim/cut.py" "ValueError" "ValueError.__init__" "ValueError.__new__" [.type "ValueError", .type "Exception", .type "BaseException", .type "object"] K)))),
    (by rw [tc]; exact xcl_of (said_fact c 40 (f := (fun K => xInB (tcls K 2) (mAt "InvalidMessage" "__init__" K) (⟨([118, 97, 108, 117, 101] : List Nat).toArray⟩ : Str) "/claim/cut.py" "ValueError" "ValueError.__init__" "ValueError.__new__" [.type "ValueError", .type "Exception", .type "BaseException", .type "object"] K)))),
    (by rw [tc]; exact xcl_of (said_fact c 41 (f := (fun K => xInB (tcls K 7) (mAt "InvalidState" "__init__" K) (⟨([118, 97, 108, 117, 101] : List Nat).toArray⟩ : Str) "/claim/cut.py" "ValueError" "ValueError.__init__" "ValueError.__new__" [.type "ValueError", .type "Exception", .type "BaseException", .type "object"] K)))),
    (by rw [tc]; exact xcl_of (said_fact c 42 (f := (fun K => xInB (tcls K 3) (mAt "InvalidWay" "__init__" K) (⟨([118, 97, 108, 117, 101] : List Nat).toArray⟩ : Str) "/claim/cut.py" "ValueError" "ValueError.__init__" "ValueError.__new__" [.type "ValueError", .type "Exception", .type "BaseException", .type "object"] K)))),
    (by rw [tc]; exact xcl_of (said_fact c 43 (f := (fun K => xInB (tcls K 15) (mAt "NoService" "__init__" K) (⟨([118, 97, 108, 117, 101] : List Nat).toArray⟩ : Str) "/claim/cut.py" "LookupError" "LookupError.__init__" "LookupError.__new__" [.type "LookupError", .type "Exception", .type "BaseException", .type "object"] K)))),
    (by rw [tc]; exact xcl_of (said_fact c 44 (f := (fun K => xInB (tcls K 11) (mAt "InvalidCount" "__init__" K) (⟨([118, 97, 108, 117, 101] : List Nat).toArray⟩ : Str) "/claim/cut.py" "ValueError" "ValueError.__init__" "ValueError.__new__" [.type "ValueError", .type "Exception", .type "BaseException", .type "object"] K)))),
    (by rw [tc]; exact xcl_of (said_fact c 45 (f := (fun K => xInB (tcls K 5) (mAt "InvalidSystem" "__init__" K) (⟨([114, 101, 97, 115, 111, 110] : List Nat).toArray⟩ : Str) "/claim/cut.py" "ValueError" "ValueError.__init__" "ValueError.__new__" [.type "ValueError", .type "Exception", .type "BaseException", .type "object"] K)))),
    (by rw [tc]; exact xcl_of (said_fact c 46 (f := (fun K => xInB (tcls K 4) (mAt "InvalidService" "__init__" K) (⟨([114, 101, 97, 115, 111, 110] : List Nat).toArray⟩ : Str) "/claim/cut.py" "ValueError" "ValueError.__init__" "ValueError.__new__" [.type "ValueError", .type "Exception", .type "BaseException", .type "object"] K)))),
    (by rw [tc]; exact xcl_of (said_fact c 47 (f := (fun K => xInB (tcls K 6) (mAt "NotPlayed" "__init__" K) (⟨([105, 110, 100, 101, 120] : List Nat).toArray⟩ : Str) "/claim/cut.py" "ValueError" "ValueError.__init__" "ValueError.__new__" [.type "ValueError", .type "Exception", .type "BaseException", .type "object"] K)))),
    (by rw [tc]; exact xcl_of (said_fact c 48 (f := (fun K => xInB (tcls K 8) (mAt "InvalidTest" "__init__" K) (⟨([116, 101, 115, 116] : List Nat).toArray⟩ : Str) "/claim/cut.py" "ValueError" "ValueError.__init__" "ValueError.__new__" [.type "ValueError", .type "Exception", .type "BaseException", .type "object"] K)))),
    (by rw [tc]; exact xcl_of (said_fact c 49 (f := (fun K => xInB (tcls K 9) (mAt "InvalidCut" "__init__" K) (⟨([99, 117, 116] : List Nat).toArray⟩ : Str) "/claim/cut.py" "ValueError" "ValueError.__init__" "ValueError.__new__" [.type "ValueError", .type "Exception", .type "BaseException", .type "object"] K)))),
    (by rw [tc]; exact xcl_of (said_fact c 50 (f := (fun K => xInB (tcls K 12) (mAt "NoFact" "__init__" K) (⟨([102, 97, 99, 116] : List Nat).toArray⟩ : Str) "/claim/cut.py" "LookupError" "LookupError.__init__" "LookupError.__new__" [.type "LookupError", .type "Exception", .type "BaseException", .type "object"] K)))),
    (by rw [tc]; exact xcl_of (said_fact c 51 (f := (fun K => xInB (tcls K 13) (mAt "NoThing" "__init__" K) (⟨([116, 104, 105, 110, 103] : List Nat).toArray⟩ : Str) "/claim/cut.py" "LookupError" "LookupError.__init__" "LookupError.__new__" [.type "LookupError", .type "Exception", .type "BaseException", .type "object"] K)))),
    (by rw [tc]; exact xcl_of (said_fact c 52 (f := (fun K => xInB (tcls K 14) (mAt "NoWord" "__init__" K) (⟨([119, 111, 114, 100] : List Nat).toArray⟩ : Str) "/claim/cut.py" "LookupError" "LookupError.__init__" "LookupError.__new__" [.type "LookupError", .type "Exception", .type "BaseException", .type "object"] K)))),
    (by rw [tc]; exact xcl_of (said_fact c 53 (f := (fun K => xInB (tcls K 16) (mAt "OutOfRange" "__init__" K) (⟨([99, 111, 117, 110, 116] : List Nat).toArray⟩ : Str) "/claim/cut.py" "LookupError" "LookupError.__init__" "LookupError.__new__" [.type "LookupError", .type "Exception", .type "BaseException", .type "object"] K)))),
    (by rw [tc]; exact xcl_of (said_fact c 54 (f := (fun K => xInB (tcls K 17) (mAt "TooMany" "__init__" K) (⟨([109, 111, 115, 116] : List Nat).toArray⟩ : Str) "/claim/cut.py" "OverflowError" "OverflowError.__init__" "OverflowError.__new__" [.type "OverflowError", .type "ArithmeticError", .type "Exception", .type "BaseException", .type "object"] K)))),
    xb_ve.FB,
    (by rw [tc]; exact said_fact c 55 (f := (fun K => PySem.W.excIn K (tcls K 10) [.type "ValueError", .type "Exception", .type "BaseException", .type "object"] "ValueError.__new__"))),
    (by rw [tc]; exact said_fact c 56 (f := (fun K => PySem.W.keepIn K (.ref (tcls K 10))))),
    (by rw [tc]; exact ans_of (said_fact c 57 (f := isAns tcls (fun K => .ref (tcls K 2)) [false, false, true, false, false, false, false, false, false, false, false, false, false, false, false, false, false, false]))),
    (by rw [tc]; exact ans_of (said_fact c 58 (f := isAns tcls (fun K => .ref (tcls K 1)) [false, true, false, false, false, false, false, false, false, false, false, false, false, false, false, false, false, false]))),
    (by rw [tc]; exact ans_of (said_fact c 59 (f := isAns tcls (fun K => .ref (tcls K 0)) [true, false, false, false, false, false, false, false, false, false, false, false, false, false, false, false, false, false]))),
    (by rw [tc]; exact ans_of (said_fact c 60 (f := isAns tcls (fun K => .ref (tcls K 11)) [false, false, false, false, false, false, false, false, false, false, false, true, false, false, false, false, false, false]))),
    (by rw [tc]; exact ans_of (said_fact c 61 (f := isAns tcls (fun K => .ref (tcls K 7)) [false, false, false, false, false, false, false, true, false, false, false, false, false, false, false, false, false, false]))),
    (by rw [tc]; exact ans_of (said_fact c 62 (f := isAns tcls (fun K => .ref (tcls K 3)) [false, false, false, true, false, false, false, false, false, false, false, false, false, false, false, false, false, false]))),
    (by rw [tc]; exact ans_of (said_fact c 63 (f := isAns tcls (fun K => .ref (tcls K 5)) [false, false, false, false, false, true, false, false, false, false, false, false, false, false, false, false, false, false]))),
    (by rw [tc]; exact ans_of (said_fact c 64 (f := isAns tcls (fun K => .ref (tcls K 4)) [false, false, false, false, true, false, false, false, false, false, false, false, false, false, false, false, false, false]))),
    (by rw [tc]; exact ans_of (said_fact c 65 (f := isAns tcls (fun K => .ref (tcls K 15)) [false, false, false, false, false, false, false, false, false, false, false, false, false, false, false, true, false, false]))),
    (by rw [tc]; exact ans_of (said_fact c 66 (f := isAns tcls (fun K => .ref (tcls K 9)) [false, false, false, false, false, false, false, false, false, true, false, false, false, false, false, false, false, false]))),
    (by rw [tc]; exact ans_of (said_fact c 67 (f := isAns tcls (fun K => .ref (tcls K 8)) [false, false, false, false, false, false, false, false, true, false, false, false, false, false, false, false, false, false]))),
    (by rw [tc]; exact ans_of (said_fact c 68 (f := isAns tcls (fun K => .ref (tcls K 6)) [false, false, false, false, false, false, true, false, false, false, false, false, false, false, false, false, false, false]))),
    (by rw [tc]; exact ans_of (said_fact c 69 (f := isAns tcls (fun K => .ref (tcls K 14)) [false, false, false, false, false, false, false, false, false, false, false, false, false, false, true, false, false, false]))),
    (by rw [tc]; exact ans_of (said_fact c 70 (f := isAns tcls (fun K => .ref (tcls K 13)) [false, false, false, false, false, false, false, false, false, false, false, false, false, true, false, false, false, false]))),
    (by rw [tc]; exact ans_of (said_fact c 71 (f := isAns tcls (fun K => .ref (tcls K 12)) [false, false, false, false, false, false, false, false, false, false, false, false, true, false, false, false, false, false]))),
    (by rw [tc]; exact ans_of (said_fact c 72 (f := isAns tcls (fun K => .ref (tcls K 10)) [false, false, false, false, false, false, false, false, false, false, true, false, false, false, false, false, false, false]))),
    (by rw [tc]; exact ans_of (said_fact c 73 (f := isAns tcls (fun K => .ref (tcls K 17)) [false, false, false, false, false, false, false, false, false, false, false, false, false, false, false, false, false, true]))),
    (by rw [tc]; exact ans_of (said_fact c 74 (f := isAns tcls (fun K => .ref (tcls K 16)) [false, false, false, false, false, false, false, false, false, false, false, false, false, false, false, false, true, false]))),
    (by rw [tc]; exact ansT_of (said_fact c 75 (f := isAnsT tcls (fun K => [tcls K 12, tcls K 13, tcls K 14, tcls K 15, tcls K 16]) [false, false, false, false, false, false, false, false, false, false, false, false, true, true, true, true, true, false]))),
    (by rw [tc]; exact ans_of (said_fact c 76 (f := isAns tcls (fun K => .type "OverflowError") [false, false, false, false, false, false, false, false, false, false, false, false, false, false, false, false, false, true]))),
    (by rw [tc]; exact ans_of (said_fact c 77 (f := isAns tcls (fun K => .type "LookupError") [false, false, false, false, false, false, false, false, false, false, false, false, true, true, true, true, true, false]))),
    (by rw [tc]; exact ans_of (said_fact c 78 (f := isAns tcls (fun K => .type "ValueError") [true, true, true, true, true, true, true, true, true, true, true, true, false, false, false, false, false, false]))),
    (by rw [tc]; exact fx_of (said_fact c 79 (f := isFx tcls (⟨([118, 97, 108, 117, 101] : List Nat).toArray⟩ : Str) [true, true, true, true, false, false, false, true, false, false, false, true, false, false, false, true, false, false]))),
    (by rw [tc]; exact fx_of (said_fact c 80 (f := isFx tcls (⟨([114, 101, 97, 115, 111, 110] : List Nat).toArray⟩ : Str) [false, false, false, false, true, true, false, false, false, false, false, false, false, false, false, false, false, false]))),
    (by rw [tc]; exact fx_of (said_fact c 81 (f := isFx tcls (⟨([105, 110, 100, 101, 120] : List Nat).toArray⟩ : Str) [false, false, false, false, false, false, true, false, false, false, false, false, false, false, false, false, false, false]))),
    (by rw [tc]; exact fx_of (said_fact c 82 (f := isFx tcls (⟨([116, 101, 115, 116] : List Nat).toArray⟩ : Str) [false, false, false, false, false, false, false, false, true, false, false, false, false, false, false, false, false, false]))),
    (by rw [tc]; exact fx_of (said_fact c 83 (f := isFx tcls (⟨([99, 117, 116] : List Nat).toArray⟩ : Str) [false, false, false, false, false, false, false, false, false, true, false, false, false, false, false, false, false, false]))),
    (by rw [tc]; exact fx_of (said_fact c 84 (f := isFx tcls (⟨([102, 97, 99, 116] : List Nat).toArray⟩ : Str) [false, false, false, false, false, false, false, false, false, false, false, false, true, false, false, false, false, false]))),
    (by rw [tc]; exact fx_of (said_fact c 85 (f := isFx tcls (⟨([116, 104, 105, 110, 103] : List Nat).toArray⟩ : Str) [false, false, false, false, false, false, false, false, false, false, false, false, false, true, false, false, false, false]))),
    (by rw [tc]; exact fx_of (said_fact c 86 (f := isFx tcls (⟨([119, 111, 114, 100] : List Nat).toArray⟩ : Str) [false, false, false, false, false, false, false, false, false, false, false, false, false, false, true, false, false, false]))),
    (by rw [tc]; exact fx_of (said_fact c 87 (f := isFx tcls (⟨([99, 111, 117, 110, 116] : List Nat).toArray⟩ : Str) [false, false, false, false, false, false, false, false, false, false, false, false, false, false, false, false, true, false]))),
    (by rw [tc]; exact fx_of (said_fact c 88 (f := isFx tcls (⟨([109, 111, 115, 116] : List Nat).toArray⟩ : Str) [false, false, false, false, false, false, false, false, false, false, false, false, false, false, false, false, false, true])))⟩
abbrev R : PySem.W.OpenRow := PySem.W.OpenLaw.row PySem.Challenge.rw_oncepost_k00_errors
abbrev hk : PySem.W.Hook := hookV 7 fs ds
def ob (s : PySem.W.SharedT) : Bool × List He.FnW := obsVG 7 fs ds (HandSHeadRun.getT s)
theorem ob_eq (s : PySem.W.SharedT) : ob s = hk.obs s.abs := obsVG_eq (HandSHeadRun.getT_eq s)
def names : List PySem.Str := [PySem.Str.ofString "__name__", PySem.Str.ofString "InvalidHandler", PySem.Str.ofString "InvalidRows", PySem.Str.ofString "InvalidMessage", PySem.Str.ofString "InvalidWay", PySem.Str.ofString "InvalidService", PySem.Str.ofString "InvalidSystem", PySem.Str.ofString "NotPlayed", PySem.Str.ofString "InvalidState", PySem.Str.ofString "InvalidTest", PySem.Str.ofString "InvalidCut", PySem.Str.ofString "OtherWorld", PySem.Str.ofString "InvalidCount", PySem.Str.ofString "NoFact", PySem.Str.ofString "NoThing", PySem.Str.ofString "NoWord", PySem.Str.ofString "NoService", PySem.Str.ofString "OutOfRange", PySem.Str.ofString "TooMany", PySem.Str.ofString "_law_pen", PySem.Str.ofString "_law_draw", PySem.Str.ofString "_law_pick", PySem.Str.ofString "_law_odd", PySem.Str.ofString "_law_values", PySem.Str.ofString "_law_others", PySem.Str.ofString "_law_base", PySem.Str.ofString "_law_kinds_of"]
end K00
end Ev

set_option linter.all false
set_option maxRecDepth 100000
set_option maxHeartbeats 1000000
namespace Ev
namespace K00
abbrev sCells : List Nat := [99, 101, 108, 108, 115]
abbrev sAt : List Nat := [97, 116]
abbrev sRest : List Nat := [114, 101, 115, 116]
def pen (cs : List D) (b r : Int) : Ob := .dct [.str sCells, .str sAt, .str sRest] [.d (.lst cs), .d (.int b), .d (.int r)]
def dP (cs : List D) (b r : Int) : D := .dct [.str sCells, .str sAt, .str sRest] [.lst cs, .int b, .int r]
section
variable {cs : List D} {b r z : Int} {R : Hs}
theorem v_pen : vw [] (pen cs b r :: R) (.ref 0) = some (dP cs b r) := rfl
theorem i_rest : opIx (dP cs b r) (.str [114, 101, 115, 116]) = some (.int r) := rfl
theorem i_at : opIx (dP cs b r) (.str [97, 116]) = some (.int b) := rfl
theorem i_cells : opIx (dP cs b r) (.str [99, 101, 108, 108, 115]) = some (.lst cs) := rfl
theorem p_rest : putIn [] (pen cs b r :: R) (.ref 0) (.str [114, 101, 115, 116]) (.d (.int z)) = some (pen cs b z :: R) := rfl
theorem p_at : putIn [] (pen cs b r :: R) (.ref 0) (.str [97, 116]) (.d (.int z)) = some (pen cs z r :: R) := rfl
end
theorem p18 : opPow (.int 10) (.int 18) = some (.int 1000000000000000000) := rfl
theorem mulOk_l {m n : Int} (h : m.natAbs < 2 ^ 64) : mulOk m n = true := by
  unfold mulOk
  rw [decide_eq_true h]
  rfl
theorem mulOk_r {m n : Int} (h : n.natAbs < 2 ^ 64) : mulOk m n = true := by
  unfold mulOk
  rw [decide_eq_true h]
  cases decide (m.natAbs < 2 ^ 64) <;> rfl
theorem log2_400 {n : Nat} (h : n < 2 ^ 400) : n.log2 < 400 := by
  by_cases h0 : n = 0
  · subst h0; decide +kernel
  · exact (Nat.log2_lt h0).mpr h
theorem mulOk_s {m n : Int} (h1 : m.natAbs < 2 ^ 400) (h2 : n.natAbs < 2 ^ 400) : mulOk m n = true := by
  have a := log2_400 h1
  have b := log2_400 h2
  unfold mulOk
  rw [decide_eq_true (show m.natAbs.log2 + n.natAbs.log2 < 1000000 by omega), Bool.or_true]
theorem draw_rest (cs : List D) (b r m : Int) (R : Hs) (hr : 0 < r) (hm : 0 < m) (hg : m.natAbs.log2 < 9000) : F__law_draw [.ref 0, .d (.int m)] [] (pen cs b r :: R) = .ok (.d (.int (r % m))) (pen cs b (r / m) :: R) := by
  unfold F__law_draw
  refine x_fn rfl (r1 := .ret (.d (.int (r % m))) (pen cs b (r / m) :: R)) ?_ rfl
  (repeat' (first | (with_reducible first | exact v_pen | exact i_rest | exact i_at | exact i_cells | exact p_rest | exact p_at | exact p18 | exact r_ok | exact x_c | exact x_nil | exact x_vnil | exact x_pnil | exact x_snil | exact x_gvar | exact x_gnil | exact x_oNone | exact v_d | exact t_bl | exact t_int | exact t_non | exact o_add | exact o_sub | exact o_lt | exact o_le | exact o_gt | exact o_ge | exact o_eqI | exact o_eqS | exact o_neI | exact o_neS | exact b_len | exact b_lenT | exact b_lenS | exact b_abs | exact b_int | exact b_intB | exact b_max | exact b_min | exact w_nil | apply w_cons | exact x_fornil | exact x_turnB | exact x_turnR | exact e_ret | exact e_next | exact o_out | apply x_for | apply x_forcons | apply x_turnN | apply x_turnC | apply x_iE | apply x_fn | apply x_pure | apply a_lst | apply a_tup | apply x_seq | apply x_thenN | exact x_thenR | exact x_thenB | exact x_thenC | apply x_2 | apply x_1 | apply x_cons | apply x_B | apply x_vcons | apply x_star | apply x_tup | apply x_lst | apply x_call | apply x_callK | apply x_tE | apply x_tNot | apply x_not | apply x_isN | apply x_notN | apply x_oSome | apply x_sl | apply x_app | apply x_ext | apply x_pop | apply x_inN | apply x_gitem | apply x_listM | apply x_lstM | apply x_parN | apply x_tIf | exact l_own | exact l_some | apply x_tAnd | apply x_tOr | apply x_if | apply x_and | apply x_or | apply x_chain | apply x_ch2 | apply x_ex | apply x_pcons | apply x_dct | apply x_dctM | apply x_ret | apply x_expr | apply x_sif | apply x_asg | apply x_gtup | apply x_gcons | apply x_par | apply x_par3 | apply x_dput | apply o_mod | apply o_fdiv | apply o_mul | apply o_pow ) | ((with_reducible apply x_var); rfl) | ((with_reducible apply br1); (first | (apply decide_eq_true; omega) | (apply decide_eq_false; omega) | (apply decide_eq_true; with_reducible assumption) | (apply decide_eq_false; with_reducible assumption) | decide +kernel)) | ((with_reducible apply br0); (first | (apply decide_eq_true; omega) | (apply decide_eq_false; omega) | (apply decide_eq_true; with_reducible assumption) | (apply decide_eq_false; with_reducible assumption) | decide +kernel)) | ((with_reducible show List.length _ = _); rfl) | ((with_reducible show vw _ _ _ = _); rfl) | ((with_reducible show putAt _ _ _ _ _ = _); rfl) | ((with_reducible show putIn _ _ _ _ _ = _); rfl) | ((with_reducible show ownAll _ _ _ = _); rfl) | ((with_reducible show tupD _ = _); rfl) | ((with_reducible show seqD _ = _); rfl) | ((with_reducible show intD _ = _); rfl) | ((with_reducible show still _ _ _ = _); rfl) | ((with_reducible show items _ = _); rfl) | ((with_reducible show opIx _ _ = _); rfl) | ((with_reducible show (List.all _ _ && _) = true); rfl) | ((with_reducible show opItems _ = _); rfl) | ((with_reducible show bDict _ = _); rfl) | ((with_reducible show bIsi _ _ = _); rfl) | ((with_reducible show List.set _ _ _ = _); rfl) | ((with_reducible show seqS _ = _); rfl) | ((with_reducible show lstD _ = _); rfl) | ((with_reducible show setAll _ _ _ = _); rfl) | ((with_reducible show _ ≤ sizeL); exact Nat.le_of_ble_eq_true rfl)))
  · exact hm
  · exact ⟨hm, hg⟩
theorem ix_of {cs : List D} (hcs : ∀ d ∈ cs, ∃ i, d = D.int i) {j : Int} (h0 : 0 ≤ j) (h1 : j < (cs.length : Int)) : ∃ c : Int, opIx (.lst cs) (.int j) = some (.int c) := by
  have hl : j.toNat < cs.length := by omega
  obtain ⟨c, hc⟩ := hcs cs[j.toNat] (List.getElem_mem hl)
  refine ⟨c, ?_⟩
  show atI cs j = _
  unfold atI ixN
  rw [if_pos h0, if_pos h1]
  show cs[j.toNat]? = _
  rw [List.getElem?_eq_getElem hl, hc]
theorem drawn {S : SS} {cs : List D} {b r m y r' : Int} {R : Hs} (hm : 0 < m) (h : S [] [some (.ref 0), some (.d (.int m)), none, none, none, none] (pen cs b r :: R) = .ret (.d (.int (y % m))) (pen cs (b + 1) r' :: R)) :
    ∃ x r' : Int, fnBody 2 6 S [.ref 0, .d (.int m)] [] (pen cs b r :: R) = .ok (.d (.int x)) (pen cs (b + 1) r' :: R) ∧ 0 ≤ x ∧ x < m :=
  ⟨y % m, r', x_fn rfl h rfl, Int.emod_nonneg y (by omega), Int.emod_lt_of_pos y hm⟩
theorem ne_cs {cs : List D} : opNe (.lst cs) (.lst []) = some (.bl (!cs.isEmpty)) := rfl
theorem draw_new (cs : List D) (hcs : ∀ d ∈ cs, ∃ i, d = D.int i) (b r m : Int) (R : Hs) (hr : ¬ 0 < r) (hb : 0 ≤ b) (hb2 : b ≤ 1099511627776) (hm : 0 < m) (hg : m.natAbs.log2 < 9000) :
    ∃ x r' : Int, F__law_draw [.ref 0, .d (.int m)] [] (pen cs b r :: R) = .ok (.d (.int x)) (pen cs (b + 1) r' :: R) ∧ 0 ≤ x ∧ x < m := by
  unfold F__law_draw
  by_cases hs : 0 < (cs.length : Int)
  · have he : (!cs.isEmpty) = true := by
      cases cs with
      | nil => exact absurd hs (by decide)
      | cons _ _ => rfl
    obtain ⟨c, hc⟩ := ix_of hcs (j := b % (cs.length : Int)) (Int.emod_nonneg b (by omega)) (Int.emod_lt_of_pos b hs)
    by_cases h1 : b < (cs.length : Int)
    · by_cases h2 : 1000000000000000000 ≤ (if c < 0 then -c else c)
      · apply drawn hm
        (repeat' (first | (with_reducible first | exact v_pen | exact i_rest | exact i_at | exact i_cells | exact p_rest | exact p_at | exact p18 | exact hc | exact ne_cs | exact he | (apply br1; exact he) | exact r_ok | exact x_c | exact x_nil | exact x_vnil | exact x_pnil | exact x_snil | exact x_gvar | exact x_gnil | exact x_oNone | exact v_d | exact t_bl | exact t_int | exact t_non | exact o_add | exact o_sub | exact o_lt | exact o_le | exact o_gt | exact o_ge | exact o_eqI | exact o_eqS | exact o_neI | exact o_neS | exact b_len | exact b_lenT | exact b_lenS | exact b_abs | exact b_int | exact b_intB | exact b_max | exact b_min | exact w_nil | apply w_cons | exact x_fornil | exact x_turnB | exact x_turnR | exact e_ret | exact e_next | exact o_out | apply x_for | apply x_forcons | apply x_turnN | apply x_turnC | apply x_iE | apply x_fn | apply x_pure | apply a_lst | apply a_tup | apply x_seq | apply x_thenN | exact x_thenR | exact x_thenB | exact x_thenC | apply x_2 | apply x_1 | apply x_cons | apply x_B | apply x_vcons | apply x_star | apply x_tup | apply x_lst | apply x_call | apply x_callK | apply x_tE | apply x_tNot | apply x_not | apply x_isN | apply x_notN | apply x_oSome | apply x_sl | apply x_app | apply x_ext | apply x_pop | apply x_inN | apply x_gitem | apply x_listM | apply x_lstM | apply x_parN | apply x_tIf | exact l_own | exact l_some | apply x_tAnd | apply x_tOr | apply x_if | apply x_and | apply x_or | apply x_chain | apply x_ch2 | apply x_ex | apply x_pcons | apply x_dct | apply x_dctM | apply x_ret | apply x_expr | apply x_sif | apply x_asg | apply x_gtup | apply x_gcons | apply x_par | apply x_par3 | apply x_dput | apply o_mod | apply o_fdiv | apply o_mul | apply o_pow ) | ((with_reducible apply x_var); rfl) | ((with_reducible apply br1); (first | (apply decide_eq_true; omega) | (apply decide_eq_false; omega) | (apply decide_eq_true; with_reducible assumption) | (apply decide_eq_false; with_reducible assumption) | decide +kernel)) | ((with_reducible apply br0); (first | (apply decide_eq_true; omega) | (apply decide_eq_false; omega) | (apply decide_eq_true; with_reducible assumption) | (apply decide_eq_false; with_reducible assumption) | decide +kernel)) | ((with_reducible show List.length _ = _); rfl) | ((with_reducible show vw _ _ _ = _); rfl) | ((with_reducible show putAt _ _ _ _ _ = _); rfl) | ((with_reducible show putIn _ _ _ _ _ = _); rfl) | ((with_reducible show ownAll _ _ _ = _); rfl) | ((with_reducible show tupD _ = _); rfl) | ((with_reducible show seqD _ = _); rfl) | ((with_reducible show intD _ = _); rfl) | ((with_reducible show still _ _ _ = _); rfl) | ((with_reducible show items _ = _); rfl) | ((with_reducible show opIx _ _ = _); rfl) | ((with_reducible show (List.all _ _ && _) = true); rfl) | ((with_reducible show opItems _ = _); rfl) | ((with_reducible show bDict _ = _); rfl) | ((with_reducible show bIsi _ _ = _); rfl) | ((with_reducible show List.set _ _ _ = _); rfl) | ((with_reducible show seqS _ = _); rfl) | ((with_reducible show lstD _ = _); rfl) | ((with_reducible show setAll _ _ _ = _); rfl) | ((with_reducible show _ ≤ sizeL); exact Nat.le_of_ble_eq_true rfl)))
        all_goals (first | omega | decide +kernel | (refine ⟨?_, ?_⟩ <;> first | omega | decide +kernel) | (apply mulOk_l; omega) | (apply mulOk_r; omega) | (apply mulOk_s <;> omega))
      · apply drawn hm
        (repeat' (first | (with_reducible first | exact v_pen | exact i_rest | exact i_at | exact i_cells | exact p_rest | exact p_at | exact p18 | exact hc | exact ne_cs | exact he | (apply br1; exact he) | exact r_ok | exact x_c | exact x_nil | exact x_vnil | exact x_pnil | exact x_snil | exact x_gvar | exact x_gnil | exact x_oNone | exact v_d | exact t_bl | exact t_int | exact t_non | exact o_add | exact o_sub | exact o_lt | exact o_le | exact o_gt | exact o_ge | exact o_eqI | exact o_eqS | exact o_neI | exact o_neS | exact b_len | exact b_lenT | exact b_lenS | exact b_abs | exact b_int | exact b_intB | exact b_max | exact b_min | exact w_nil | apply w_cons | exact x_fornil | exact x_turnB | exact x_turnR | exact e_ret | exact e_next | exact o_out | apply x_for | apply x_forcons | apply x_turnN | apply x_turnC | apply x_iE | apply x_fn | apply x_pure | apply a_lst | apply a_tup | apply x_seq | apply x_thenN | exact x_thenR | exact x_thenB | exact x_thenC | apply x_2 | apply x_1 | apply x_cons | apply x_B | apply x_vcons | apply x_star | apply x_tup | apply x_lst | apply x_call | apply x_callK | apply x_tE | apply x_tNot | apply x_not | apply x_isN | apply x_notN | apply x_oSome | apply x_sl | apply x_app | apply x_ext | apply x_pop | apply x_inN | apply x_gitem | apply x_listM | apply x_lstM | apply x_parN | apply x_tIf | exact l_own | exact l_some | apply x_tAnd | apply x_tOr | apply x_if | apply x_and | apply x_or | apply x_chain | apply x_ch2 | apply x_ex | apply x_pcons | apply x_dct | apply x_dctM | apply x_ret | apply x_expr | apply x_sif | apply x_asg | apply x_gtup | apply x_gcons | apply x_par | apply x_par3 | apply x_dput | apply o_mod | apply o_fdiv | apply o_mul | apply o_pow ) | ((with_reducible apply x_var); rfl) | ((with_reducible apply br1); (first | (apply decide_eq_true; omega) | (apply decide_eq_false; omega) | (apply decide_eq_true; with_reducible assumption) | (apply decide_eq_false; with_reducible assumption) | decide +kernel)) | ((with_reducible apply br0); (first | (apply decide_eq_true; omega) | (apply decide_eq_false; omega) | (apply decide_eq_true; with_reducible assumption) | (apply decide_eq_false; with_reducible assumption) | decide +kernel)) | ((with_reducible show List.length _ = _); rfl) | ((with_reducible show vw _ _ _ = _); rfl) | ((with_reducible show putAt _ _ _ _ _ = _); rfl) | ((with_reducible show putIn _ _ _ _ _ = _); rfl) | ((with_reducible show ownAll _ _ _ = _); rfl) | ((with_reducible show tupD _ = _); rfl) | ((with_reducible show seqD _ = _); rfl) | ((with_reducible show intD _ = _); rfl) | ((with_reducible show still _ _ _ = _); rfl) | ((with_reducible show items _ = _); rfl) | ((with_reducible show opIx _ _ = _); rfl) | ((with_reducible show (List.all _ _ && _) = true); rfl) | ((with_reducible show opItems _ = _); rfl) | ((with_reducible show bDict _ = _); rfl) | ((with_reducible show bIsi _ _ = _); rfl) | ((with_reducible show List.set _ _ _ = _); rfl) | ((with_reducible show seqS _ = _); rfl) | ((with_reducible show lstD _ = _); rfl) | ((with_reducible show setAll _ _ _ = _); rfl) | ((with_reducible show _ ≤ sizeL); exact Nat.le_of_ble_eq_true rfl)))
        all_goals (first | omega | decide +kernel | (refine ⟨?_, ?_⟩ <;> first | omega | decide +kernel) | (apply mulOk_l; omega) | (apply mulOk_r; omega) | (apply mulOk_s <;> omega))
    · apply drawn hm
      (repeat' (first | (with_reducible first | exact v_pen | exact i_rest | exact i_at | exact i_cells | exact p_rest | exact p_at | exact p18 | exact hc | exact ne_cs | exact he | (apply br1; exact he) | exact r_ok | exact x_c | exact x_nil | exact x_vnil | exact x_pnil | exact x_snil | exact x_gvar | exact x_gnil | exact x_oNone | exact v_d | exact t_bl | exact t_int | exact t_non | exact o_add | exact o_sub | exact o_lt | exact o_le | exact o_gt | exact o_ge | exact o_eqI | exact o_eqS | exact o_neI | exact o_neS | exact b_len | exact b_lenT | exact b_lenS | exact b_abs | exact b_int | exact b_intB | exact b_max | exact b_min | exact w_nil | apply w_cons | exact x_fornil | exact x_turnB | exact x_turnR | exact e_ret | exact e_next | exact o_out | apply x_for | apply x_forcons | apply x_turnN | apply x_turnC | apply x_iE | apply x_fn | apply x_pure | apply a_lst | apply a_tup | apply x_seq | apply x_thenN | exact x_thenR | exact x_thenB | exact x_thenC | apply x_2 | apply x_1 | apply x_cons | apply x_B | apply x_vcons | apply x_star | apply x_tup | apply x_lst | apply x_call | apply x_callK | apply x_tE | apply x_tNot | apply x_not | apply x_isN | apply x_notN | apply x_oSome | apply x_sl | apply x_app | apply x_ext | apply x_pop | apply x_inN | apply x_gitem | apply x_listM | apply x_lstM | apply x_parN | apply x_tIf | exact l_own | exact l_some | apply x_tAnd | apply x_tOr | apply x_if | apply x_and | apply x_or | apply x_chain | apply x_ch2 | apply x_ex | apply x_pcons | apply x_dct | apply x_dctM | apply x_ret | apply x_expr | apply x_sif | apply x_asg | apply x_gtup | apply x_gcons | apply x_par | apply x_par3 | apply x_dput | apply o_mod | apply o_fdiv | apply o_mul | apply o_pow ) | ((with_reducible apply x_var); rfl) | ((with_reducible apply br1); (first | (apply decide_eq_true; omega) | (apply decide_eq_false; omega) | (apply decide_eq_true; with_reducible assumption) | (apply decide_eq_false; with_reducible assumption) | decide +kernel)) | ((with_reducible apply br0); (first | (apply decide_eq_true; omega) | (apply decide_eq_false; omega) | (apply decide_eq_true; with_reducible assumption) | (apply decide_eq_false; with_reducible assumption) | decide +kernel)) | ((with_reducible show List.length _ = _); rfl) | ((with_reducible show vw _ _ _ = _); rfl) | ((with_reducible show putAt _ _ _ _ _ = _); rfl) | ((with_reducible show putIn _ _ _ _ _ = _); rfl) | ((with_reducible show ownAll _ _ _ = _); rfl) | ((with_reducible show tupD _ = _); rfl) | ((with_reducible show seqD _ = _); rfl) | ((with_reducible show intD _ = _); rfl) | ((with_reducible show still _ _ _ = _); rfl) | ((with_reducible show items _ = _); rfl) | ((with_reducible show opIx _ _ = _); rfl) | ((with_reducible show (List.all _ _ && _) = true); rfl) | ((with_reducible show opItems _ = _); rfl) | ((with_reducible show bDict _ = _); rfl) | ((with_reducible show bIsi _ _ = _); rfl) | ((with_reducible show List.set _ _ _ = _); rfl) | ((with_reducible show seqS _ = _); rfl) | ((with_reducible show lstD _ = _); rfl) | ((with_reducible show setAll _ _ _ = _); rfl) | ((with_reducible show _ ≤ sizeL); exact Nat.le_of_ble_eq_true rfl)))
      all_goals (first | omega | decide +kernel | (refine ⟨?_, ?_⟩ <;> first | omega | decide +kernel) | (apply mulOk_l; omega) | (apply mulOk_r; omega) | (apply mulOk_s <;> omega))
  · have he : (!cs.isEmpty) = false := by
      cases cs with
      | nil => rfl
      | cons _ _ => exact absurd (by rw [List.length_cons]; omega) hs
    apply drawn hm
    (repeat' (first | (with_reducible first | exact v_pen | exact i_rest | exact i_at | exact i_cells | exact p_rest | exact p_at | exact p18 | exact ne_cs | (apply br0; exact he) | exact r_ok | exact x_c | exact x_nil | exact x_vnil | exact x_pnil | exact x_snil | exact x_gvar | exact x_gnil | exact x_oNone | exact v_d | exact t_bl | exact t_int | exact t_non | exact o_add | exact o_sub | exact o_lt | exact o_le | exact o_gt | exact o_ge | exact o_eqI | exact o_eqS | exact o_neI | exact o_neS | exact b_len | exact b_lenT | exact b_lenS | exact b_abs | exact b_int | exact b_intB | exact b_max | exact b_min | exact w_nil | apply w_cons | exact x_fornil | exact x_turnB | exact x_turnR | exact e_ret | exact e_next | exact o_out | apply x_for | apply x_forcons | apply x_turnN | apply x_turnC | apply x_iE | apply x_fn | apply x_pure | apply a_lst | apply a_tup | apply x_seq | apply x_thenN | exact x_thenR | exact x_thenB | exact x_thenC | apply x_2 | apply x_1 | apply x_cons | apply x_B | apply x_vcons | apply x_star | apply x_tup | apply x_lst | apply x_call | apply x_callK | apply x_tE | apply x_tNot | apply x_not | apply x_isN | apply x_notN | apply x_oSome | apply x_sl | apply x_app | apply x_ext | apply x_pop | apply x_inN | apply x_gitem | apply x_listM | apply x_lstM | apply x_parN | apply x_tIf | exact l_own | exact l_some | apply x_tAnd | apply x_tOr | apply x_if | apply x_and | apply x_or | apply x_chain | apply x_ch2 | apply x_ex | apply x_pcons | apply x_dct | apply x_dctM | apply x_ret | apply x_expr | apply x_sif | apply x_asg | apply x_gtup | apply x_gcons | apply x_par | apply x_par3 | apply x_dput | apply o_mod | apply o_fdiv | apply o_mul | apply o_pow ) | ((with_reducible apply x_var); rfl) | ((with_reducible apply br1); (first | (apply decide_eq_true; omega) | (apply decide_eq_false; omega) | (apply decide_eq_true; with_reducible assumption) | (apply decide_eq_false; with_reducible assumption) | decide +kernel)) | ((with_reducible apply br0); (first | (apply decide_eq_true; omega) | (apply decide_eq_false; omega) | (apply decide_eq_true; with_reducible assumption) | (apply decide_eq_false; with_reducible assumption) | decide +kernel)) | ((with_reducible show List.length _ = _); rfl) | ((with_reducible show vw _ _ _ = _); rfl) | ((with_reducible show putAt _ _ _ _ _ = _); rfl) | ((with_reducible show putIn _ _ _ _ _ = _); rfl) | ((with_reducible show ownAll _ _ _ = _); rfl) | ((with_reducible show tupD _ = _); rfl) | ((with_reducible show seqD _ = _); rfl) | ((with_reducible show intD _ = _); rfl) | ((with_reducible show still _ _ _ = _); rfl) | ((with_reducible show items _ = _); rfl) | ((with_reducible show opIx _ _ = _); rfl) | ((with_reducible show (List.all _ _ && _) = true); rfl) | ((with_reducible show opItems _ = _); rfl) | ((with_reducible show bDict _ = _); rfl) | ((with_reducible show bIsi _ _ = _); rfl) | ((with_reducible show List.set _ _ _ = _); rfl) | ((with_reducible show seqS _ = _); rfl) | ((with_reducible show lstD _ = _); rfl) | ((with_reducible show setAll _ _ _ = _); rfl) | ((with_reducible show _ ≤ sizeL); exact Nat.le_of_ble_eq_true rfl)))
    all_goals (first | omega | decide +kernel | (refine ⟨?_, ?_⟩ <;> first | omega | decide +kernel) | (apply mulOk_l; omega) | (apply mulOk_r; omega) | (apply mulOk_s <;> omega))
end K00
end Ev

set_option linter.all false
set_option maxRecDepth 100000
set_option maxHeartbeats 1000000
namespace Ev
section
variable {B L L1 L2 : Hs} {ρ : Sl} {x y : W} {a b : SE} {xs ys : List D}
theorem x_addM (h : a B ρ L = .ok x L1) (h2 : b B ρ L1 = .ok y L2) (hx : vw B L2 x = some (.lst xs)) (hy : vw B L2 y = some (.lst ys)) (hl : xs.length + ys.length ≤ sizeL) : eAddM a b B ρ L = .ok (.ref (B.length + L2.length)) (L2 ++ [.lst ((xs ++ ys).map .d)]) := by
  unfold eAddM vwR ofOpt guardR Res.bind
  rw [h]
  dsimp only
  rw [h2]
  dsimp only
  rw [hx]
  dsimp only
  rw [hy]
  dsimp only [lstD]
  rw [decide_eq_true hl]
end
namespace K00
/-- a pen, drawn from at most N times -/
def Pn (N : Int) (L : Hs) : Prop := ∃ cs b r R, L = pen cs b r :: R ∧ (∀ d ∈ cs, ∃ i, d = D.int i) ∧ 0 ≤ b ∧ b ≤ N
/-- all else stays -/
def Fr (L L' : Hs) : Prop := L.length ≤ L'.length ∧ ∀ j, 0 < j → j < L.length → L'[j]? = L[j]?
theorem Fr.refl (L : Hs) : Fr L L := ⟨Nat.le_refl _, fun _ _ _ => rfl⟩
theorem Fr.trans {L L1 L2 : Hs} (a : Fr L L1) (b : Fr L1 L2) : Fr L L2 := ⟨Nat.le_trans a.1 b.1, fun j h0 h1 => (b.2 j h0 (Nat.lt_of_lt_of_le h1 a.1)).trans (a.2 j h0 h1)⟩
theorem Fr.pen {cs cs' : List D} {b b' r r' : Int} {R : Hs} : Fr (K00.pen cs b r :: R) (K00.pen cs' b' r' :: R) := ⟨Nat.le_refl _, fun j h0 _ => by
  obtain ⟨k, rfl⟩ : ∃ k, j = k + 1 := ⟨j - 1, by omega⟩
  rfl⟩
theorem Fr.add {L : Hs} (o : Ob) : Fr L (L ++ [o]) := ⟨by rw [List.length_append]; omega, fun j _ h => List.getElem?_append_left h⟩
theorem Pn.mono {N N' : Int} {L : Hs} (h : Pn N L) (hN : N ≤ N') : Pn N' L := by
  obtain ⟨cs, b, r, R, e, hc, h0, h1⟩ := h
  exact ⟨cs, b, r, R, e, hc, h0, by omega⟩
theorem Pn.add {N : Int} {L : Hs} (h : Pn N L) (o : Ob) : Pn N (L ++ [o]) := by
  obtain ⟨cs, b, r, R, rfl, hc, h0, h1⟩ := h
  exact ⟨cs, b, r, R ++ [o], rfl, hc, h0, h1⟩
theorem Pn.len {N : Int} {L : Hs} (h : Pn N L) : 0 < L.length := by
  obtain ⟨cs, b, r, R, rfl, _⟩ := h
  exact Nat.succ_pos _
theorem draw_ok {N m : Int} {L : Hs} (h : Pn N L) (hN : N ≤ 1099511627776) (hm : 0 < m) (hg : m.natAbs.log2 < 9000) :
    ∃ (x : Int) (L' : Hs), F__law_draw [.ref 0, .d (.int m)] [] L = .ok (.d (.int x)) L' ∧ Pn (N + 1) L' ∧ Fr L L' ∧ 0 ≤ x ∧ x < m := by
  obtain ⟨cs, b, r, R, rfl, hcs, h0, h1⟩ := h
  by_cases hr : 0 < r
  · exact ⟨r % m, _, draw_rest cs b r m R hr hm hg, ⟨cs, b, r / m, R, rfl, hcs, h0, by omega⟩, Fr.pen, Int.emod_nonneg r (by omega), Int.emod_lt_of_pos r hm⟩
  · obtain ⟨x, r', e, h2, h3⟩ := draw_new cs hcs b r m R hr h0 (by omega) hm hg
    exact ⟨x, _, e, ⟨cs, b + 1, r', R, rfl, hcs, by omega, by omega⟩, Fr.pen, h2, h3⟩
theorem log2_small {m : Int} (h : m.natAbs < 2000) (h0 : m.natAbs ≠ 0) : m.natAbs.log2 < 9000 := by
  have : m.natAbs.log2 < 11 := (Nat.log2_lt h0).mpr (by omega)
  omega
theorem ix_at {xs : List D} {j : Int} (h0 : 0 ≤ j) (h1 : j < (xs.length : Int)) : ∃ y ∈ xs, opIx (.lst xs) (.int j) = some y := by
  have hl : j.toNat < xs.length := by omega
  refine ⟨xs[j.toNat], List.getElem_mem hl, ?_⟩
  show atI xs j = _
  unfold atI ixN
  rw [if_pos h0, if_pos h1]
  show xs[j.toNat]? = _
  rw [List.getElem?_eq_getElem hl]
theorem len_str {s : List Nat} (h : s.length ≤ 1000) : bLen [.str s] = some (.int s.length) := by
  show (if s.length ≤ sizeL then some (D.int s.length) else none) = _
  rw [if_pos (by show _ ≤ 16777216; omega)]
theorem ixS_at {s : List Nat} {j : Int} (hl : s.length ≤ 1000) (h0 : 0 ≤ j) (h1 : j < (s.length : Int)) : ∃ c ∈ s, opIx (.str s) (.int j) = some (.str [c]) := by
  have hj : j.toNat < s.length := by omega
  refine ⟨s[j.toNat], List.getElem_mem hj, ?_⟩
  show (if s.length ≤ sizeL then (atI s j).map (fun c => D.str [c]) else none) = _
  rw [if_pos (by show _ ≤ 16777216; omega)]
  unfold atI ixN
  rw [if_pos h0, if_pos h1]
  show (s[j.toNat]?).map _ = _
  rw [List.getElem?_eq_getElem hj]
  rfl
theorem pickW {N : Int} {L : Hs} {w : W} {xs : List D} (h : Pn N L) (hN : N ≤ 1099511627776) (hw : ∀ L', Fr L L' → vw [] L' w = some (.lst xs)) (h0 : 0 < xs.length) (hx : xs.length < 1000) :
    ∃ (y : D) (L' : Hs), F__law_pick [.ref 0, w] [] L = .ok (.d y) L' ∧ Pn (N + 1) L' ∧ Fr L L' ∧ y ∈ xs := by
  obtain ⟨x, L', e, ht, fr, h2, h3⟩ := draw_ok h hN (m := (xs.length : Int)) (by omega) (log2_small (by omega) (by omega))
  obtain ⟨y, hy, ey⟩ := ix_at h2 h3
  refine ⟨y, L', ?_, ht, fr, hy⟩
  unfold F__law_pick
  exact x_fn (r1 := .ret (.d y) L') rfl (x_ret (x_2 (x_var rfl) (x_call (x_cons (x_var rfl) (x_cons (x_B (x_cons (x_var rfl) x_nil) (x_vcons (hw L (Fr.refl L)) x_vnil) rfl) x_nil)) rfl e) (hw L' fr) rfl ey)) rfl
theorem pick_ok {N : Int} {L : Hs} {xs : List D} (h : Pn N L) (hN : N ≤ 1099511627776) (h0 : 0 < xs.length) (hx : xs.length < 1000) :
    ∃ (y : D) (L' : Hs), F__law_pick [.ref 0, .d (.lst xs)] [] L = .ok (.d y) L' ∧ Pn (N + 1) L' ∧ Fr L L' ∧ y ∈ xs := pickW h hN (fun _ _ => rfl) h0 hx
theorem pickS_ok {N : Int} {L : Hs} {s : List Nat} (h : Pn N L) (hN : N ≤ 1099511627776) (h0 : 0 < s.length) (hx : s.length < 1000) :
    ∃ (c : Nat) (L' : Hs), F__law_pick [.ref 0, .d (.str s)] [] L = .ok (.d (.str [c])) L' ∧ Pn (N + 1) L' ∧ Fr L L' ∧ c ∈ s := by
  obtain ⟨x, L', e, ht, fr, h2, h3⟩ := draw_ok h hN (m := (s.length : Int)) (by omega) (log2_small (by omega) (by omega))
  obtain ⟨y, hy, ey⟩ := ixS_at (by omega) h2 h3
  refine ⟨y, L', ?_, ht, fr, hy⟩
  unfold F__law_pick
  exact x_fn (r1 := .ret (.d (.str [y])) L') rfl (x_ret (x_2 (x_var rfl) (x_call (x_cons (x_var rfl) (x_cons (x_B (x_cons (x_var rfl) x_nil) (x_vcons rfl x_vnil) (len_str (by omega))) x_nil)) rfl e) rfl rfl ey)) rfl
theorem Pn.set {N : Int} {L : Hs} {j : Nat} {o : Ob} (h : Pn N L) (hj : 0 < j) : Pn N (L.set j o) := by
  obtain ⟨cs, b, r, R, rfl, hc, h0, h1⟩ := h
  obtain ⟨k, rfl⟩ : ∃ k, j = k + 1 := ⟨j - 1, by omega⟩
  exact ⟨cs, b, r, R.set k o, rfl, hc, h0, h1⟩
theorem at_lt {L : Hs} {j : Nat} {o : Ob} (h : L[j]? = some o) : j < L.length := (List.getElem?_eq_some_iff.mp h).1
theorem at_set {L : Hs} {j : Nat} {o o' : Ob} (h : L[j]? = some o) : (L.set j o')[j]? = some o' := List.getElem?_set_self (at_lt h)
theorem Fr.at {L L' : Hs} {j : Nat} {o : Ob} (f : Fr L L') (hj : 0 < j) (h : L[j]? = some o) : L'[j]? = some o := (f.2 j hj (at_lt h)).trans h
theorem lst_of {L : Hs} {f : Nat} {ws : List W} (h : L[f]? = some (.lst ws)) : lstAt [] L (.ref f) = some (f, ws) := by
  show (match L[f]? with | some (Ob.lst ws) => some (f, ws) | _ => none) = _
  rw [h]
theorem v_lst {L : Hs} {f : Nat} {xs : List D} (h : L[f]? = some (.lst (xs.map .d))) : vw [] L (.ref f) = some (.lst xs) := by
  show (match L[f]? with | some (Ob.frz x) => some x | some (.lst ws) => (allD ws).map .lst | some (.dct ks ws) => (allD ws).map (.dct ks) | _ => none) = _
  rw [h]
  show (allD (xs.map .d)).map D.lst = _
  have : ∀ xs : List D, allD (xs.map .d) = some xs := fun xs => by
    induction xs with
    | nil => rfl
    | cons x xs ih =>
      show (match allD (xs.map .d) with | some ys => some (x :: ys) | none => none) = _
      rw [ih]
  rw [this]
  rfl
theorem cut_mem {α : Type} {xs : List α} {lo hi : Option Int} {x : α} (h : x ∈ cut xs lo hi) : x ∈ xs := List.mem_of_mem_drop (List.mem_of_mem_take h)
abbrev sFail : List Nat := [102, 97, 105, 108]
def big : Int := 10 ^ 60 * 10 ^ 40
def odd0 : List D := [.non, .bl true, .bl false, .int 0, .int 1, .int (-1), .int 99, .int 100, .int (-100), .int big, .str [], .str [97], .str [65], .str [97, 98, 99, 100, 101, 102, 103], .str [97, 32, 98], .str [115, 101, 116]]
def odd1 : List D := [.tup [], .tup [.str [97]], .tup [.str [102, 97, 105, 108]], .lst [], .lst [.str [97]], .dct [] [], .dct [.str [97]] [.int 1], .tup [.non], .tup [.tup []], .tup [.str [118, 97, 108, 117, 101], .int 1], .tup [.str [98, 111, 100, 121]], .lst [.tup [.str [102, 97, 105, 108]]]]
def odd2 : List D := [.tup [.str [114, 111, 119], .str [97]], .tup [.str [115, 101, 110, 100], .str [97], .non, .tup [.str [98, 111, 100, 121]]], .tup [.str [97], .str [98], .int 1], .tup [.tup [.str [102, 97, 105, 108]]]]
def oddL : List D := ((odd0 ++ odd1) ++ [D.str sFail]) ++ odd2
theorem last_at {L : Hs} {o : Ob} : (L ++ [o])[0 + L.length]? = some o := by
  rw [Nat.zero_add]
  exact List.getElem?_concat_length
theorem odd_ok {N : Int} {L : Hs} (h : Pn N L) (hN : N ≤ 1099511627776) :
    ∃ (y : D) (L' : Hs), F__law_odd [.ref 0] [] L = .ok (.d y) L' ∧ Pn (N + 1) L' ∧ Fr L L' ∧ y ∈ oddL := by
  have lp := h.len
  have t1 := h.add (Ob.lst (odd0.map .d))
  have f1 : Fr L (L ++ [Ob.lst (odd0.map .d)]) := Fr.add _
  have t2 := t1.add (Ob.lst ((odd0 ++ odd1).map .d))
  have f2 : Fr (L ++ [Ob.lst (odd0.map .d)]) ((L ++ [Ob.lst (odd0.map .d)]) ++ [Ob.lst ((odd0 ++ odd1).map .d)]) := Fr.add _
  generalize hL1 : (L ++ [Ob.lst (odd0.map .d)]) = L1 at *
  have a1 : L1[0 + L.length]? = some (.lst (odd0.map .d)) := by rw [← hL1]; exact last_at
  have a2 : (L1 ++ [Ob.lst ((odd0 ++ odd1).map .d)])[0 + L1.length]? = some (.lst ((odd0 ++ odd1).map .d)) := last_at
  generalize hL2 : (L1 ++ [Ob.lst ((odd0 ++ odd1).map .d)]) = L2 at *
  have l1 : L.length ≤ L1.length := f1.1
  have t3 : Pn N (L2.set (0 + L1.length) (.lst (((odd0 ++ odd1) ++ [D.str sFail]).map .d))) := t2.set (by omega)
  have a3 : (L2.set (0 + L1.length) (.lst (((odd0 ++ odd1) ++ [D.str sFail]).map .d)))[0 + L1.length]? = some (.lst (((odd0 ++ odd1) ++ [D.str sFail]).map .d)) := at_set a2
  have f3 : Fr L (L2.set (0 + L1.length) (.lst (((odd0 ++ odd1) ++ [D.str sFail]).map .d))) := ⟨by rw [List.length_set]; exact Nat.le_trans f1.1 f2.1, fun j j0 jl => by
    rw [List.getElem?_set_ne (by omega)]
    exact (f1.trans f2).2 j j0 jl⟩
  generalize hL3 : (L2.set (0 + L1.length) (.lst (((odd0 ++ odd1) ++ [D.str sFail]).map .d))) = L3 at *
  obtain ⟨y, L4, E, t4, f4, hy⟩ := pick_ok t3 hN (xs := oddL) (by decide) (by decide)
  refine ⟨y, L4, ?_, t4, f3.trans f4, hy⟩
  unfold F__law_odd
  refine x_fn (r1 := .ret (.d y) L4) rfl ?_ rfl
  refine x_seq (x_asg (w := .ref (0 + L.length)) (L1 := L1) ?A x_gvar) (x_thenN ?_)
  case A =>
    rw [← hL1]
    exact x_lstM (ws := [.d (.non), .d (.bl true), .d (.bl false), .d (.int 0), .d (.int 1), .d (.int (-1)), .d (.int 99), .d (.int 100), .d (.int (-100)), .d (.int big), .d (.str []), .d (.str [97]), .d (.str [65]), .d (.str [97, 98, 99, 100, 101, 102, 103]), .d (.str [97, 32, 98]), .d (.str [115, 101, 116])]) (by (repeat' (first | (with_reducible first | exact r_ok | exact x_c | exact x_nil | exact x_vnil | exact x_pnil | exact x_snil | exact x_gvar | exact x_gnil | exact x_oNone | exact v_d | exact t_bl | exact t_int | exact t_non | exact o_add | exact o_sub | exact o_lt | exact o_le | exact o_gt | exact o_ge | exact o_eqI | exact o_eqS | exact o_neI | exact o_neS | exact b_len | exact b_lenT | exact b_lenS | exact b_abs | exact b_int | exact b_intB | exact b_max | exact b_min | exact w_nil | apply w_cons | exact x_fornil | exact x_turnB | exact x_turnR | exact e_ret | exact e_next | exact o_out | apply x_for | apply x_forcons | apply x_turnN | apply x_turnC | apply x_iE | apply x_fn | apply x_pure | apply a_lst | apply a_tup | apply x_seq | apply x_thenN | exact x_thenR | exact x_thenB | exact x_thenC | apply x_2 | apply x_1 | apply x_cons | apply x_B | apply x_vcons | apply x_star | apply x_tup | apply x_lst | apply x_call | apply x_callK | apply x_tE | apply x_tNot | apply x_not | apply x_isN | apply x_notN | apply x_oSome | apply x_sl | apply x_app | apply x_ext | apply x_pop | apply x_inN | apply x_gitem | apply x_listM | apply x_lstM | apply x_parN | apply x_tIf | exact l_own | exact l_some | apply x_tAnd | apply x_tOr | apply x_if | apply x_and | apply x_or | apply x_chain | apply x_ch2 | apply x_ex | apply x_pcons | apply x_dct | apply x_dctM | apply x_ret | apply x_expr | apply x_sif | apply x_asg | apply x_gtup | apply x_gcons | apply x_par | apply x_par3 | apply x_dput | apply o_mod | apply o_fdiv | apply o_mul | apply o_pow ) | ((with_reducible apply x_var); rfl) | ((with_reducible apply br1); (first | (apply decide_eq_true; omega) | (apply decide_eq_false; omega) | (apply decide_eq_true; with_reducible assumption) | (apply decide_eq_false; with_reducible assumption) | decide +kernel)) | ((with_reducible apply br0); (first | (apply decide_eq_true; omega) | (apply decide_eq_false; omega) | (apply decide_eq_true; with_reducible assumption) | (apply decide_eq_false; with_reducible assumption) | decide +kernel)) | ((with_reducible show List.length _ = _); rfl) | ((with_reducible show vw _ _ _ = _); rfl) | ((with_reducible show putAt _ _ _ _ _ = _); rfl) | ((with_reducible show putIn _ _ _ _ _ = _); rfl) | ((with_reducible show ownAll _ _ _ = _); rfl) | ((with_reducible show tupD _ = _); rfl) | ((with_reducible show seqD _ = _); rfl) | ((with_reducible show intD _ = _); rfl) | ((with_reducible show still _ _ _ = _); rfl) | ((with_reducible show items _ = _); rfl) | ((with_reducible show opIx _ _ = _); rfl) | ((with_reducible show (List.all _ _ && _) = true); rfl) | ((with_reducible show opItems _ = _); rfl) | ((with_reducible show bDict _ = _); rfl) | ((with_reducible show bIsi _ _ = _); rfl) | ((with_reducible show List.set _ _ _ = _); rfl) | ((with_reducible show seqS _ = _); rfl) | ((with_reducible show lstD _ = _); rfl) | ((with_reducible show setAll _ _ _ = _); rfl) | ((with_reducible show _ ≤ sizeL); exact Nat.le_of_ble_eq_true rfl))) <;> first | rfl | decide +kernel) (by decide)
  refine x_seq (x_asg (w := .ref (0 + L1.length)) (L1 := L2) ?A x_gvar) (x_thenN ?_)
  case A =>
    rw [← hL2]
    exact x_addM (xs := odd0) (ys := odd1) (x_var rfl) (x_lst (xs := odd1) (ws := [.d (.tup []), .d (.tup [.str [97]]), .d (.tup [.str [102, 97, 105, 108]]), .d (.lst []), .d (.lst [.str [97]]), .d (.dct [] []), .d (.dct [.str [97]] [.int 1]), .d (.tup [.non]), .d (.tup [.tup []]), .d (.tup [.str [118, 97, 108, 117, 101], .int 1]), .d (.tup [.str [98, 111, 100, 121]]), .d (.lst [.tup [.str [102, 97, 105, 108]]])]) (L1 := L1) rfl rfl (by decide)) (v_lst a1) rfl (by decide)
  refine x_seq (x_expr (x_app (L3 := L3) (x_var rfl) (by rw [lst_of a2]; rfl) x_c (lst_of a2) (by decide) (by rw [← hL3]; rfl))) (x_thenN ?_)
  refine x_ret (x_call (ws := [.ref 0, .d (.lst oddL)]) (L1 := L3) (x_cons (x_var rfl) (x_cons (x_2 (x_var rfl) (x_lst (xs := odd2) (ws := [.d (.tup [.str [114, 111, 119], .str [97]]), .d (.tup [.str [115, 101, 110, 100], .str [97], .non, .tup [.str [98, 111, 100, 121]]]), .d (.tup [.str [97], .str [98], .int 1]), .d (.tup [.tup [.str [102, 97, 105, 108]]])]) (L1 := L3) rfl rfl (by decide)) (v_lst a3) rfl (a_lst (by decide))) x_nil)) rfl E)
end K00
end Ev

set_option linter.all false
set_option maxRecDepth 100000
set_option maxHeartbeats 4000000
namespace Ev
namespace K00
def lawM : SS := (sSeq (sAsg (eLst (aCons (e1 (opIsX ans21) (eVar 3)) (aCons (e1 (opIsX ans20) (eVar 3)) (aCons (e1 (opIsX ans19) (eVar 3)) (aNil))))) (gVar 11))
  (sSeq (sIf (tE (e2 opNe (eVar 11) (eComp (iRange (eC (.int 3))) (gVar 12) (tYes) (e2 opEq (eVar 12) (eCall 1 F__law_base (aCons (eVar 3) (aNil)))) [12]))) (sRet (eC (.bl false))) (sNil))
  (sIf (tE (e2 opNe (eCall 1 F__law_kinds_of (aCons (eVar 3) (aNil))) (eComp (iRange (eC (.int 18))) (gVar 12) (tYes) (e2 opEq (eVar 12) (eVar 6)) [12]))) (sRet (eC (.bl false))) (sNil))))
def lawK : SS := (sSeq (sAsg (e2 opIx (eVar 5) (eVar 6)) (gTup (gVar 7 :: gVar 8 :: gVar 9 :: gVar 10 :: [])))
  (sSeq (sIf (tE (e2 opNe (eB bReprX (aCons (eLst (aCons (eVar 9) (aCons (eVar 10) (aNil)))) (aNil))) (eB bReprX (aCons (eLst (aCons (eVar 4) (aCons (eVar 4) (aNil)))) (aNil))))) (sRet (eC (.bl false))) (sNil))
  (sFor (iE (eTup (aCons (eVar 7) (aCons (eVar 8) (aNil))))) (gVar 3) (sSeq (sAsg (eLst (aCons (e1 (opIsX ans21) (eVar 3)) (aCons (e1 (opIsX ans20) (eVar 3)) (aCons (e1 (opIsX ans19) (eVar 3)) (aNil))))) (gVar 11))
  (sSeq (sIf (tE (e2 opNe (eVar 11) (eComp (iRange (eC (.int 3))) (gVar 12) (tYes) (e2 opEq (eVar 12) (eCall 1 F__law_base (aCons (eVar 3) (aNil)))) [12]))) (sRet (eC (.bl false))) (sNil))
  (sIf (tE (e2 opNe (eCall 1 F__law_kinds_of (aCons (eVar 3) (aNil))) (eComp (iRange (eC (.int 18))) (gVar 12) (tYes) (e2 opEq (eVar 12) (eVar 6)) [12]))) (sRet (eC (.bl false))) (sNil)))))))
def lawT : SS := (sSeq (sAsg (eCall 2 F__law_pick (aCons (eVar 1) (aCons (eLst (aCons (eCall 1 F__law_odd (aCons (eVar 1) (aNil))) (aCons (eCall 1 F__law_odd (aCons (eVar 1) (aNil))) (aCons (eTup (aCons (eCall 1 F__law_odd (aCons (eVar 1) (aNil))) (aCons (eCall 1 F__law_odd (aCons (eVar 1) (aNil))) (aNil)))) (aNil))))) (aNil)))) (gVar 4))
  (sSeq (sAsg (e2 opAdd (eCall 1 F__law_values (aCons (eVar 4) (aNil))) (eCall 1 F__law_others (aCons (eVar 4) (aNil)))) (gVar 5))
  (sFor (iRange (eB bLen (aCons (eVar 5) (aNil)))) (gVar 6) (sSeq (sAsg (e2 opIx (eVar 5) (eVar 6)) (gTup (gVar 7 :: gVar 8 :: gVar 9 :: gVar 10 :: [])))
  (sSeq (sIf (tE (e2 opNe (eB bReprX (aCons (eLst (aCons (eVar 9) (aCons (eVar 10) (aNil)))) (aNil))) (eB bReprX (aCons (eLst (aCons (eVar 4) (aCons (eVar 4) (aNil)))) (aNil))))) (sRet (eC (.bl false))) (sNil))
  (sFor (iE (eTup (aCons (eVar 7) (aCons (eVar 8) (aNil))))) (gVar 3) (sSeq (sAsg (eLst (aCons (e1 (opIsX ans21) (eVar 3)) (aCons (e1 (opIsX ans20) (eVar 3)) (aCons (e1 (opIsX ans19) (eVar 3)) (aNil))))) (gVar 11))
  (sSeq (sIf (tE (e2 opNe (eVar 11) (eComp (iRange (eC (.int 3))) (gVar 12) (tYes) (e2 opEq (eVar 12) (eCall 1 F__law_base (aCons (eVar 3) (aNil)))) [12]))) (sRet (eC (.bl false))) (sNil))
  (sIf (tE (e2 opNe (eCall 1 F__law_kinds_of (aCons (eVar 3) (aNil))) (eComp (iRange (eC (.int 18))) (gVar 12) (tYes) (e2 opEq (eVar 12) (eVar 6)) [12]))) (sRet (eC (.bl false))) (sNil))))))))))
def ent (p : Nat × List Nat) (o : D) : D := .tup [.exn p.1 [p.2] [o], .exn p.1 [p.2] [o], o, o]
def tbl1 : List (Nat × List Nat) := [(0, [118, 97, 108, 117, 101]), (1, [118, 97, 108, 117, 101]), (2, [118, 97, 108, 117, 101]), (3, [118, 97, 108, 117, 101]), (7, [118, 97, 108, 117, 101]), (11, [118, 97, 108, 117, 101]), (15, [118, 97, 108, 117, 101])]
def tbl2 : List (Nat × List Nat) := [(4, [114, 101, 97, 115, 111, 110]), (5, [114, 101, 97, 115, 111, 110]), (6, [105, 110, 100, 101, 120]), (8, [116, 101, 115, 116]), (9, [99, 117, 116]), (12, [102, 97, 99, 116]), (13, [116, 104, 105, 110, 103]), (14, [119, 111, 114, 100]), (16, [99, 111, 117, 110, 116]), (17, [109, 111, 115, 116])]
def xs1 (o : D) : List D := tbl1.map fun p => ent p o
def xs2 (o : D) : List D := tbl2.map fun p => ent p o
/-! the own heap's first place -/
theorem own0 {B : Hs} {ws : List W} : lstAt B [.lst ws] (.ref B.length) = some (0, ws) := by
  show (if B.length < B.length then none else match ([Ob.lst ws] : Hs)[B.length - B.length]? with | some (.lst ws) => some (B.length - B.length, ws) | _ => none) = _
  rw [if_neg (Nat.lt_irrefl _), Nat.sub_self]
  rfl
theorem allD_map : ∀ xs : List D, allD (xs.map .d) = some xs
  | [] => rfl
  | x :: xs => by
    show (match allD (xs.map .d) with | some ys => some (x :: ys) | none => none) = _
    rw [allD_map xs]
theorem vw0 {B : Hs} {xs : List D} : vw B [.lst (xs.map .d)] (.ref B.length) = some (.lst xs) := by
  show (match look B [.lst (xs.map .d)] B.length with | some (.frz x) => some x | some (.lst ws) => (allD ws).map .lst | some (.dct ks ws) => (allD ws).map (.dct ks) | _ => none) = _
  have e : look B [.lst (xs.map .d)] B.length = some (.lst (xs.map .d)) := by
    unfold look
    rw [List.getElem?_append_right (Nat.le_refl _), Nat.sub_self]
    rfl
  rw [e]
  show (allD (xs.map .d)).map D.lst = _
  rw [allD_map]
  rfl
theorem out0 {n : Nat} {xs : List D} : out n [.lst (xs.map .d)] (.ref n) = some (.d (.lst xs)) := by
  show (if n < n then some (W.ref n) else match ([Ob.lst (xs.map .d)] : Hs)[n - n]? with
    | some (Ob.frz x) => some (W.d x)
    | some (Ob.lst ws) => (allD ws).map fun xs => W.d (.lst xs)
    | some (Ob.dct ks ws) => (allD ws).map fun xs => W.d (.dct ks xs)
    | some (Ob.dcn ks ws) => (allD ws).map fun xs => W.d (.dcn ks xs)
    | some (Ob.ins c fs) => (allD (fs.map (·.2))).map fun xs => W.d (.obj c (fs.map (·.1)) xs)
    | none => none) = _
  rw [if_neg (Nat.lt_irrefl _), Nat.sub_self]
  show (allD (xs.map .d)).map (fun xs => W.d (.lst xs)) = _
  rw [allD_map]
  rfl
theorem app0 {B : Hs} {ρ : Sl} {a : SE} {xs : List D} {y : D} (h : ρ[1]? = some (some (.ref B.length))) (ha : a B ρ [.lst (xs.map .d)] = .ok (.d y) [.lst (xs.map .d)]) (hl : xs.length < 1000) : sExpr (eApp (eVar 1) a) B ρ [.lst (xs.map .d)] = .next ρ [.lst ((xs ++ [y]).map .d)] := by
  refine x_expr (x_app (ws := xs.map .d) (n := 0) (x_var h) (by rw [own0]; rfl) ha own0 (by rw [List.length_map]; show _ < 16777216; omega) ?_)
  rw [List.map_append]
  rfl
theorem values_ok (o : D) (B L : Hs) : F__law_values [.d o] B L = .ok (.d (.lst (xs1 o))) L := by
  unfold F__law_values
  refine x_pure (w := .d (.lst (xs1 o))) (L1 := [.lst ([.tup [.exn 0 [[118, 97, 108, 117, 101]] [o], .exn 0 [[118, 97, 108, 117, 101]] [o]], .tup [.exn 1 [[118, 97, 108, 117, 101]] [o], .exn 1 [[118, 97, 108, 117, 101]] [o]], .tup [.exn 2 [[118, 97, 108, 117, 101]] [o], .exn 2 [[118, 97, 108, 117, 101]] [o]]].map .d)]) ?_ rfl
  generalize B ++ L = B'
  refine x_fn (r1 := .ret (.d (.lst (xs1 o))) ([.lst ([.tup [.exn 0 [[118, 97, 108, 117, 101]] [o], .exn 0 [[118, 97, 108, 117, 101]] [o]], .tup [.exn 1 [[118, 97, 108, 117, 101]] [o], .exn 1 [[118, 97, 108, 117, 101]] [o]], .tup [.exn 2 [[118, 97, 108, 117, 101]] [o], .exn 2 [[118, 97, 108, 117, 101]] [o]]].map .d)])) rfl ?_ rfl
  refine x_seq (r1 := .next [some (.d o), some (.ref B'.length), none, none] ([.lst ([.tup [.exn 0 [[118, 97, 108, 117, 101]] [o], .exn 0 [[118, 97, 108, 117, 101]] [o]], .tup [.exn 1 [[118, 97, 108, 117, 101]] [o], .exn 1 [[118, 97, 108, 117, 101]] [o]]].map .d)])) rfl (x_thenN ?_)
  refine x_seq (app0 (xs := [.tup [.exn 0 [[118, 97, 108, 117, 101]] [o], .exn 0 [[118, 97, 108, 117, 101]] [o]], .tup [.exn 1 [[118, 97, 108, 117, 101]] [o], .exn 1 [[118, 97, 108, 117, 101]] [o]]]) (y := .tup [.exn 2 [[118, 97, 108, 117, 101]] [o], .exn 2 [[118, 97, 108, 117, 101]] [o]]) rfl rfl (Nat.le_of_ble_eq_true rfl)) (x_thenN ?_)
  refine x_seq (x_asg (x_2 (p := .lst [.tup [.exn 0 [[118, 97, 108, 117, 101]] [o], .exn 0 [[118, 97, 108, 117, 101]] [o]], .tup [.exn 1 [[118, 97, 108, 117, 101]] [o], .exn 1 [[118, 97, 108, 117, 101]] [o]], .tup [.exn 2 [[118, 97, 108, 117, 101]] [o], .exn 2 [[118, 97, 108, 117, 101]] [o]]]) (q := .lst [.tup [.exn 3 [[118, 97, 108, 117, 101]] [o], .exn 3 [[118, 97, 108, 117, 101]] [o]], .tup [.exn 7 [[118, 97, 108, 117, 101]] [o], .exn 7 [[118, 97, 108, 117, 101]] [o]]]) (x_var rfl) (rfl : _ = Res.ok (W.d (.lst [.tup [.exn 3 [[118, 97, 108, 117, 101]] [o], .exn 3 [[118, 97, 108, 117, 101]] [o]], .tup [.exn 7 [[118, 97, 108, 117, 101]] [o], .exn 7 [[118, 97, 108, 117, 101]] [o]]])) _) vw0 rfl rfl) x_gvar) (x_thenN ?_)
  rfl
theorem fld_c {cs : Nat → Bool} {c : Nat} {f : List Nat} {o : D} (h : cs c = true) : fldXc cs f (.exn c [f] [o]) = some o := by
  show (if cs c = true then ([f].zip [o]).lookup f else none) = _
  rw [if_pos h]
  show (match f == f with | true => some o | false => ([] : List (List Nat × D)).lookup f) = _
  rw [beq_self_eq_true]
theorem exn_ok {B L : Hs} {ρ : Sl} {c : Nat} {f : List Nat} {o : D} (h : ρ[0]? = some (some (.d o))) : eExn c f (aCons (eVar 0) aNil) B ρ L = .ok (.d (.exn c [f] [o])) L := by
  unfold eExn
  rw [x_cons (x_var h) x_nil]
  rfl
theorem tup4 {B L : Hs} {cs : Nat → Bool} {c : Nat} {f : List Nat} {o : D} {r : W} (h : cs c = true) : eTup (aCons (eVar 2) (aCons (eVar 3) (aCons (e1 (fldXc cs f) (eVar 2)) (aCons (e1 (fldXc cs f) (eVar 3)) (aNil))))) B [some (.d o), some r, some (.d (.exn c [f] [o])), some (.d (.exn c [f] [o]))] L = .ok (.d (ent (c, f) o)) L :=
  x_tup (x_cons (x_var rfl) (x_cons (x_var rfl) (x_cons (x_1 (x_var rfl) v_d (fld_c h)) (x_cons (x_1 (x_var rfl) v_d (fld_c h)) x_nil)))) rfl (Nat.le_of_ble_eq_true rfl)
theorem pair_step {B : Hs} {rest : SS} {sr : SR} {cs : Nat → Bool} {c : Nat} {f : List Nat} {o : D} {x y : Option W} {acc : List D} (h : cs c = true) (hl : acc.length < 1000) (hr : rest B [some (.d o), some (.ref B.length), some (.d (.exn c [f] [o])), some (.d (.exn c [f] [o]))] [.lst ((acc ++ [ent (c, f) o]).map .d)] = sr) :
    sSeq (sPar 2 3 (aCons (eExn c f (aCons (eVar 0) (aNil))) (aCons (eExn c f (aCons (eVar 0) aNil)) (aNil)))) (sSeq (sExpr (eApp (eVar 1) (eTup (aCons (eVar 2) (aCons (eVar 3) (aCons (e1 (fldXc cs f) (eVar 2)) (aCons (e1 (fldXc cs f) (eVar 3)) (aNil)))))))) rest) B [some (.d o), some (.ref B.length), x, y] [.lst (acc.map .d)] = sr :=
  x_seq (x_par (x_cons (exn_ok rfl) (x_cons (exn_ok rfl) x_nil))) (x_thenN (x_seq (app0 rfl (tup4 h) hl) (x_thenN hr)))
theorem others_ok (o : D) (B L : Hs) : F__law_others [.d o] B L = .ok (.d (.lst (xs2 o))) L := by
  unfold F__law_others
  refine x_pure (w := .ref (B ++ L).length) (L1 := [.lst ((xs2 o).map .d)]) ?_ out0
  generalize B ++ L = B'
  refine x_fn (r1 := .ret (.ref B'.length) [.lst ((xs2 o).map .d)]) rfl ?_ rfl
  refine x_seq (r1 := .next [some (.d o), some (.ref B'.length), none, none] [.lst (([] : List D).map .d)]) rfl (x_thenN ?_)
  refine x_seq (x_for (xs := [.tup [.exn 4 [[114, 101, 97, 115, 111, 110]] [o], .exn 4 [[114, 101, 97, 115, 111, 110]] [o]], .tup [.exn 5 [[114, 101, 97, 115, 111, 110]] [o], .exn 5 [[114, 101, 97, 115, 111, 110]] [o]]]) rfl (x_forcons rfl (app0 (xs := (tbl2.take 0).map fun p => ent p o) (y := ent (4, [114, 101, 97, 115, 111, 110]) o) rfl (tup4 rfl) (Nat.le_of_ble_eq_true rfl)) (x_turnN (x_forcons rfl (app0 (xs := (tbl2.take 1).map fun p => ent p o) (y := ent (5, [114, 101, 97, 115, 111, 110]) o) rfl (tup4 rfl) (Nat.le_of_ble_eq_true rfl)) (x_turnN x_fornil))))) (x_thenN ?_)
  refine pair_step (acc := (tbl2.take 2).map fun p => ent p o) rfl (Nat.le_of_ble_eq_true rfl) ?_
  refine pair_step (acc := (tbl2.take 3).map fun p => ent p o) rfl (Nat.le_of_ble_eq_true rfl) ?_
  refine pair_step (acc := (tbl2.take 4).map fun p => ent p o) rfl (Nat.le_of_ble_eq_true rfl) ?_
  refine pair_step (acc := (tbl2.take 5).map fun p => ent p o) rfl (Nat.le_of_ble_eq_true rfl) ?_
  refine pair_step (acc := (tbl2.take 6).map fun p => ent p o) rfl (Nat.le_of_ble_eq_true rfl) ?_
  refine pair_step (acc := (tbl2.take 7).map fun p => ent p o) rfl (Nat.le_of_ble_eq_true rfl) ?_
  refine pair_step (acc := (tbl2.take 8).map fun p => ent p o) rfl (Nat.le_of_ble_eq_true rfl) ?_
  refine pair_step (acc := (tbl2.take 9).map fun p => ent p o) rfl (Nat.le_of_ble_eq_true rfl) ?_
  exact x_ret (x_var rfl)
end K00
end Ev

set_option linter.all false
set_option maxRecDepth 100000
set_option maxHeartbeats 4000000
namespace Ev
namespace K00
section
variable {a0 a1 a2 a3 a4 a5 a6 a7 a8 a9 a10 a11 a12 : Option W} {B L : Hs} {o : D}
theorem m0 : lawM B [a0, a1, a2, some (.d (.exn 0 [[118, 97, 108, 117, 101]] [o])), a4, a5, some (.d (.int 0)), a7, a8, a9, a10, a11, a12] L = .next [a0, a1, a2, some (.d (.exn 0 [[118, 97, 108, 117, 101]] [o])), a4, a5, some (.d (.int 0)), a7, a8, a9, a10, some (.d (.lst [.bl true, .bl false, .bl false])), a12] L := rfl
theorem m1 : lawM B [a0, a1, a2, some (.d (.exn 1 [[118, 97, 108, 117, 101]] [o])), a4, a5, some (.d (.int 1)), a7, a8, a9, a10, a11, a12] L = .next [a0, a1, a2, some (.d (.exn 1 [[118, 97, 108, 117, 101]] [o])), a4, a5, some (.d (.int 1)), a7, a8, a9, a10, some (.d (.lst [.bl true, .bl false, .bl false])), a12] L := rfl
theorem m2 : lawM B [a0, a1, a2, some (.d (.exn 2 [[118, 97, 108, 117, 101]] [o])), a4, a5, some (.d (.int 2)), a7, a8, a9, a10, a11, a12] L = .next [a0, a1, a2, some (.d (.exn 2 [[118, 97, 108, 117, 101]] [o])), a4, a5, some (.d (.int 2)), a7, a8, a9, a10, some (.d (.lst [.bl true, .bl false, .bl false])), a12] L := rfl
theorem m3 : lawM B [a0, a1, a2, some (.d (.exn 3 [[118, 97, 108, 117, 101]] [o])), a4, a5, some (.d (.int 3)), a7, a8, a9, a10, a11, a12] L = .next [a0, a1, a2, some (.d (.exn 3 [[118, 97, 108, 117, 101]] [o])), a4, a5, some (.d (.int 3)), a7, a8, a9, a10, some (.d (.lst [.bl true, .bl false, .bl false])), a12] L := rfl
theorem m4 : lawM B [a0, a1, a2, some (.d (.exn 7 [[118, 97, 108, 117, 101]] [o])), a4, a5, some (.d (.int 4)), a7, a8, a9, a10, a11, a12] L = .next [a0, a1, a2, some (.d (.exn 7 [[118, 97, 108, 117, 101]] [o])), a4, a5, some (.d (.int 4)), a7, a8, a9, a10, some (.d (.lst [.bl true, .bl false, .bl false])), a12] L := rfl
theorem m5 : lawM B [a0, a1, a2, some (.d (.exn 11 [[118, 97, 108, 117, 101]] [o])), a4, a5, some (.d (.int 5)), a7, a8, a9, a10, a11, a12] L = .next [a0, a1, a2, some (.d (.exn 11 [[118, 97, 108, 117, 101]] [o])), a4, a5, some (.d (.int 5)), a7, a8, a9, a10, some (.d (.lst [.bl true, .bl false, .bl false])), a12] L := rfl
theorem m6 : lawM B [a0, a1, a2, some (.d (.exn 15 [[118, 97, 108, 117, 101]] [o])), a4, a5, some (.d (.int 6)), a7, a8, a9, a10, a11, a12] L = .next [a0, a1, a2, some (.d (.exn 15 [[118, 97, 108, 117, 101]] [o])), a4, a5, some (.d (.int 6)), a7, a8, a9, a10, some (.d (.lst [.bl false, .bl true, .bl false])), a12] L := rfl
theorem m7 : lawM B [a0, a1, a2, some (.d (.exn 4 [[114, 101, 97, 115, 111, 110]] [o])), a4, a5, some (.d (.int 7)), a7, a8, a9, a10, a11, a12] L = .next [a0, a1, a2, some (.d (.exn 4 [[114, 101, 97, 115, 111, 110]] [o])), a4, a5, some (.d (.int 7)), a7, a8, a9, a10, some (.d (.lst [.bl true, .bl false, .bl false])), a12] L := rfl
theorem m8 : lawM B [a0, a1, a2, some (.d (.exn 5 [[114, 101, 97, 115, 111, 110]] [o])), a4, a5, some (.d (.int 8)), a7, a8, a9, a10, a11, a12] L = .next [a0, a1, a2, some (.d (.exn 5 [[114, 101, 97, 115, 111, 110]] [o])), a4, a5, some (.d (.int 8)), a7, a8, a9, a10, some (.d (.lst [.bl true, .bl false, .bl false])), a12] L := rfl
theorem m9 : lawM B [a0, a1, a2, some (.d (.exn 6 [[105, 110, 100, 101, 120]] [o])), a4, a5, some (.d (.int 9)), a7, a8, a9, a10, a11, a12] L = .next [a0, a1, a2, some (.d (.exn 6 [[105, 110, 100, 101, 120]] [o])), a4, a5, some (.d (.int 9)), a7, a8, a9, a10, some (.d (.lst [.bl true, .bl false, .bl false])), a12] L := rfl
theorem m10 : lawM B [a0, a1, a2, some (.d (.exn 8 [[116, 101, 115, 116]] [o])), a4, a5, some (.d (.int 10)), a7, a8, a9, a10, a11, a12] L = .next [a0, a1, a2, some (.d (.exn 8 [[116, 101, 115, 116]] [o])), a4, a5, some (.d (.int 10)), a7, a8, a9, a10, some (.d (.lst [.bl true, .bl false, .bl false])), a12] L := rfl
theorem m11 : lawM B [a0, a1, a2, some (.d (.exn 9 [[99, 117, 116]] [o])), a4, a5, some (.d (.int 11)), a7, a8, a9, a10, a11, a12] L = .next [a0, a1, a2, some (.d (.exn 9 [[99, 117, 116]] [o])), a4, a5, some (.d (.int 11)), a7, a8, a9, a10, some (.d (.lst [.bl true, .bl false, .bl false])), a12] L := rfl
theorem m12 : lawM B [a0, a1, a2, some (.d (.exn 12 [[102, 97, 99, 116]] [o])), a4, a5, some (.d (.int 12)), a7, a8, a9, a10, a11, a12] L = .next [a0, a1, a2, some (.d (.exn 12 [[102, 97, 99, 116]] [o])), a4, a5, some (.d (.int 12)), a7, a8, a9, a10, some (.d (.lst [.bl false, .bl true, .bl false])), a12] L := rfl
theorem m13 : lawM B [a0, a1, a2, some (.d (.exn 13 [[116, 104, 105, 110, 103]] [o])), a4, a5, some (.d (.int 13)), a7, a8, a9, a10, a11, a12] L = .next [a0, a1, a2, some (.d (.exn 13 [[116, 104, 105, 110, 103]] [o])), a4, a5, some (.d (.int 13)), a7, a8, a9, a10, some (.d (.lst [.bl false, .bl true, .bl false])), a12] L := rfl
theorem m14 : lawM B [a0, a1, a2, some (.d (.exn 14 [[119, 111, 114, 100]] [o])), a4, a5, some (.d (.int 14)), a7, a8, a9, a10, a11, a12] L = .next [a0, a1, a2, some (.d (.exn 14 [[119, 111, 114, 100]] [o])), a4, a5, some (.d (.int 14)), a7, a8, a9, a10, some (.d (.lst [.bl false, .bl true, .bl false])), a12] L := rfl
theorem m15 : lawM B [a0, a1, a2, some (.d (.exn 16 [[99, 111, 117, 110, 116]] [o])), a4, a5, some (.d (.int 15)), a7, a8, a9, a10, a11, a12] L = .next [a0, a1, a2, some (.d (.exn 16 [[99, 111, 117, 110, 116]] [o])), a4, a5, some (.d (.int 15)), a7, a8, a9, a10, some (.d (.lst [.bl false, .bl true, .bl false])), a12] L := rfl
theorem m16 : lawM B [a0, a1, a2, some (.d (.exn 17 [[109, 111, 115, 116]] [o])), a4, a5, some (.d (.int 16)), a7, a8, a9, a10, a11, a12] L = .next [a0, a1, a2, some (.d (.exn 17 [[109, 111, 115, 116]] [o])), a4, a5, some (.d (.int 16)), a7, a8, a9, a10, some (.d (.lst [.bl false, .bl false, .bl true])), a12] L := rfl
theorem ne_s {s : List Nat} : opNe (.str s) (.str s) = some (.bl false) := by
  show some (D.bl (!decide (s = s))) = _
  rw [decide_eq_true rfl]
  rfl
theorem rep_if {s : List Nat} {a b c d : SE} {B L : Hs} {ρ : Sl} (hs : bReprX [.lst [o, o]] = some (.str s)) (ha : a B ρ L = .ok (.d o) L) (hb : b B ρ L = .ok (.d o) L) (hc : c B ρ L = .ok (.d o) L) (hd : d B ρ L = .ok (.d o) L) :
    sIf (tE (e2 opNe (eB bReprX (aCons (eLst (aCons a (aCons b (aNil)))) (aNil))) (eB bReprX (aCons (eLst (aCons c (aCons d (aNil)))) (aNil))))) (sRet (eC (.bl false))) (sNil) B ρ L = .next ρ L :=
  x_sif (k := false) (x_tE (x_2 (x_B (x_cons (x_lst (xs := [o, o]) (x_cons ha (x_cons hb x_nil)) rfl (Nat.le_of_ble_eq_true rfl)) x_nil) (x_vcons rfl x_vnil) hs) (x_B (x_cons (x_lst (xs := [o, o]) (x_cons hc (x_cons hd x_nil)) rfl (Nat.le_of_ble_eq_true rfl)) x_nil) (x_vcons rfl x_vnil) hs) rfl rfl ne_s) rfl rfl) (br0 rfl x_snil)
theorem k0 {s : List Nat} (hs : bReprX [.lst [o, o]] = some (.str s)) : lawK B [a0, a1, a2, a3, some (.d o), some (.d (.lst (xs1 o ++ xs2 o))), some (.d (.int 0)), a7, a8, a9, a10, a11, a12] L = .next [a0, a1, a2, some (.d (.exn 0 [[118, 97, 108, 117, 101]] [o])), some (.d o), some (.d (.lst (xs1 o ++ xs2 o))), some (.d (.int 0)), some (.d (.exn 0 [[118, 97, 108, 117, 101]] [o])), some (.d (.exn 0 [[118, 97, 108, 117, 101]] [o])), some (.d o), some (.d o), some (.d (.lst [.bl true, .bl false, .bl false])), a12] L := by
  unfold lawK
  refine x_seq (r1 := .next [a0, a1, a2, a3, some (.d o), some (.d (.lst (xs1 o ++ xs2 o))), some (.d (.int 0)), some (.d (.exn 0 [[118, 97, 108, 117, 101]] [o])), some (.d (.exn 0 [[118, 97, 108, 117, 101]] [o])), some (.d o), some (.d o), a11, a12] L) rfl (x_thenN ?_)
  refine x_seq (rep_if hs rfl rfl rfl rfl) (x_thenN ?_)
  exact x_for (xs := [.exn 0 [[118, 97, 108, 117, 101]] [o], .exn 0 [[118, 97, 108, 117, 101]] [o]]) rfl (x_forcons rfl m0 (x_turnN (x_forcons rfl m0 (x_turnN x_fornil))))
theorem k1 {s : List Nat} (hs : bReprX [.lst [o, o]] = some (.str s)) : lawK B [a0, a1, a2, a3, some (.d o), some (.d (.lst (xs1 o ++ xs2 o))), some (.d (.int 1)), a7, a8, a9, a10, a11, a12] L = .next [a0, a1, a2, some (.d (.exn 1 [[118, 97, 108, 117, 101]] [o])), some (.d o), some (.d (.lst (xs1 o ++ xs2 o))), some (.d (.int 1)), some (.d (.exn 1 [[118, 97, 108, 117, 101]] [o])), some (.d (.exn 1 [[118, 97, 108, 117, 101]] [o])), some (.d o), some (.d o), some (.d (.lst [.bl true, .bl false, .bl false])), a12] L := by
  unfold lawK
  refine x_seq (r1 := .next [a0, a1, a2, a3, some (.d o), some (.d (.lst (xs1 o ++ xs2 o))), some (.d (.int 1)), some (.d (.exn 1 [[118, 97, 108, 117, 101]] [o])), some (.d (.exn 1 [[118, 97, 108, 117, 101]] [o])), some (.d o), some (.d o), a11, a12] L) rfl (x_thenN ?_)
  refine x_seq (rep_if hs rfl rfl rfl rfl) (x_thenN ?_)
  exact x_for (xs := [.exn 1 [[118, 97, 108, 117, 101]] [o], .exn 1 [[118, 97, 108, 117, 101]] [o]]) rfl (x_forcons rfl m1 (x_turnN (x_forcons rfl m1 (x_turnN x_fornil))))
theorem k2 {s : List Nat} (hs : bReprX [.lst [o, o]] = some (.str s)) : lawK B [a0, a1, a2, a3, some (.d o), some (.d (.lst (xs1 o ++ xs2 o))), some (.d (.int 2)), a7, a8, a9, a10, a11, a12] L = .next [a0, a1, a2, some (.d (.exn 2 [[118, 97, 108, 117, 101]] [o])), some (.d o), some (.d (.lst (xs1 o ++ xs2 o))), some (.d (.int 2)), some (.d (.exn 2 [[118, 97, 108, 117, 101]] [o])), some (.d (.exn 2 [[118, 97, 108, 117, 101]] [o])), some (.d o), some (.d o), some (.d (.lst [.bl true, .bl false, .bl false])), a12] L := by
  unfold lawK
  refine x_seq (r1 := .next [a0, a1, a2, a3, some (.d o), some (.d (.lst (xs1 o ++ xs2 o))), some (.d (.int 2)), some (.d (.exn 2 [[118, 97, 108, 117, 101]] [o])), some (.d (.exn 2 [[118, 97, 108, 117, 101]] [o])), some (.d o), some (.d o), a11, a12] L) rfl (x_thenN ?_)
  refine x_seq (rep_if hs rfl rfl rfl rfl) (x_thenN ?_)
  exact x_for (xs := [.exn 2 [[118, 97, 108, 117, 101]] [o], .exn 2 [[118, 97, 108, 117, 101]] [o]]) rfl (x_forcons rfl m2 (x_turnN (x_forcons rfl m2 (x_turnN x_fornil))))
theorem k3 {s : List Nat} (hs : bReprX [.lst [o, o]] = some (.str s)) : lawK B [a0, a1, a2, a3, some (.d o), some (.d (.lst (xs1 o ++ xs2 o))), some (.d (.int 3)), a7, a8, a9, a10, a11, a12] L = .next [a0, a1, a2, some (.d (.exn 3 [[118, 97, 108, 117, 101]] [o])), some (.d o), some (.d (.lst (xs1 o ++ xs2 o))), some (.d (.int 3)), some (.d (.exn 3 [[118, 97, 108, 117, 101]] [o])), some (.d (.exn 3 [[118, 97, 108, 117, 101]] [o])), some (.d o), some (.d o), some (.d (.lst [.bl true, .bl false, .bl false])), a12] L := by
  unfold lawK
  refine x_seq (r1 := .next [a0, a1, a2, a3, some (.d o), some (.d (.lst (xs1 o ++ xs2 o))), some (.d (.int 3)), some (.d (.exn 3 [[118, 97, 108, 117, 101]] [o])), some (.d (.exn 3 [[118, 97, 108, 117, 101]] [o])), some (.d o), some (.d o), a11, a12] L) rfl (x_thenN ?_)
  refine x_seq (rep_if hs rfl rfl rfl rfl) (x_thenN ?_)
  exact x_for (xs := [.exn 3 [[118, 97, 108, 117, 101]] [o], .exn 3 [[118, 97, 108, 117, 101]] [o]]) rfl (x_forcons rfl m3 (x_turnN (x_forcons rfl m3 (x_turnN x_fornil))))
theorem k4 {s : List Nat} (hs : bReprX [.lst [o, o]] = some (.str s)) : lawK B [a0, a1, a2, a3, some (.d o), some (.d (.lst (xs1 o ++ xs2 o))), some (.d (.int 4)), a7, a8, a9, a10, a11, a12] L = .next [a0, a1, a2, some (.d (.exn 7 [[118, 97, 108, 117, 101]] [o])), some (.d o), some (.d (.lst (xs1 o ++ xs2 o))), some (.d (.int 4)), some (.d (.exn 7 [[118, 97, 108, 117, 101]] [o])), some (.d (.exn 7 [[118, 97, 108, 117, 101]] [o])), some (.d o), some (.d o), some (.d (.lst [.bl true, .bl false, .bl false])), a12] L := by
  unfold lawK
  refine x_seq (r1 := .next [a0, a1, a2, a3, some (.d o), some (.d (.lst (xs1 o ++ xs2 o))), some (.d (.int 4)), some (.d (.exn 7 [[118, 97, 108, 117, 101]] [o])), some (.d (.exn 7 [[118, 97, 108, 117, 101]] [o])), some (.d o), some (.d o), a11, a12] L) rfl (x_thenN ?_)
  refine x_seq (rep_if hs rfl rfl rfl rfl) (x_thenN ?_)
  exact x_for (xs := [.exn 7 [[118, 97, 108, 117, 101]] [o], .exn 7 [[118, 97, 108, 117, 101]] [o]]) rfl (x_forcons rfl m4 (x_turnN (x_forcons rfl m4 (x_turnN x_fornil))))
theorem k5 {s : List Nat} (hs : bReprX [.lst [o, o]] = some (.str s)) : lawK B [a0, a1, a2, a3, some (.d o), some (.d (.lst (xs1 o ++ xs2 o))), some (.d (.int 5)), a7, a8, a9, a10, a11, a12] L = .next [a0, a1, a2, some (.d (.exn 11 [[118, 97, 108, 117, 101]] [o])), some (.d o), some (.d (.lst (xs1 o ++ xs2 o))), some (.d (.int 5)), some (.d (.exn 11 [[118, 97, 108, 117, 101]] [o])), some (.d (.exn 11 [[118, 97, 108, 117, 101]] [o])), some (.d o), some (.d o), some (.d (.lst [.bl true, .bl false, .bl false])), a12] L := by
  unfold lawK
  refine x_seq (r1 := .next [a0, a1, a2, a3, some (.d o), some (.d (.lst (xs1 o ++ xs2 o))), some (.d (.int 5)), some (.d (.exn 11 [[118, 97, 108, 117, 101]] [o])), some (.d (.exn 11 [[118, 97, 108, 117, 101]] [o])), some (.d o), some (.d o), a11, a12] L) rfl (x_thenN ?_)
  refine x_seq (rep_if hs rfl rfl rfl rfl) (x_thenN ?_)
  exact x_for (xs := [.exn 11 [[118, 97, 108, 117, 101]] [o], .exn 11 [[118, 97, 108, 117, 101]] [o]]) rfl (x_forcons rfl m5 (x_turnN (x_forcons rfl m5 (x_turnN x_fornil))))
theorem k6 {s : List Nat} (hs : bReprX [.lst [o, o]] = some (.str s)) : lawK B [a0, a1, a2, a3, some (.d o), some (.d (.lst (xs1 o ++ xs2 o))), some (.d (.int 6)), a7, a8, a9, a10, a11, a12] L = .next [a0, a1, a2, some (.d (.exn 15 [[118, 97, 108, 117, 101]] [o])), some (.d o), some (.d (.lst (xs1 o ++ xs2 o))), some (.d (.int 6)), some (.d (.exn 15 [[118, 97, 108, 117, 101]] [o])), some (.d (.exn 15 [[118, 97, 108, 117, 101]] [o])), some (.d o), some (.d o), some (.d (.lst [.bl false, .bl true, .bl false])), a12] L := by
  unfold lawK
  refine x_seq (r1 := .next [a0, a1, a2, a3, some (.d o), some (.d (.lst (xs1 o ++ xs2 o))), some (.d (.int 6)), some (.d (.exn 15 [[118, 97, 108, 117, 101]] [o])), some (.d (.exn 15 [[118, 97, 108, 117, 101]] [o])), some (.d o), some (.d o), a11, a12] L) rfl (x_thenN ?_)
  refine x_seq (rep_if hs rfl rfl rfl rfl) (x_thenN ?_)
  exact x_for (xs := [.exn 15 [[118, 97, 108, 117, 101]] [o], .exn 15 [[118, 97, 108, 117, 101]] [o]]) rfl (x_forcons rfl m6 (x_turnN (x_forcons rfl m6 (x_turnN x_fornil))))
theorem k7 {s : List Nat} (hs : bReprX [.lst [o, o]] = some (.str s)) : lawK B [a0, a1, a2, a3, some (.d o), some (.d (.lst (xs1 o ++ xs2 o))), some (.d (.int 7)), a7, a8, a9, a10, a11, a12] L = .next [a0, a1, a2, some (.d (.exn 4 [[114, 101, 97, 115, 111, 110]] [o])), some (.d o), some (.d (.lst (xs1 o ++ xs2 o))), some (.d (.int 7)), some (.d (.exn 4 [[114, 101, 97, 115, 111, 110]] [o])), some (.d (.exn 4 [[114, 101, 97, 115, 111, 110]] [o])), some (.d o), some (.d o), some (.d (.lst [.bl true, .bl false, .bl false])), a12] L := by
  unfold lawK
  refine x_seq (r1 := .next [a0, a1, a2, a3, some (.d o), some (.d (.lst (xs1 o ++ xs2 o))), some (.d (.int 7)), some (.d (.exn 4 [[114, 101, 97, 115, 111, 110]] [o])), some (.d (.exn 4 [[114, 101, 97, 115, 111, 110]] [o])), some (.d o), some (.d o), a11, a12] L) rfl (x_thenN ?_)
  refine x_seq (rep_if hs rfl rfl rfl rfl) (x_thenN ?_)
  exact x_for (xs := [.exn 4 [[114, 101, 97, 115, 111, 110]] [o], .exn 4 [[114, 101, 97, 115, 111, 110]] [o]]) rfl (x_forcons rfl m7 (x_turnN (x_forcons rfl m7 (x_turnN x_fornil))))
theorem k8 {s : List Nat} (hs : bReprX [.lst [o, o]] = some (.str s)) : lawK B [a0, a1, a2, a3, some (.d o), some (.d (.lst (xs1 o ++ xs2 o))), some (.d (.int 8)), a7, a8, a9, a10, a11, a12] L = .next [a0, a1, a2, some (.d (.exn 5 [[114, 101, 97, 115, 111, 110]] [o])), some (.d o), some (.d (.lst (xs1 o ++ xs2 o))), some (.d (.int 8)), some (.d (.exn 5 [[114, 101, 97, 115, 111, 110]] [o])), some (.d (.exn 5 [[114, 101, 97, 115, 111, 110]] [o])), some (.d o), some (.d o), some (.d (.lst [.bl true, .bl false, .bl false])), a12] L := by
  unfold lawK
  refine x_seq (r1 := .next [a0, a1, a2, a3, some (.d o), some (.d (.lst (xs1 o ++ xs2 o))), some (.d (.int 8)), some (.d (.exn 5 [[114, 101, 97, 115, 111, 110]] [o])), some (.d (.exn 5 [[114, 101, 97, 115, 111, 110]] [o])), some (.d o), some (.d o), a11, a12] L) rfl (x_thenN ?_)
  refine x_seq (rep_if hs rfl rfl rfl rfl) (x_thenN ?_)
  exact x_for (xs := [.exn 5 [[114, 101, 97, 115, 111, 110]] [o], .exn 5 [[114, 101, 97, 115, 111, 110]] [o]]) rfl (x_forcons rfl m8 (x_turnN (x_forcons rfl m8 (x_turnN x_fornil))))
theorem k9 {s : List Nat} (hs : bReprX [.lst [o, o]] = some (.str s)) : lawK B [a0, a1, a2, a3, some (.d o), some (.d (.lst (xs1 o ++ xs2 o))), some (.d (.int 9)), a7, a8, a9, a10, a11, a12] L = .next [a0, a1, a2, some (.d (.exn 6 [[105, 110, 100, 101, 120]] [o])), some (.d o), some (.d (.lst (xs1 o ++ xs2 o))), some (.d (.int 9)), some (.d (.exn 6 [[105, 110, 100, 101, 120]] [o])), some (.d (.exn 6 [[105, 110, 100, 101, 120]] [o])), some (.d o), some (.d o), some (.d (.lst [.bl true, .bl false, .bl false])), a12] L := by
  unfold lawK
  refine x_seq (r1 := .next [a0, a1, a2, a3, some (.d o), some (.d (.lst (xs1 o ++ xs2 o))), some (.d (.int 9)), some (.d (.exn 6 [[105, 110, 100, 101, 120]] [o])), some (.d (.exn 6 [[105, 110, 100, 101, 120]] [o])), some (.d o), some (.d o), a11, a12] L) rfl (x_thenN ?_)
  refine x_seq (rep_if hs rfl rfl rfl rfl) (x_thenN ?_)
  exact x_for (xs := [.exn 6 [[105, 110, 100, 101, 120]] [o], .exn 6 [[105, 110, 100, 101, 120]] [o]]) rfl (x_forcons rfl m9 (x_turnN (x_forcons rfl m9 (x_turnN x_fornil))))
theorem k10 {s : List Nat} (hs : bReprX [.lst [o, o]] = some (.str s)) : lawK B [a0, a1, a2, a3, some (.d o), some (.d (.lst (xs1 o ++ xs2 o))), some (.d (.int 10)), a7, a8, a9, a10, a11, a12] L = .next [a0, a1, a2, some (.d (.exn 8 [[116, 101, 115, 116]] [o])), some (.d o), some (.d (.lst (xs1 o ++ xs2 o))), some (.d (.int 10)), some (.d (.exn 8 [[116, 101, 115, 116]] [o])), some (.d (.exn 8 [[116, 101, 115, 116]] [o])), some (.d o), some (.d o), some (.d (.lst [.bl true, .bl false, .bl false])), a12] L := by
  unfold lawK
  refine x_seq (r1 := .next [a0, a1, a2, a3, some (.d o), some (.d (.lst (xs1 o ++ xs2 o))), some (.d (.int 10)), some (.d (.exn 8 [[116, 101, 115, 116]] [o])), some (.d (.exn 8 [[116, 101, 115, 116]] [o])), some (.d o), some (.d o), a11, a12] L) rfl (x_thenN ?_)
  refine x_seq (rep_if hs rfl rfl rfl rfl) (x_thenN ?_)
  exact x_for (xs := [.exn 8 [[116, 101, 115, 116]] [o], .exn 8 [[116, 101, 115, 116]] [o]]) rfl (x_forcons rfl m10 (x_turnN (x_forcons rfl m10 (x_turnN x_fornil))))
theorem k11 {s : List Nat} (hs : bReprX [.lst [o, o]] = some (.str s)) : lawK B [a0, a1, a2, a3, some (.d o), some (.d (.lst (xs1 o ++ xs2 o))), some (.d (.int 11)), a7, a8, a9, a10, a11, a12] L = .next [a0, a1, a2, some (.d (.exn 9 [[99, 117, 116]] [o])), some (.d o), some (.d (.lst (xs1 o ++ xs2 o))), some (.d (.int 11)), some (.d (.exn 9 [[99, 117, 116]] [o])), some (.d (.exn 9 [[99, 117, 116]] [o])), some (.d o), some (.d o), some (.d (.lst [.bl true, .bl false, .bl false])), a12] L := by
  unfold lawK
  refine x_seq (r1 := .next [a0, a1, a2, a3, some (.d o), some (.d (.lst (xs1 o ++ xs2 o))), some (.d (.int 11)), some (.d (.exn 9 [[99, 117, 116]] [o])), some (.d (.exn 9 [[99, 117, 116]] [o])), some (.d o), some (.d o), a11, a12] L) rfl (x_thenN ?_)
  refine x_seq (rep_if hs rfl rfl rfl rfl) (x_thenN ?_)
  exact x_for (xs := [.exn 9 [[99, 117, 116]] [o], .exn 9 [[99, 117, 116]] [o]]) rfl (x_forcons rfl m11 (x_turnN (x_forcons rfl m11 (x_turnN x_fornil))))
theorem k12 {s : List Nat} (hs : bReprX [.lst [o, o]] = some (.str s)) : lawK B [a0, a1, a2, a3, some (.d o), some (.d (.lst (xs1 o ++ xs2 o))), some (.d (.int 12)), a7, a8, a9, a10, a11, a12] L = .next [a0, a1, a2, some (.d (.exn 12 [[102, 97, 99, 116]] [o])), some (.d o), some (.d (.lst (xs1 o ++ xs2 o))), some (.d (.int 12)), some (.d (.exn 12 [[102, 97, 99, 116]] [o])), some (.d (.exn 12 [[102, 97, 99, 116]] [o])), some (.d o), some (.d o), some (.d (.lst [.bl false, .bl true, .bl false])), a12] L := by
  unfold lawK
  refine x_seq (r1 := .next [a0, a1, a2, a3, some (.d o), some (.d (.lst (xs1 o ++ xs2 o))), some (.d (.int 12)), some (.d (.exn 12 [[102, 97, 99, 116]] [o])), some (.d (.exn 12 [[102, 97, 99, 116]] [o])), some (.d o), some (.d o), a11, a12] L) rfl (x_thenN ?_)
  refine x_seq (rep_if hs rfl rfl rfl rfl) (x_thenN ?_)
  exact x_for (xs := [.exn 12 [[102, 97, 99, 116]] [o], .exn 12 [[102, 97, 99, 116]] [o]]) rfl (x_forcons rfl m12 (x_turnN (x_forcons rfl m12 (x_turnN x_fornil))))
theorem k13 {s : List Nat} (hs : bReprX [.lst [o, o]] = some (.str s)) : lawK B [a0, a1, a2, a3, some (.d o), some (.d (.lst (xs1 o ++ xs2 o))), some (.d (.int 13)), a7, a8, a9, a10, a11, a12] L = .next [a0, a1, a2, some (.d (.exn 13 [[116, 104, 105, 110, 103]] [o])), some (.d o), some (.d (.lst (xs1 o ++ xs2 o))), some (.d (.int 13)), some (.d (.exn 13 [[116, 104, 105, 110, 103]] [o])), some (.d (.exn 13 [[116, 104, 105, 110, 103]] [o])), some (.d o), some (.d o), some (.d (.lst [.bl false, .bl true, .bl false])), a12] L := by
  unfold lawK
  refine x_seq (r1 := .next [a0, a1, a2, a3, some (.d o), some (.d (.lst (xs1 o ++ xs2 o))), some (.d (.int 13)), some (.d (.exn 13 [[116, 104, 105, 110, 103]] [o])), some (.d (.exn 13 [[116, 104, 105, 110, 103]] [o])), some (.d o), some (.d o), a11, a12] L) rfl (x_thenN ?_)
  refine x_seq (rep_if hs rfl rfl rfl rfl) (x_thenN ?_)
  exact x_for (xs := [.exn 13 [[116, 104, 105, 110, 103]] [o], .exn 13 [[116, 104, 105, 110, 103]] [o]]) rfl (x_forcons rfl m13 (x_turnN (x_forcons rfl m13 (x_turnN x_fornil))))
theorem k14 {s : List Nat} (hs : bReprX [.lst [o, o]] = some (.str s)) : lawK B [a0, a1, a2, a3, some (.d o), some (.d (.lst (xs1 o ++ xs2 o))), some (.d (.int 14)), a7, a8, a9, a10, a11, a12] L = .next [a0, a1, a2, some (.d (.exn 14 [[119, 111, 114, 100]] [o])), some (.d o), some (.d (.lst (xs1 o ++ xs2 o))), some (.d (.int 14)), some (.d (.exn 14 [[119, 111, 114, 100]] [o])), some (.d (.exn 14 [[119, 111, 114, 100]] [o])), some (.d o), some (.d o), some (.d (.lst [.bl false, .bl true, .bl false])), a12] L := by
  unfold lawK
  refine x_seq (r1 := .next [a0, a1, a2, a3, some (.d o), some (.d (.lst (xs1 o ++ xs2 o))), some (.d (.int 14)), some (.d (.exn 14 [[119, 111, 114, 100]] [o])), some (.d (.exn 14 [[119, 111, 114, 100]] [o])), some (.d o), some (.d o), a11, a12] L) rfl (x_thenN ?_)
  refine x_seq (rep_if hs rfl rfl rfl rfl) (x_thenN ?_)
  exact x_for (xs := [.exn 14 [[119, 111, 114, 100]] [o], .exn 14 [[119, 111, 114, 100]] [o]]) rfl (x_forcons rfl m14 (x_turnN (x_forcons rfl m14 (x_turnN x_fornil))))
theorem k15 {s : List Nat} (hs : bReprX [.lst [o, o]] = some (.str s)) : lawK B [a0, a1, a2, a3, some (.d o), some (.d (.lst (xs1 o ++ xs2 o))), some (.d (.int 15)), a7, a8, a9, a10, a11, a12] L = .next [a0, a1, a2, some (.d (.exn 16 [[99, 111, 117, 110, 116]] [o])), some (.d o), some (.d (.lst (xs1 o ++ xs2 o))), some (.d (.int 15)), some (.d (.exn 16 [[99, 111, 117, 110, 116]] [o])), some (.d (.exn 16 [[99, 111, 117, 110, 116]] [o])), some (.d o), some (.d o), some (.d (.lst [.bl false, .bl true, .bl false])), a12] L := by
  unfold lawK
  refine x_seq (r1 := .next [a0, a1, a2, a3, some (.d o), some (.d (.lst (xs1 o ++ xs2 o))), some (.d (.int 15)), some (.d (.exn 16 [[99, 111, 117, 110, 116]] [o])), some (.d (.exn 16 [[99, 111, 117, 110, 116]] [o])), some (.d o), some (.d o), a11, a12] L) rfl (x_thenN ?_)
  refine x_seq (rep_if hs rfl rfl rfl rfl) (x_thenN ?_)
  exact x_for (xs := [.exn 16 [[99, 111, 117, 110, 116]] [o], .exn 16 [[99, 111, 117, 110, 116]] [o]]) rfl (x_forcons rfl m15 (x_turnN (x_forcons rfl m15 (x_turnN x_fornil))))
theorem k16 {s : List Nat} (hs : bReprX [.lst [o, o]] = some (.str s)) : lawK B [a0, a1, a2, a3, some (.d o), some (.d (.lst (xs1 o ++ xs2 o))), some (.d (.int 16)), a7, a8, a9, a10, a11, a12] L = .next [a0, a1, a2, some (.d (.exn 17 [[109, 111, 115, 116]] [o])), some (.d o), some (.d (.lst (xs1 o ++ xs2 o))), some (.d (.int 16)), some (.d (.exn 17 [[109, 111, 115, 116]] [o])), some (.d (.exn 17 [[109, 111, 115, 116]] [o])), some (.d o), some (.d o), some (.d (.lst [.bl false, .bl false, .bl true])), a12] L := by
  unfold lawK
  refine x_seq (r1 := .next [a0, a1, a2, a3, some (.d o), some (.d (.lst (xs1 o ++ xs2 o))), some (.d (.int 16)), some (.d (.exn 17 [[109, 111, 115, 116]] [o])), some (.d (.exn 17 [[109, 111, 115, 116]] [o])), some (.d o), some (.d o), a11, a12] L) rfl (x_thenN ?_)
  refine x_seq (rep_if hs rfl rfl rfl rfl) (x_thenN ?_)
  exact x_for (xs := [.exn 17 [[109, 111, 115, 116]] [o], .exn 17 [[109, 111, 115, 116]] [o]]) rfl (x_forcons rfl m16 (x_turnN (x_forcons rfl m16 (x_turnN x_fornil))))
theorem all_k {s : List Nat} (hs : bReprX [.lst [o, o]] = some (.str s)) : forGo (gVar 6) lawK B ((List.range (17 : Int).toNat).map fun (i : Nat) => D.int i) [a0, a1, a2, a3, some (.d o), some (.d (.lst (xs1 o ++ xs2 o))), a6, a7, a8, a9, a10, a11, a12] L = .next [a0, a1, a2, some (.d (.exn 17 [[109, 111, 115, 116]] [o])), some (.d o), some (.d (.lst (xs1 o ++ xs2 o))), some (.d (.int 16)), some (.d (.exn 17 [[109, 111, 115, 116]] [o])), some (.d (.exn 17 [[109, 111, 115, 116]] [o])), some (.d o), some (.d o), some (.d (.lst [.bl false, .bl false, .bl true])), a12] L :=
  x_forcons x_gvar (k0 hs) (x_turnN (x_forcons x_gvar (k1 hs) (x_turnN (x_forcons x_gvar (k2 hs) (x_turnN (x_forcons x_gvar (k3 hs) (x_turnN (x_forcons x_gvar (k4 hs) (x_turnN (x_forcons x_gvar (k5 hs) (x_turnN (x_forcons x_gvar (k6 hs) (x_turnN (x_forcons x_gvar (k7 hs) (x_turnN (x_forcons x_gvar (k8 hs) (x_turnN (x_forcons x_gvar (k9 hs) (x_turnN (x_forcons x_gvar (k10 hs) (x_turnN (x_forcons x_gvar (k11 hs) (x_turnN (x_forcons x_gvar (k12 hs) (x_turnN (x_forcons x_gvar (k13 hs) (x_turnN (x_forcons x_gvar (k14 hs) (x_turnN (x_forcons x_gvar (k15 hs) (x_turnN (x_forcons x_gvar (k16 hs) (x_turnN (x_fornil))))))))))))))))))))))))))))))))))
end
end K00
end Ev

set_option linter.all false
set_option maxRecDepth 100000
set_option maxHeartbeats 4000000
namespace Ev
namespace K00
open PySem
def OddV (o : D) : Prop := o ∈ oddL ∨ ∃ y ∈ oddL, ∃ z ∈ oddL, o = .tup [y, z]
def sm (a b : Nat) (d : D) : Bool := okX d && ((toPyX d).showable && (decide ((toPyX d).depth ≤ a) && decide ((toPyX d).shown.length ≤ b)))
theorem sm_of {a b : Nat} {d : D} (h : sm a b d = true) : okX d = true ∧ (toPyX d).showable = true ∧ (toPyX d).depth ≤ a ∧ (toPyX d).shown.length ≤ b := by
  unfold sm at h
  rw [Bool.and_eq_true, Bool.and_eq_true, Bool.and_eq_true, decide_eq_true_eq, decide_eq_true_eq] at h
  exact h
theorem odd_sm : (oddL.all fun o => sm 4 200 o) = true := by decide +kernel
theorem rep_of {o : D} (h1 : okX o = true) (h2 : (toPyX o).showable = true) (h3 : (toPyX o).depth ≤ 10) (h4 : (toPyX o).shown.length ≤ 1000) : ∃ s, bReprX [.lst [o, o]] = some (.str s) := by
  refine ⟨_, if_pos ⟨?_, ?_, ?_, ?_⟩⟩
  · show (okX o && (okX o && true)) = true
    rw [h1]; rfl
  · show ((toPyX o).showable && ((toPyX o).showable && true)) = true
    rw [h2]; rfl
  · show max (toPyX o).depth (max (toPyX o).depth 0) + 1 ≤ 64
    omega
  · show (listText [(toPyX o).shown, (toPyX o).shown]).length ≤ sizeL
    have := lstT_le [(toPyX o).shown, (toPyX o).shown]
    rw [piled_cons, piled_cons] at this
    have e : piled [] = 0 := rfl
    show _ ≤ 16777216
    omega
theorem rep_ok {o : D} (h : OddV o) : ∃ s, bReprX [.lst [o, o]] = some (.str s) := by
  rcases h with h | ⟨y, hy, z, hz, rfl⟩
  · obtain ⟨h1, h2, h3, h4⟩ := sm_of (List.all_eq_true.mp odd_sm o h)
    exact rep_of h1 h2 (by omega) (by omega)
  · obtain ⟨h1, h2, h3, h4⟩ := sm_of (List.all_eq_true.mp odd_sm y hy)
    obtain ⟨g1, g2, g3, g4⟩ := sm_of (List.all_eq_true.mp odd_sm z hz)
    refine rep_of ?_ ?_ ?_ ?_
    · show (okX y && (okX z && true)) = true
      rw [h1, g1]; rfl
    · show ((toPyX y).showable && ((toPyX z).showable && true)) = true
      rw [h2, g2]; rfl
    · show max (toPyX y).depth (max (toPyX z).depth 0) + 1 ≤ 10
      omega
    · show (tupleText [(toPyX y).shown, (toPyX z).shown]).length ≤ 1000
      have := tupT_le [(toPyX y).shown, (toPyX z).shown]
      rw [piled_cons, piled_cons] at this
      have e : piled [] = 0 := rfl
      omega
def Sh (sc : Option W) (ρ : Sl) : Prop := ∃ a2 a3 a4 a5 a6 a7 a8 a9 a10 a11 a12 : Option W, ρ = [sc, some (.ref 0), a2, a3, a4, a5, a6, a7, a8, a9, a10, a11, a12]
theorem turn_ok {N : Int} {L : Hs} (h : Pn N L) (hN : N ≤ 1099511627000) (sc a2 a3 a4 a5 a6 a7 a8 a9 a10 a11 a12 : Option W) :
    ∃ (ρ' : Sl) (L' : Hs), lawT [] [sc, some (.ref 0), a2, a3, a4, a5, a6, a7, a8, a9, a10, a11, a12] L = .next ρ' L' ∧ Sh sc ρ' ∧ Pn (N + 5) L' := by
  obtain ⟨y1, L1, E1, t1, f1, h1⟩ := odd_ok h (by omega)
  obtain ⟨y2, L2, E2, t2, f2, h2⟩ := odd_ok t1 (by omega)
  obtain ⟨y3, L3, E3, t3, f3, h3⟩ := odd_ok t2 (by omega)
  obtain ⟨y4, L4, E4, t4, f4, h4⟩ := odd_ok t3 (by omega)
  obtain ⟨o, L5, E5, t5, f5, h5⟩ := pick_ok t4 (by omega) (xs := [y1, y2, .tup [y3, y4]]) (by simp) (by simp)
  have ho : OddV o := by
    simp only [List.mem_cons, List.not_mem_nil, or_false] at h5
    rcases h5 with rfl | rfl | rfl
    · exact .inl h1
    · exact .inl h2
    · exact .inr ⟨y3, h3, y4, h4, rfl⟩
  obtain ⟨s, hs⟩ := rep_ok ho
  refine ⟨[sc, some (.ref 0), a2, some (.d (.exn 17 [[109, 111, 115, 116]] [o])), some (.d o), some (.d (.lst (xs1 o ++ xs2 o))), some (.d (.int 16)), some (.d (.exn 17 [[109, 111, 115, 116]] [o])), some (.d (.exn 17 [[109, 111, 115, 116]] [o])), some (.d o), some (.d o), some (.d (.lst [.bl false, .bl false, .bl true])), a12], L5, ?_, ⟨_, _, _, _, _, _, _, _, _, _, _, rfl⟩, t5.mono (by omega)⟩
  unfold lawT
  refine x_seq (x_asg (x_call (x_cons (x_var rfl) (x_cons (x_lst (xs := [y1, y2, .tup [y3, y4]]) (x_cons (x_call (x_cons (x_var rfl) x_nil) rfl E1) (x_cons (x_call (x_cons (x_var rfl) x_nil) rfl E2) (x_cons (x_tup (xs := [y3, y4]) (x_cons (x_call (x_cons (x_var rfl) x_nil) rfl E3) (x_cons (x_call (x_cons (x_var rfl) x_nil) rfl E4) x_nil)) rfl (Nat.le_of_ble_eq_true rfl)) x_nil))) rfl (Nat.le_of_ble_eq_true rfl)) x_nil)) rfl E5) x_gvar) (x_thenN ?_)
  refine x_seq (x_asg (x_2 (r := .lst (xs1 o ++ xs2 o)) (x_call (x_cons (x_var rfl) x_nil) rfl (values_ok o _ _)) (x_call (x_cons (x_var rfl) x_nil) rfl (others_ok o _ _)) rfl rfl rfl) x_gvar) (x_thenN ?_)
  exact x_for (x_iRange (p := .int 17) (x_B (x_cons (x_var rfl) x_nil) (x_vcons rfl x_vnil) rfl) rfl rfl (by decide)) (all_k hs)
theorem loop_ok (sc : Option W) : ∀ (xs : List D) (ρ : Sl) (L : Hs) (N : Int), Sh sc ρ → Pn N L → N + 5 * xs.length ≤ 1099511627000 → ∃ (ρ' : Sl) (L' : Hs), forGo (gVar 2) lawT [] xs ρ L = .next ρ' L' ∧ Sh sc ρ'
  | [], ρ, L, N, h, _, _ => ⟨ρ, L, rfl, h⟩
  | x :: xs, ρ, L, N, hs, ht, hN => by
    obtain ⟨a2, a3, a4, a5, a6, a7, a8, a9, a10, a11, a12, rfl⟩ := hs
    rw [List.length_cons] at hN
    obtain ⟨ρ1, L1, e1, s1, t1⟩ := turn_ok ht (by omega) sc (some (.d x)) a3 a4 a5 a6 a7 a8 a9 a10 a11 a12
    obtain ⟨ρ2, L2, e2, s2⟩ := loop_ok sc xs ρ1 L1 (N + 5) s1 t1 (by omega)
    exact ⟨ρ2, L2, x_forcons x_gvar e1 (x_turnN e2), s2⟩
theorem law_true (ns : List Int) (hl : ns.length ≤ 63) : ∃ L, F_law [.d (.scr (ns.map D.int))] [] [] = .ok (.d (.bl true)) L := by
  have hcs : ∀ d ∈ cut (ns.map D.int) none (some 63), ∃ i, d = D.int i := fun d hd => by
    obtain ⟨i, _, rfl⟩ := List.mem_map.mp (cut_mem hd)
    exact ⟨i, rfl⟩
  have ht : F__law_pen [.d (.scr (ns.map D.int))] [] [] = .ok (.ref 0) [pen (cut (ns.map D.int) none (some 63)) 0 0] := rfl
  obtain ⟨ρ', L', e, a2, a3, a4, a5, a6, a7, a8, a9, a10, a11, a12, rfl⟩ := loop_ok (some (.d (.scr (ns.map D.int)))) ((List.range (12 : Int).toNat).map fun (i : Nat) => D.int i) [some (.d (.scr (ns.map D.int))), some (.ref 0), none, none, none, none, none, none, none, none, none, none, none] [pen (cut (ns.map D.int) none (some 63)) 0 0] 0 ⟨_, _, _, _, _, _, _, _, _, _, _, rfl⟩ ⟨_, 0, 0, [], rfl, hcs, by omega, by omega⟩ (by rw [List.length_map, List.length_range]; decide)
  refine ⟨L', ?_⟩
  unfold F_law
  refine x_fn (r1 := .ret (.d (.bl true)) L') rfl ?_ rfl
  refine x_seq (x_asg (x_call (x_cons (x_var rfl) x_nil) rfl ht) x_gvar) (x_thenN ?_)
  refine x_seq (x_for (x_iRange x_c rfl rfl (by decide)) e) (x_thenN ?_)
  rfl
end K00
end Ev

set_option Elab.async false
set_option linter.all false
set_option maxRecDepth 100000
set_option maxHeartbeats 0
namespace Ev
namespace K00
open PySem PySem.Spec PyProof.Rows L2
theorem run (w : World) : HandSHeadRun.RunEq R (PySem.W.view R.prog [28]) hk ob 8000 names w := by
  intro os
  kernel_rfl
end K00
end Ev

set_option Elab.async false
set_option linter.all false
set_option maxRecDepth 100000
set_option maxHeartbeats 4000000
open PySem PySem.W PySem.Calls PyProof.Rows
theorem PySem.Challenge.cw_oncepost_k00_errors_holds : PySem.Challenge.rw_oncepost_k00_errors.Holds := by
  w_on; o_law
  refine HandSHeadRun.head_any (r := OpenLaw.row PySem.Challenge.rw_oncepost_k00_errors) (q := view (OpenLaw.row PySem.Challenge.rw_oncepost_k00_errors).prog [28]) (H := Ev.K00.hk) (ob := Ev.K00.ob) (M := 8000) (loose := Ev.K00.names) (d := HandSHeadRun.topDef (OpenLaw.row PySem.Challenge.rw_oncepost_k00_errors).prog 28) (kwd := []) Ev.K00.ob_eq
    (by kernel_rfl) (fun s => by kernel_rfl) Ev.K00.run (by kernel_rfl) (by kernel_rfl) (by kernel_rfl) (by rfl) (by first | assumption | decide +kernel) (by decide +kernel) ⟨rfl, rfl, rfl, rfl, rfl, by decide +kernel⟩ ?hw ?hc
  case hw => w_witness2
  case hc =>
    refine Ev.walkG (l := PySem.Challenge.rw_oncepost_k00_errors) (n := 63) (k := 4) (x := "_law_script") (CX := L2.CX0) rfl (by decide) (by kernel_rfl) ⟨rfl, by decide, by decide⟩ ?F (fun _ _ _ _ z => z)
    intro w mg fa h Y G hmg0
    obtain ⟨K, I, c⟩ := Y
    obtain ⟨fd, W⟩ := Ev.K00.facts (T := ⟨Ev.K00.tcls K, fun _ => 0, PySem.Challenge.rw_oncepost_k00_errors.prog, w⟩) rfl rfl (by kernel_rfl) (by kernel_rfl) rfl I G c
    have hmg : mg ("law" : PySem.Str) = some (.ref fa) := by
      have e : (HandSHeadRun.topDef (OpenLaw.row PySem.Challenge.rw_oncepost_k00_errors).prog 28).name = ("law" : PySem.Str) := by kernel_rfl
      rw [← e]
      exact hmg0
    have e := hmg.symm.trans W.g_law
    cases e
    have b := L2.FunD.bindsA (ps := ["_law_script"]) W.f_law fun _ _ _ _ _ _ us hl => match us, hl with | [_], _ => rfl
    exact ⟨K, fd 8, _, I, fun s v => b s [v] rfl, fun H a ns hl hO hS => Ev.law_start hO hS (Ev.K00.law_true ns hl), fun base _ _ => Ev.K00.ok_law W⟩

