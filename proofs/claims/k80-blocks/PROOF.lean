import PyProof.Rows.All
import Wide.All
import OpenK.AllK
import Wide.FinOn
import HandS.ForMost
import HandS.Conv
import HandS.IsInst
import HandS.TupLen
import HandS.GenList
import HandS.ExcValue
import HandS.Style
import HandS.TupLe
import HandS.Text
import KE.DataEq
import KE.KDictZip
import KE.GoesMore
import KE.KTupSum
import PySem.Challenge.RW_outweave_k80_whole_rows_of_blocks_behind
set_option Elab.async false
set_option linter.all false
set_option maxRecDepth 100000
set_option maxHeartbeats 4000000
/-! Sem: plain values D for Python's data (with marks of what is owned), a def's state, and what each construct does to it. No heap here. -/
namespace Pv
open PySem (Str)
noncomputable section

/-- data: o = true: owned (may be changed through its one place); xt, xl: a tuple, a list of the written part (or locked) -/
inductive D where
  | non | bl (b : Bool) | int (i : Int) | str (s : Str)
  | tup (ds : List D) | lst (o : Bool) (ds : List D)
  | xt (ds : List D) | xl (ds : List D)
  | dic (o t : Bool) (ks : List (List (Sum Int Str))) (ds : List D)
  | ins (o : Bool) (c : Nat) (fs : List Str) (ds : List D)

instance : Inhabited D := ⟨.non⟩

mutual
/-- all marks of owning taken away -/
def D.frz : D → D
  | .tup ds => .tup (frzL ds)
  | .lst _ ds => .lst false (frzL ds)
  | .dic _ t ks ds => .dic false t ks (frzL ds)
  | .ins _ c fs ds => .ins false c fs (frzL ds)
  | .non => .non
  | .bl b => .bl b
  | .int i => .int i
  | .str s => .str s
  | .xt ds => .xt ds
  | .xl ds => .xl ds
def frzL : List D → List D
  | [] => []
  | d :: ds => d.frz :: frzL ds
end
mutual
/-- nothing in it is owned -/
def D.isF : D → Bool
  | .tup ds => isFL ds
  | .lst o ds => !o && isFL ds
  | .dic o _ _ ds => !o && isFL ds
  | .ins o _ _ ds => !o && isFL ds
  | .non => true
  | .bl _ => true
  | .int _ => true
  | .str _ => true
  | .xt ds => isFL ds
  | .xl ds => isFL ds
def isFL : List D → Bool
  | [] => true
  | d :: ds => d.isF && isFL ds
end
mutual
/-- no dict, no instance in it: == and != read it -/
def D.pl : D → Bool
  | .tup ds => plL ds
  | .lst _ ds => plL ds
  | .dic _ _ _ _ => false
  | .ins _ _ _ _ => false
  | .non => true
  | .bl _ => true
  | .int _ => true
  | .str _ => true
  | .xt ds => plL ds
  | .xl ds => plL ds
def plL : List D → Bool
  | [] => true
  | d :: ds => d.pl && plL ds
end
mutual
def D.dep : D → Nat
  | .tup ds => depL ds + 1
  | .lst _ ds => depL ds + 1
  | .xt ds => depL ds + 1
  | .xl ds => depL ds + 1
  | .dic _ _ _ _ => 0
  | .ins _ _ _ _ => 0
  | .non => 0
  | .bl _ => 0
  | .int _ => 0
  | .str _ => 0
def depL : List D → Nat
  | [] => 0
  | d :: ds => max d.dep (depL ds)
end
mutual
/-- Python's == of plain data -/
def eqv : D → D → Bool
  | .non, b => match b with | .non => true | _ => false
  | .bl a, b => match b with | .bl b => a == b | .int j => (if a then 1 else 0) == j | _ => false
  | .int i, b => match b with | .int j => i == j | .bl b => i == (if b then 1 else 0) | _ => false
  | .str x, b => match b with | .str y => x == y | _ => false
  | .lst _ xs, b => match b with | .lst _ ys => eqvL xs ys | .xl ys => eqvL xs ys | _ => false
  | .xl xs, b => match b with | .lst _ ys => eqvL xs ys | .xl ys => eqvL xs ys | _ => false
  | .tup xs, b => match b with | .tup ys => eqvL xs ys | .xt ys => eqvL xs ys | _ => false
  | .xt xs, b => match b with | .tup ys => eqvL xs ys | .xt ys => eqvL xs ys | _ => false
  | .dic _ _ _ _, _ => false
  | .ins _ _ _ _, _ => false
def eqvL : List D → List D → Bool
  | [], b => match b with | [] => true | _ :: _ => false
  | x :: xs, b => match b with | y :: ys => eqv x y && eqvL xs ys | [] => false
end

/-! ### a def's state: what stands in its slots -/
/-- no: not known; ow: its own; vw: read only (an argument); io: an argument that is handed in and out -/
inductive Sl where
  | no | ow (d : D) | vw (d : D) | io (d : D)
instance : Inhabited Sl := ⟨.no⟩
@[simp] def Sl.get : Sl → Option D
  | .no => none | .ow d => some d | .vw d => some d | .io d => some d
/-- another content, the same standing -/
@[simp] def Sl.put : Sl → D → Sl
  | .io _, d => .io d
  | _, d => .ow d
/-- may be changed in its place -/
@[simp] def Sl.mut : Sl → Bool
  | .ow _ => true | .io _ => true | _ => false
abbrev PS := List Sl
@[simp] def rd (σ : PS) (i : Nat) : Option D := match σ[i]? with | some s => s.get | none => none
/-- the content of a slot that may be changed -/
@[simp] def rdM (σ : PS) (i : Nat) : Option D := match σ[i]? with | some (.ow d) => some d | some (.io d) => some d | _ => none
/-- its new content -/
@[simp] def wr (σ : PS) (i : Nat) (d : D) : PS := match σ[i]? with | some s => σ.set i (s.put d) | none => σ
@[simp] def clr : List Nat → PS → PS
  | [], σ => σ
  | i :: is, σ => clr is (σ.set i .no)

/-- the greatest length of a list or a text -/
abbrev cap : Nat := 1000000

/-! ### expressions that change nothing -/
abbrev QE := PS → Option D
abbrev QT := PS → Option Bool
@[simp] def qVar (i : Nat) : QE := fun σ => rd σ i
@[simp] def qC (d : D) : QE := fun _ => some d
/-- only if nothing in it is owned -/
@[simp] def qF (a : QE) : QE := fun σ => (a σ).bind fun d => if d.isF then some d else none
@[simp] def q1 (g : D → Option D) (a : QE) : QE := fun σ => (a σ).bind g
@[simp] def q2 (g : D → D → Option D) (a b : QE) : QE := fun σ => (a σ).bind fun x => (b σ).bind fun y => g x y
@[simp] def q3 (g : D → D → D → Option D) (a b c : QE) : QE := fun σ => (a σ).bind fun x => (b σ).bind fun y => (c σ).bind fun z => g x y z
@[simp] def qIf (t : QT) (a b : QE) : QE := fun σ => (t σ).bind fun c => if c then a σ else b σ
@[simp] def qAs : List QE → PS → Option (List D)
  | [], _ => some []
  | a :: as, σ => (a σ).bind fun x => (qAs as σ).bind fun xs => some (x :: xs)
@[simp] def qTup (as : List QE) : QE := fun σ => (qAs as σ).bind fun ds => if isFL ds then some (.tup ds) else none
@[simp] def qLst (o : Bool) (as : List QE) : QE := fun σ => (qAs as σ).bind fun ds => if isFL ds then some (.lst o ds) else none
/-- a call of a def that only looks at its arguments -/
@[simp] def qCall (f : List D → Option D) (as : List QE) : QE := fun σ => (qAs as σ).bind f
/-- a call of a method: by the class of what stands first -/
@[simp] def qMeth (tab : Nat → Option (List D → Option D)) (a : QE) (as : List QE) : QE := fun σ => (a σ).bind fun x => (qAs as σ).bind fun xs =>
  match x with
  | .ins _ c _ _ => (tab c).bind fun f => f (x :: xs)
  | _ => none
@[simp] def qFz (a : QE) : QE := fun σ => (a σ).map D.frz
@[simp] def qT (a : QE) : QT := fun σ => (a σ).bind fun d => match d with | .bl b => some b | _ => none
@[simp] def qV (t : QT) : QE := fun σ => (t σ).map .bl
@[simp] def qAnd (a b : QT) : QT := fun σ => (a σ).bind fun c => if c then b σ else some false
@[simp] def qOr (a b : QT) : QT := fun σ => (a σ).bind fun c => if c then some true else b σ
@[simp] def qNot (a : QT) : QT := fun σ => (a σ).map (!·)

/-! ### expressions that may change the state -/
abbrev GE := PS → Option (D × PS)
abbrev GT := PS → Option (Bool × PS)
@[simp] def gQ (a : QE) : GE := fun σ => (a σ).map (·, σ)
@[simp] def tQ (a : QT) : GT := fun σ => (a σ).map (·, σ)
@[simp] def g1 (g : D → Option D) (a : GE) : GE := fun σ => (a σ).bind fun x => (g x.1).map (·, x.2)
@[simp] def g2 (g : D → D → Option D) (a b : GE) : GE := fun σ => (a σ).bind fun x => (b x.2).bind fun y => (g x.1 y.1).map (·, y.2)
/-- the first one is what stands in a slot, looked at behind the second -/
@[simp] def g2S (g : D → D → Option D) (i : Nat) (b : GE) : GE := fun σ => (rd σ i).bind fun _ => (b σ).bind fun y => (rd y.2 i).bind fun x => (g x y.1).map (·, y.2)
@[simp] def gIf (t : GT) (a b : GE) : GE := fun σ => (t σ).bind fun c => if c.1 then a c.2 else b c.2
@[simp] def gAs : List GE → PS → Option (List D × PS)
  | [], σ => some ([], σ)
  | a :: as, σ => (a σ).bind fun x => (gAs as x.2).bind fun xs => some (x.1 :: xs.1, xs.2)
@[simp] def gTup (as : List GE) : GE := fun σ => (gAs as σ).bind fun x => if isFL x.1 then some (.tup x.1, x.2) else none
@[simp] def gLst (o : Bool) (as : List GE) : GE := fun σ => (gAs as σ).bind fun x => if isFL x.1 then some (.lst o x.1, x.2) else none
/-- what stands in a slot, taken out of it -/
@[simp] def gMv (i : Nat) : GE := fun σ => (rdM σ i).map fun d => (d, σ.set i .no)
@[simp] def gFz (a : GE) : GE := fun σ => (a σ).map fun x => (x.1.frz, x.2)
@[simp] def gT (a : GE) : GT := fun σ => (a σ).bind fun d => match d.1 with | .bl b => some (b, d.2) | _ => none
@[simp] def gV (t : GT) : GE := fun σ => (t σ).map fun c => (.bl c.1, c.2)
@[simp] def gAnd (a b : GT) : GT := fun σ => (a σ).bind fun c => if c.1 then b c.2 else some (false, c.2)
@[simp] def gOr (a b : GT) : GT := fun σ => (a σ).bind fun c => if c.1 then some (true, c.2) else b c.2
@[simp] def gNot (a : GT) : GT := fun σ => (a σ).map fun c => (!c.1, c.2)
/-- an argument: a slot handed in and out, a slot looked at, an expression -/
inductive Arg where
  | io (i : Nat) | vs (i : Nat) | ex (e : GE)
/-- the arguments as they come (a slot's: its number) -/
@[simp] def aGo : List Arg → PS → Option (List (Sum Nat D) × PS)
  | [], σ => some ([], σ)
  | .io i :: as, σ => (rd σ i).bind fun _ => (aGo as σ).bind fun xs => some (.inl i :: xs.1, xs.2)
  | .vs i :: as, σ => (rd σ i).bind fun _ => (aGo as σ).bind fun xs => some (.inl i :: xs.1, xs.2)
  | .ex e :: as, σ => (e σ).bind fun x => (aGo as x.2).bind fun xs => some (.inr x.1 :: xs.1, xs.2)
/-- the slots that are handed in and out, emptied -/
@[simp] def aTk : List Arg → PS → Option PS
  | [], σ => some σ
  | .io i :: as, σ => (rdM σ i).bind fun _ => aTk as (σ.set i .no)
  | .vs _ :: as, σ => aTk as σ
  | .ex _ :: as, σ => aTk as σ
/-- their data at the call: σ as it was, τ with the slots emptied -/
@[simp] def aDs : List Arg → List (Sum Nat D) → PS → PS → Option (List D)
  | [], [], _, _ => some []
  | .io i :: as, _ :: xs, σ, τ => (rdM σ i).bind fun d => (aDs as xs σ τ).bind fun ds => some (d :: ds)
  | .vs i :: as, _ :: xs, σ, τ => (rd τ i).bind fun d => (aDs as xs σ τ).bind fun ds => some (d :: ds)
  | .ex _ :: as, .inr d :: xs, σ, τ => if d.isF then (aDs as xs σ τ).bind fun ds => some (d :: ds) else none
  | _, _, _, _ => none
/-- what was handed in and out, put back -/
@[simp] def aBk : List Arg → List D → PS → PS → Option PS
  | [], [], _, τ => some τ
  | .io i :: as, d :: ds, σ, τ => match σ[i]?, τ[i]? with
    | some s, some .no => aBk as ds σ (τ.set i (s.put d))
    | _, _ => none
  | .vs _ :: as, ds, σ, τ => aBk as ds σ τ
  | .ex _ :: as, ds, σ, τ => aBk as ds σ τ
  | _, _, _, _ => none
@[simp] def gCall (f : List D → Option (D × List D)) (as : List Arg) : GE := fun σ =>
  (aGo as σ).bind fun x => (aTk as x.2).bind fun τ => (aDs as x.1 x.2 τ).bind fun ds => (f ds).bind fun r => (aBk as r.2 x.2 τ).bind fun σ' => some (r.1, σ')
/-- a new instance: its __init__ is handed it in and out -/
@[simp] def mkI (c : Nat) (f : List D → Option (D × List D)) (ds : List D) : Option D := (f (.ins true c [] [] :: ds)).bind fun r =>
  match r with
  | (.non, [x]) => some x
  | _ => none

/-! ### statements -/
inductive Ctl where
  | nx | rt (d : D) | bk | ct
abbrev S := PS → Option (Ctl × PS)
/-- targets -/
inductive Tg where
  | nm (i : Nat) | tp (ts : List Tg)
mutual
@[simp] def Tg.put : Tg → D → PS → Option PS
  | .nm i, d, σ => some (σ.set i (.ow d))
  | .tp ts, d, σ => match d with
    | .tup ds => putL ts ds σ
    | _ => none
@[simp] def putL : List Tg → List D → PS → Option PS
  | [], [], σ => some σ
  | t :: ts, d :: ds, σ => (t.put d σ).bind fun σ' => putL ts ds σ'
  | _, _, _ => none
end
mutual
/-- the slots of a target -/
@[simp] def Tg.sl : Tg → List Nat
  | .nm i => [i]
  | .tp ts => slL ts
@[simp] def slL : List Tg → List Nat
  | [] => []
  | t :: ts => t.sl ++ slL ts
end
@[simp] def sNx : S := fun σ => some (.nx, σ)
@[simp] def sSeq (a b : S) : S := fun σ => (a σ).bind fun r => match r with
  | (.nx, σ') => b σ'
  | (c, σ') => some (c, σ')
@[simp] def sAsg (t : Tg) (e : GE) : S := fun σ => (e σ).bind fun x => (t.put x.1 x.2).map (.nx, ·)
/-- a, b = x, y of two plain names -/
@[simp] def sPar (i j : Nat) (a b : GE) : S := fun σ => (a σ).bind fun x => (b x.2).bind fun y => some (.nx, (y.2.set i (.ow x.1)).set j (.ow y.1))
@[simp] def sRet (e : GE) : S := fun σ => (e σ).map fun x => (.rt x.1, x.2)
@[simp] def sDrop (e : GE) : S := fun σ => (e σ).map fun x => (.nx, x.2)
@[simp] def sIf (t : GT) (a b : S) : S := fun σ => (t σ).bind fun c => if c.1 then a c.2 else b c.2
@[simp] def sBk : S := fun σ => some (.bk, σ)
@[simp] def sCt : S := fun σ => some (.ct, σ)
/-- a statement, then slots forgotten -/
@[simp] def sClr (is : List Nat) (a : S) : S := fun σ => (a σ).map fun r => match r with
  | (.nx, σ') => (.nx, clr is σ')
  | r => r
/-- a slot's content owned no more, then a statement -/
@[simp] def sFrz (i : Nat) (a : S) : S := fun σ => (rdM σ i).bind fun d => a (wr σ i d.frz)
/-- x.append(e) -/
@[simp] def sApp (i : Nat) (e : GE) : S := fun σ => (rdM σ i).bind fun d0 => match d0 with
  | .lst true _ => (e σ).bind fun x => (rdM x.2 i).bind fun d => match d with
    | .lst true ds => if x.1.isF ∧ ds.length < cap then some (.nx, wr x.2 i (.lst true (ds ++ [x.1]))) else none
    | _ => none
  | _ => none
/-- x.extend(e), e a list -/
@[simp] def sExt (i : Nat) (e : GE) : S := fun σ => (rdM σ i).bind fun d0 => match d0 with
  | .lst true _ => (e σ).bind fun x => (rdM x.2 i).bind fun d => match d, x.1 with
    | .lst true ds, .lst _ es => if isFL es ∧ ds.length + es.length < cap then some (.nx, wr x.2 i (.lst true (ds ++ es))) else none
    | _, _ => none
  | _ => none
/-- the place of an index (any sign) -/
def ixP (n : Nat) (i : Int) : Option Nat := if 0 ≤ i then (if i < n then some i.toNat else none) else if -(n : Int) ≤ i then some (i + n).toNat else none
/-- x[k] = e of a list in a slot -/
@[simp] def sSet (i : Nat) (k : QE) (e : GE) : S := fun σ => (e σ).bind fun x => (k x.2).bind fun y => (rdM x.2 i).bind fun d => match d, y with
  | .lst true ds, .int z => if x.1.isF then (ixP ds.length z).bind fun j => some (.nx, wr x.2 i (.lst true (ds.set j x.1))) else none
  | _, _ => none
/-- x[a:b] = e -/
@[simp] def sSetSl (i : Nat) (a b : QE) (e : GE) : S := fun σ => (e σ).bind fun x => (a x.2).bind fun y => (b x.2).bind fun z => (rdM x.2 i).bind fun d => match d, y, z, x.1 with
  | .lst true ds, .int y, .int z, .lst _ es => if isFL es ∧ 0 ≤ y ∧ y ≤ z ∧ z ≤ ds.length ∧ ds.length + es.length < cap then some (.nx, wr x.2 i (.lst true (ds.take y.toNat ++ es ++ ds.drop z.toNat))) else none
  | _, _, _, _ => none
/-- x.pop(), x.pop(e): expressions -/
@[simp] def gPop (i : Nat) : GE := fun σ => (rdM σ i).bind fun d => match d with
  | .lst true ds => ds.getLast?.map fun x => (x, wr σ i (.lst true ds.dropLast))
  | _ => none
@[simp] def gPopAt (i : Nat) (e : GE) : GE := fun σ => (rdM σ i).bind fun d0 => match d0 with
  | .lst true _ => (e σ).bind fun y => (rdM y.2 i).bind fun d => match d, y.1 with
    | .lst true ds, .int z => if 0 ≤ z ∧ z < ds.length ∧ ds.length < cap then (ds[z.toNat]?).map fun x => (x, wr y.2 i (.lst true (ds.eraseIdx z.toNat))) else none
    | _, _ => none
  | _ => none
/-- a key of a dict -/
def atm : D → Option (Sum Int Str)
  | .int i => some (.inl i)
  | .str s => some (.inr s)
  | _ => none
def atms : List D → Option (List (Sum Int Str))
  | [] => some []
  | d :: ds => (atm d).bind fun k => (atms ds).bind fun ks => some (k :: ks)
def keyD (t : Bool) (d : D) : Option (List (Sum Int Str)) := if t then (match d with | .tup ds => atms ds | _ => none) else (atm d).map fun k => [k]
def unatm : Sum Int Str → D
  | .inl i => .int i
  | .inr s => .str s
abbrev Ky := List (Sum Int Str)
def lkD : List Ky → List D → Ky → Option D
  | k :: ks, d :: ds, q => if k = q then some d else lkD ks ds q
  | _, _, _ => none
def rpD : List Ky → List D → Ky → D → List D
  | k :: ks, d :: ds, q, x => (if k = q then x else d) :: rpD ks ds q x
  | _, ds, _, _ => ds
/-- d[k] = x -/
def putD (t : Bool) (ks : List Ky) (ds : List D) (q : Ky) (x : D) : D := if ks.any (fun k => decide (k = q)) then .dic true t ks (rpD ks ds q x) else .dic true t (ks ++ [q]) (ds ++ [x])
@[simp] def dGet (d y : D) : Option D := match d with
  | .dic _ t ks ds => (keyD t y).bind fun q => lkD ks ds q
  | _ => none
@[simp] def dIn (y d : D) : Option D := match d with
  | .dic _ t ks ds => (keyD t y).map fun q => .bl (lkD ks ds q).isSome
  | _ => none
@[simp] def dNotIn (y d : D) : Option D := match d with
  | .dic _ t ks ds => (keyD t y).map fun q => .bl (!(lkD ks ds q).isSome)
  | _ => none
@[simp] def sPutD (i : Nat) (k : QE) (e : GE) : S := fun σ => (e σ).bind fun x => (k x.2).bind fun y => (rdM x.2 i).bind fun d => match d with
  | .dic true t ks ds => (keyD t y).bind fun q => if x.1.isF ∧ ks.length < cap then some (.nx, wr x.2 i (putD t ks ds q x.1)) else none
  | _ => none
/-- self.f = e -/
def putFd (f : Str) (x : D) : List Str → List D → List Str × List D
  | g :: gs, d :: ds => if g = f then (g :: gs, x :: ds) else ((g :: (putFd f x gs ds).1), d :: (putFd f x gs ds).2)
  | _, _ => ([f], [x])
@[simp] def sFld (i : Nat) (f : Str) (e : GE) : S := fun σ => (e σ).bind fun x => (rdM x.2 i).bind fun d => match d with
  | .ins true c fs ds => if fs.length < 100 ∧ fs.length = ds.length then some (.nx, wr x.2 i (.ins true c (putFd f x.1 fs ds).1 (putFd f x.1 fs ds).2)) else none
  | _ => none
def lkF : Str → List Str → List D → Option D
  | f, g :: gs, d :: ds => if f = g then some d else lkF f gs ds
  | _, _, _ => none
@[simp] def dFld (f : Str) (d : D) : Option D := match d with
  | .ins _ _ fs ds => lkF f fs ds
  | _ => none

/-! ### loops -/
/-- the items that a loop goes through -/
abbrev Its := PS → Option (List D × PS)
def forP (t : Tg) (dead : List Nat) (body : S) : List D → S
  | [], σ => some (.nx, σ)
  | d :: ds, σ => (t.put d σ).bind fun σ1 => (body σ1).bind fun r => match r with
    | (.nx, σ2) => forP t dead body ds (clr dead σ2)
    | (.ct, σ2) => forP t dead body ds (clr dead σ2)
    | (.bk, σ2) => some (.nx, clr dead σ2)
    | (.rt x, σ2) => some (.rt x, σ2)
@[simp] def sFor (it : Its) (t : Tg) (dead : List Nat) (body : S) : S := fun σ => (it σ).bind fun x => forP t dead body x.1 x.2
def whileP (t : GT) (dead : List Nat) (body : S) : Nat → S
  | 0, _ => none
  | n + 1, σ => (t σ).bind fun c => if c.1 then (body c.2).bind fun r => match r with
      | (.nx, σ2) => whileP t dead body n (clr dead σ2)
      | (.ct, σ2) => whileP t dead body n (clr dead σ2)
      | (.bk, σ2) => some (.nx, clr dead σ2)
      | (.rt x, σ2) => some (.rt x, σ2)
    else some (.nx, c.2)
/-- a comprehension: its own slots are wiped for each item -/
def compP (t : Tg) (own : List Nat) (ifs : GT) (elt : GE) : List D → List D → PS → Option (List D × PS)
  | [], acc, σ => some (acc, σ)
  | d :: ds, acc, σ => (t.put d (clr own σ)).bind fun σ1 => (ifs σ1).bind fun c => if c.1 then (elt c.2).bind fun x =>
      if x.1.isF ∧ acc.length < cap then compP t own ifs elt ds (acc ++ [x.1]) (clr own x.2) else none
    else compP t own ifs elt ds acc (clr own c.2)
@[simp] def gComp (o : Bool) (it : Its) (t : Tg) (own : List Nat) (ifs : GT) (elt : GE) : GE := fun σ =>
  (it σ).bind fun x => (compP t own ifs elt x.1 [] (clr own x.2)).map fun r => (.lst o r.1, r.2)
/-- .. that changes nothing but its own slots -/
def compQ (t : Tg) (own : List Nat) (ifs : QT) (elt : QE) (σ : PS) : List D → Option (List D)
  | [] => some []
  | d :: ds => (t.put d (clr own σ)).bind fun σ1 => (ifs σ1).bind fun c => if c then (elt σ1).bind fun x => if x.isF then (compQ t own ifs elt σ ds).bind fun xs => some (x :: xs) else none
    else compQ t own ifs elt σ ds

/-! ### defs -/
@[simp] def ini : List Bool → List D → PS
  | true :: ms, d :: ds => .io d :: ini ms ds
  | false :: ms, d :: ds => .vw d :: ini ms ds
  | _, _ => []
@[simp] def outs : List Bool → PS → Option (List D)
  | true :: ms, .io d :: σ => (outs ms σ).map (d :: ·)
  | true :: _, _ => none
  | false :: ms, _ :: σ => outs ms σ
  | false :: _, [] => none
  | [], _ => some []
/-- a def with some arguments handed in and out -/
@[simp] def runG (ms : List Bool) (n : Nat) (body : S) (ds : List D) : Option (D × List D) := if ds.length = ms.length then
  (body (ini ms ds ++ List.replicate n .no)).bind fun r => match r with
  | (.rt d, σ) => (outs ms σ).map fun o => (d, o)
  | (.nx, σ) => (outs ms σ).map fun o => (.non, o)
  | _ => none
  else none
/-- a def that only looks at its arguments -/
@[simp] def runQ (m n : Nat) (body : S) (ds : List D) : Option D := if ds.length = m then
  (body (ds.map .vw ++ List.replicate n .no)).bind fun r => match r with
  | (.rt d, _) => some d
  | (.nx, _) => some .non
  | _ => none
  else none

/-! ### what operators give -/
@[simp] def dAdd (x y : D) : Option D := match x, y with
  | .int i, .int j => some (.int (i + j))
  | .str a, .str b => if a.length + b.length < cap then some (.str (a ++ b)) else none
  | .lst _ xs, .lst _ ys => if xs.length + ys.length < cap then some (.lst false (xs ++ ys)) else none
  | .tup xs, .tup ys => if xs.length + ys.length < cap ∧ xs ≠ [] ∧ ys ≠ [] then some (.tup (xs ++ ys)) else none
  | _, _ => none
@[simp] def dI2 (g : Int → Int → Option D) (x y : D) : Option D := match x, y with
  | .int i, .int j => g i j
  | _, _ => none
@[simp] def dSub : D → D → Option D := dI2 fun i j => some (.int (i - j))
@[simp] def dLt : D → D → Option D := dI2 fun i j => some (.bl (decide (i < j)))
@[simp] def dLe : D → D → Option D := dI2 fun i j => some (.bl (decide (i ≤ j)))
@[simp] def dGt : D → D → Option D := dI2 fun i j => some (.bl (decide (j < i)))
@[simp] def dGe : D → D → Option D := dI2 fun i j => some (.bl (decide (j ≤ i)))
/-- bits of an int, no more than -/
def bnd (n : Nat) (i : Int) : Prop := i.natAbs < 2 ^ n
/-- products: one side small -/
@[simp] def dMul : D → D → Option D := dI2 fun i j => if i.natAbs < 2 ^ 64 ∨ j.natAbs < 2 ^ 64 then some (.int (i * j)) else none
@[simp] def dMod : D → D → Option D := dI2 fun i j => if 0 < j then some (.int (i % j)) else none
/-- a divisor -/
def dvOk (j : Int) : Prop := 0 < j ∧ j < 1073741824
instance (j : Int) : Decidable (dvOk j) := Classical.propDecidable _
@[simp] def dDiv : D → D → Option D := dI2 fun i j => if dvOk j then some (.int (i / j)) else none
@[simp] def dPow : D → D → Option D := dI2 fun i j => if 0 ≤ j ∧ j ≤ 1000000 ∧ i.natAbs < 2 ^ 64 then some (.int (i ^ j.toNat)) else none
@[simp] def dEq (x y : D) : Option D := if x.pl ∧ y.pl ∧ x.dep ≤ 40 then some (.bl (eqv x y)) else none
@[simp] def dNe (x y : D) : Option D := if x.pl ∧ y.pl ∧ x.dep ≤ 40 then some (.bl (!eqv x y)) else none
@[simp] def isNonD : D → Bool
  | .non => true
  | _ => false
@[simp] def dIsN (x : D) : Option D := some (.bl (isNonD x))
@[simp] def dNotN (x : D) : Option D := some (.bl (!isNonD x))
@[simp] def dNeg (x : D) : Option D := match x with | .int i => some (.int (-i)) | _ => none
def atP {α : Type} (xs : List α) (i : Int) : Option α := (ixP xs.length i).bind fun j => xs[j]?
@[simp] def dIx (x y : D) : Option D := match x, y with
  | .lst _ xs, .int i => atP xs i
  | .xl xs, .int i => atP xs i
  | .tup xs, .int i => atP xs i
  | .xt xs, .int i => atP xs i
  | .str s, .int i => if s.length < cap then (atP s.cps.toList i).map fun c => .str ⟨#[c]⟩ else none
  | _, _ => none
/-- a bound of a slice -/
def slB (n d : Nat) (o : Option Int) : Nat := match o with
  | none => d
  | some v => if v < 0 then (v + n).toNat else min v.toNat n
def cutP {α : Type} (xs : List α) (lo hi : Option Int) : List α := (xs.drop (slB xs.length 0 lo)).take (slB xs.length xs.length hi - slB xs.length 0 lo)
@[simp] def dSl (x : D) (lo hi : Option Int) : Option D := match x with
  | .lst _ xs => if isFL xs then some (.lst false (cutP xs lo hi)) else none
  | .xl xs => if isFL xs then some (.lst false (cutP xs lo hi)) else none
  | .tup xs => if isFL xs ∧ (cutP xs lo hi).length < xs.length then some (.tup (cutP xs lo hi)) else none
  | _ => none
/-- an optional bound -/
@[simp] def qPo : Option QE → PS → Option (Option Int)
  | none, _ => some none
  | some a, σ => (a σ).bind fun d => match d with | .int i => some (some i) | _ => none
@[simp] def qSl (a : QE) (lo hi : Option QE) : QE := fun σ => (a σ).bind fun x => (qPo lo σ).bind fun l => (qPo hi σ).bind fun h => dSl x l h
@[simp] def dLen (x : D) : Option D := match x with
  | .lst _ xs => some (.int xs.length)
  | .xl xs => some (.int xs.length)
  | .tup xs => some (.int xs.length)
  | .xt xs => some (.int xs.length)
  | .str s => if s.length < cap then some (.int s.length) else none
  | .dic _ _ ks _ => some (.int ks.length)
  | _ => none
@[simp] def dAbs (x : D) : Option D := match x with | .int i => some (.int (if i < 0 then -i else i)) | _ => none
@[simp] def dInt (x : D) : Option D := match x with | .int i => some (.int i) | .bl b => some (.int (if b then 1 else 0)) | _ => none
@[simp] def dMin2 : D → D → Option D := dI2 fun i j => some (.int (if j < i then j else i))
@[simp] def dMax2 : D → D → Option D := dI2 fun i j => some (.int (if j > i then j else i))
/-- list(x), owned or not -/
@[simp] def dList (o : Bool) (x : D) : Option D := match x with
  | .lst _ xs => if isFL xs then some (.lst o xs) else none
  | .xl xs => if isFL xs then some (.lst o xs) else none
  | .tup xs => if isFL xs then some (.lst o xs) else none
  | .xt xs => if isFL xs then some (.lst o xs) else none
  | _ => none
def intsD : List D → Option (List Int)
  | [] => some []
  | .int i :: r => (intsD r).map (i :: ·)
  | _ :: _ => none
@[simp] def dSum (x : D) : Option D := match x with
  | .lst _ xs => (intsD xs).map fun ns => .int ns.sum
  | _ => none
def rng (a b : Int) : List D := (List.range (b - a).toNat).map fun (k : Nat) => .int (a + k)
def small (a : Int) : Prop := -1000000 ≤ a ∧ a ≤ 1000000
instance (a : Int) : Decidable (small a) := Classical.propDecidable _
@[simp] def dRng1 (o : Bool) (x : D) : Option D := match x with
  | .int n => if small n then some (.lst o (rng 0 n)) else none
  | _ => none

/-! ### what is gone through -/
@[simp] def itQ (g : D → Option (List D)) (a : QE) : Its := fun σ => (a σ).bind fun x => (g x).map (·, σ)
@[simp] def itQ2 (g : D → D → Option (List D)) (a b : QE) : Its := fun σ => (a σ).bind fun x => (b σ).bind fun y => (g x y).map (·, σ)
@[simp] def itG (g : D → Option (List D)) (a : GE) : Its := fun σ => (a σ).bind fun x => (g x.1).map (·, x.2)
@[simp] def itG2 (g : D → D → Option (List D)) (a b : GE) : Its := fun σ => (a σ).bind fun x => (b x.2).bind fun y => (g x.1 y.1).map (·, y.2)
@[simp] def itL (x : D) : Option (List D) := match x with
  | .lst o xs => if !o && isFL xs then some xs else none
  | _ => none
@[simp] def itT (x : D) : Option (List D) := match x with
  | .tup xs => if isFL xs then some xs else none
  | _ => none
@[simp] def itR1 (x : D) : Option (List D) := match x with
  | .int n => if small n then some (rng 0 n) else none
  | _ => none
@[simp] def itR2 (x y : D) : Option (List D) := match x, y with
  | .int a, .int b => if small a ∧ small b then some (rng a b) else none
  | _, _ => none
def enumFr : Nat → List D → List D
  | _, [] => []
  | k, d :: ds => .tup [.int k, d] :: enumFr (k + 1) ds
@[simp] def itE (x : D) : Option (List D) := match x with
  | .lst o xs => if !o && isFL xs then some (enumFr 0 xs) else none
  | _ => none
def zipD : List D → List D → List D
  | x :: xs, y :: ys => .tup [x, y] :: zipD xs ys
  | _, _ => []
@[simp] def itZ (x y : D) : Option (List D) := match x, y with
  | .lst o xs, .lst p ys => if !o && isFL xs && !p && isFL ys then some (zipD xs ys) else none
  | _, _ => none
end
end Pv

/-! Snd1: how the abstract heap bears plain values; what is owned; the state of a def that runs. -/
namespace Pv
open PySem L2

structure Cn where
  K : PySem.W.Frag
  ct : Nat → Option Addr

def Agr (G : Addr → Prop) (H H' : Hp) : Prop := ∀ b, G b → H' b = H b
def DicAt (H : Hp) (a : Addr) (t : Bool) (ks : List Ky) (vs : List V) : Prop :=
  if t = true then ∃ kvs : List (List Key × V), H a = some (.dT kvs) ∧ ks = kvs.map (·.1) ∧ vs = kvs.map (·.2)
  else ∃ kvs : List (Key × V), H a = some (.dK kvs) ∧ ks = kvs.map (fun p => [p.1]) ∧ vs = kvs.map (·.2)
/-- an object's own footprint: owned, or in the frozen part -/
def Own (o : Bool) (G : Addr → Prop) (a : Addr) (T S : List Addr) : Prop := if o = true then S = a :: T else G a ∧ T = [] ∧ S = []
mutual
def Rep (cn : Cn) (G : Addr → Prop) (H : Hp) : D → V → List Addr → Prop
  | .non, v, S => v = .non ∧ S = []
  | .bl b, v, S => v = .bl b ∧ S = []
  | .int i, v, S => v = .int i ∧ S = []
  | .str s, v, S => v = .str s ∧ S = []
  | .tup ds, v, S => ∃ a vs, v = .ref a ∧ G a ∧ H a = some (.tup vs) ∧ RepL cn G H ds vs S
  | .xt ds, v, S => ∃ a vs, v = .ref a ∧ (∀ H', Agr G H H' → SqT cn.K H' a vs) ∧ RepL cn G H ds vs [] ∧ S = []
  | .lst o ds, v, S => ∃ a vs T, v = .ref a ∧ H a = some (.lst vs) ∧ RepL cn G H ds vs T ∧ Own o G a T S
  | .xl ds, v, S => ∃ a vs, v = .ref a ∧ (∀ H', Agr G H H' → SqL cn.K H' a vs) ∧ RepL cn G H ds vs [] ∧ S = []
  | .dic o t ks ds, v, S => ∃ a vs T, v = .ref a ∧ DicAt H a t ks vs ∧ RepL cn G H ds vs T ∧ Own o G a T S
  | .ins o c fs ds, v, S => ∃ a C dx vs T, v = .ref a ∧ cn.ct c = some C ∧ H a = some (.ins C dx (fs.zip vs)) ∧ fs.length = vs.length ∧ RepL cn G H ds vs T ∧ Own o G a T S
def RepL (cn : Cn) (G : Addr → Prop) (H : Hp) : List D → List V → List Addr → Prop
  | [], vs, S => vs = [] ∧ S = []
  | d :: ds, vs, S => ∃ v r S1 S2, vs = v :: r ∧ S = S1 ++ S2 ∧ Rep cn G H d v S1 ∧ RepL cn G H ds r S2
end
section
variable {cn : Cn} {G G' : Addr → Prop} {H H' : Hp}
theorem DicAt.at {a : Addr} {t : Bool} {ks : List Ky} {vs : List V} (h : DicAt H a t ks vs) (e : H' a = H a) : DicAt H' a t ks vs := by
  unfold DicAt at h ⊢
  split at h
  · rename_i ht; rw [if_pos ht, e]; exact h
  · rename_i ht; rw [if_neg ht, e]; exact h
theorem DicAt.dom {a : Addr} {t : Bool} {ks : List Ky} {vs : List V} (h : DicAt H a t ks vs) : H a ≠ none := by
  unfold DicAt at h
  split at h
  · obtain ⟨_, e, _⟩ := h; rw [e]; exact fun q => nomatch q
  · obtain ⟨_, e, _⟩ := h; rw [e]; exact fun q => nomatch q
theorem Own.mono {o : Bool} {a : Addr} {T S : List Addr} (h : Own o G a T S) (hg : ∀ b, G b → G' b) : Own o G' a T S := by
  unfold Own at h ⊢
  split
  · rename_i ho; rw [if_pos ho] at h; exact h
  · rename_i ho; rw [if_neg ho] at h; exact ⟨hg _ h.1, h.2⟩
theorem Own.sub {o : Bool} {a b : Addr} {T S : List Addr} (h : Own o G a T S) (hb : b ∈ T) : b ∈ S := by
  unfold Own at h
  split at h
  · rw [h]; exact List.mem_cons_of_mem _ hb
  · rw [h.2.1] at hb; cases hb
theorem Own.self {o : Bool} {a : Addr} {T S : List Addr} (h : Own o G a T S) : G a ∨ a ∈ S := by
  unfold Own at h
  split at h
  · rw [h]; exact .inr List.mem_cons_self
  · exact .inl h.1
theorem Own.cases {o : Bool} {a b : Addr} {T S : List Addr} (h : Own o G a T S) (hb : b ∈ S) : b = a ∨ b ∈ T := by
  unfold Own at h
  split at h
  · rw [h] at hb; exact List.mem_cons.mp hb
  · rw [h.2.2] at hb; cases hb
theorem Own.f {a : Addr} {T S : List Addr} (h : Own false G a T S) : G a ∧ T = [] ∧ S = [] := by
  unfold Own at h; rwa [if_neg (by decide)] at h
theorem Own.t {a : Addr} {T S : List Addr} (h : Own true G a T S) : S = a :: T := by
  unfold Own at h; rwa [if_pos rfl] at h
theorem Own.mkT {a : Addr} {T : List Addr} : Own true G a T (a :: T) := by unfold Own; rw [if_pos rfl]
theorem Own.mkF {a : Addr} (h : G a) : Own false G a [] [] := by unfold Own; rw [if_neg (by decide)]; exact ⟨h, rfl, rfl⟩

mutual
/-- what it leans on -/
theorem Rep.frame (hg : ∀ b, G b → G' b) (hG : Agr G H H') : ∀ (d : D) (v : V) (S : List Addr), (∀ b ∈ S, H' b = H b) → Rep cn G H d v S → Rep cn G' H' d v S
  | .non, _, _, _, h => h
  | .bl _, _, _, _, h => h
  | .int _, _, _, _, h => h
  | .str _, _, _, _, h => h
  | .tup ds, v, S, hS, h => by
    simp only [Rep] at h ⊢
    obtain ⟨a, vs, e, g, ha, r⟩ := h
    exact ⟨a, vs, e, hg _ g, by rw [hG a g]; exact ha, RepL.frame hg hG ds vs S hS r⟩
  | .xt ds, v, S, hS, h => by
    simp only [Rep] at h ⊢
    obtain ⟨a, vs, e, g, r, es⟩ := h
    exact ⟨a, vs, e, fun H2 q => g H2 fun b gb => (q b (hg b gb)).trans (hG b gb), RepL.frame hg hG ds vs [] (fun _ z => nomatch z) r, es⟩
  | .lst o ds, v, S, hS, h => by
    simp only [Rep] at h ⊢
    obtain ⟨a, vs, T, e, ha, r, ow⟩ := h
    have ea : H' a = H a := ow.self.elim (hG a) (hS a)
    exact ⟨a, vs, T, e, by rw [ea]; exact ha, RepL.frame hg hG ds vs T (fun b hb => hS b (ow.sub hb)) r, ow.mono hg⟩
  | .xl ds, v, S, hS, h => by
    simp only [Rep] at h ⊢
    obtain ⟨a, vs, e, g, r, es⟩ := h
    exact ⟨a, vs, e, fun H2 q => g H2 fun b gb => (q b (hg b gb)).trans (hG b gb), RepL.frame hg hG ds vs [] (fun _ z => nomatch z) r, es⟩
  | .dic o t ks ds, v, S, hS, h => by
    simp only [Rep] at h ⊢
    obtain ⟨a, vs, T, e, ha, r, ow⟩ := h
    have ea : H' a = H a := ow.self.elim (hG a) (hS a)
    exact ⟨a, vs, T, e, ha.at ea, RepL.frame hg hG ds vs T (fun b hb => hS b (ow.sub hb)) r, ow.mono hg⟩
  | .ins o c fs ds, v, S, hS, h => by
    simp only [Rep] at h ⊢
    obtain ⟨a, C, dx, vs, T, e, hc, ha, hl, r, ow⟩ := h
    have ea : H' a = H a := ow.self.elim (hG a) (hS a)
    exact ⟨a, C, dx, vs, T, e, hc, by rw [ea]; exact ha, hl, RepL.frame hg hG ds vs T (fun b hb => hS b (ow.sub hb)) r, ow.mono hg⟩
theorem RepL.frame (hg : ∀ b, G b → G' b) (hG : Agr G H H') : ∀ (ds : List D) (vs : List V) (S : List Addr), (∀ b ∈ S, H' b = H b) → RepL cn G H ds vs S → RepL cn G' H' ds vs S
  | [], _, _, _, h => h
  | d :: ds, vs, S, hS, h => by
    simp only [RepL] at h ⊢
    obtain ⟨v, r, S1, S2, e1, e2, h1, h2⟩ := h
    subst e2
    exact ⟨v, r, S1, S2, e1, rfl, Rep.frame hg hG d v S1 (fun b hb => hS b (List.mem_append_left _ hb)) h1, RepL.frame hg hG ds r S2 (fun b hb => hS b (List.mem_append_right _ hb)) h2⟩
end
mutual
/-- what is owned stands in the heap, as something that may be written -/
theorem Rep.dom : ∀ (d : D) (v : V) (S : List Addr), Rep cn G H d v S → ∀ b ∈ S, H b ≠ none
  | .non, _, _, h, b, hb => by simp only [Rep] at h; rw [h.2] at hb; cases hb
  | .bl _, _, _, h, b, hb => by simp only [Rep] at h; rw [h.2] at hb; cases hb
  | .int _, _, _, h, b, hb => by simp only [Rep] at h; rw [h.2] at hb; cases hb
  | .str _, _, _, h, b, hb => by simp only [Rep] at h; rw [h.2] at hb; cases hb
  | .tup ds, v, S, h, b, hb => by
    simp only [Rep] at h
    obtain ⟨a, vs, e, g, ha, r⟩ := h
    exact RepL.dom ds vs S r b hb
  | .xt ds, v, S, h, b, hb => by
    simp only [Rep] at h
    obtain ⟨a, vs, e, g, r, es⟩ := h
    rw [es] at hb; cases hb
  | .lst o ds, v, S, h, b, hb => by
    simp only [Rep] at h
    obtain ⟨a, vs, T, e, ha, r, ow⟩ := h
    rcases ow.cases hb with z | z
    · rw [z, ha]; exact fun q => nomatch q
    · exact RepL.dom ds vs T r b z
  | .xl ds, v, S, h, b, hb => by
    simp only [Rep] at h
    obtain ⟨a, vs, e, g, r, es⟩ := h
    rw [es] at hb; cases hb
  | .dic o t ks ds, v, S, h, b, hb => by
    simp only [Rep] at h
    obtain ⟨a, vs, T, e, ha, r, ow⟩ := h
    rcases ow.cases hb with z | z
    · rw [z]; exact ha.dom
    · exact RepL.dom ds vs T r b z
  | .ins o c fs ds, v, S, h, b, hb => by
    simp only [Rep] at h
    obtain ⟨a, C, dx, vs, T, e, hc, ha, hl, r, ow⟩ := h
    rcases ow.cases hb with z | z
    · rw [z, ha]; exact fun q => nomatch q
    · exact RepL.dom ds vs T r b z
theorem RepL.dom : ∀ (ds : List D) (vs : List V) (S : List Addr), RepL cn G H ds vs S → ∀ b ∈ S, H b ≠ none
  | [], _, _, h, b, hb => by simp only [RepL] at h; rw [h.2] at hb; cases hb
  | d :: ds, vs, S, h, b, hb => by
    simp only [RepL] at h
    obtain ⟨v, r, S1, S2, e1, e2, h1, h2⟩ := h
    rw [e2] at hb
    rcases List.mem_append.mp hb with z | z
    · exact Rep.dom d v S1 h1 b z
    · exact RepL.dom ds r S2 h2 b z
end
mutual
/-- nothing owned: no footprint -/
theorem Rep.nil : ∀ (d : D) (v : V) (S : List Addr), d.isF = true → Rep cn G H d v S → S = []
  | .non, _, _, _, h => by simp only [Rep] at h; exact h.2
  | .bl _, _, _, _, h => by simp only [Rep] at h; exact h.2
  | .int _, _, _, _, h => by simp only [Rep] at h; exact h.2
  | .str _, _, _, _, h => by simp only [Rep] at h; exact h.2
  | .tup ds, v, S, f, h => by
    simp only [Rep] at h
    obtain ⟨a, vs, e, g, ha, r⟩ := h
    exact RepL.nil ds vs S (by simpa only [D.isF] using f) r
  | .xt ds, v, S, f, h => by
    simp only [Rep] at h
    obtain ⟨a, vs, e, g, r, es⟩ := h
    exact es
  | .lst o ds, v, S, f, h => by
    simp only [Rep] at h
    obtain ⟨a, vs, T, e, ha, r, ow⟩ := h
    cases o with
    | true => simp [D.isF] at f
    | false => exact ow.f.2.2
  | .xl ds, v, S, f, h => by
    simp only [Rep] at h
    obtain ⟨a, vs, e, g, r, es⟩ := h
    exact es
  | .dic o t ks ds, v, S, f, h => by
    simp only [Rep] at h
    obtain ⟨a, vs, T, e, ha, r, ow⟩ := h
    cases o with
    | true => simp [D.isF] at f
    | false => exact ow.f.2.2
  | .ins o c fs ds, v, S, f, h => by
    simp only [Rep] at h
    obtain ⟨a, C, dx, vs, T, e, hc, ha, hl, r, ow⟩ := h
    cases o with
    | true => simp [D.isF] at f
    | false => exact ow.f.2.2
theorem RepL.nil : ∀ (ds : List D) (vs : List V) (S : List Addr), isFL ds = true → RepL cn G H ds vs S → S = []
  | [], _, _, _, h => by simp only [RepL] at h; exact h.2
  | d :: ds, vs, S, f, h => by
    simp only [RepL] at h
    obtain ⟨v, r, S1, S2, e1, e2, h1, h2⟩ := h
    simp only [isFL, Bool.and_eq_true] at f
    rw [e2, Rep.nil d v S1 f.1 h1, RepL.nil ds r S2 f.2 h2] <;> rfl
end
/-- with more of the heap frozen -/
def orG (G : Addr → Prop) (S : List Addr) : Addr → Prop := fun b => G b ∨ b ∈ S
mutual
/-- freezing -/
theorem Rep.frz : ∀ (d : D) (v : V) (S : List Addr), Rep cn G H d v S → (∀ b, G b → G' b) → (∀ b ∈ S, G' b) → Rep cn G' H d.frz v []
  | .non, _, _, h, _, _ => by simp only [Rep, D.frz] at h ⊢; exact ⟨h.1, trivial⟩
  | .bl _, _, _, h, _, _ => by simp only [Rep, D.frz] at h ⊢; exact ⟨h.1, trivial⟩
  | .int _, _, _, h, _, _ => by simp only [Rep, D.frz] at h ⊢; exact ⟨h.1, trivial⟩
  | .str _, _, _, h, _, _ => by simp only [Rep, D.frz] at h ⊢; exact ⟨h.1, trivial⟩
  | .tup ds, v, S, h, hg, hs => by
    simp only [Rep, D.frz] at h ⊢
    obtain ⟨a, vs, e, g, ha, r⟩ := h
    exact ⟨a, vs, e, hg a g, ha, RepL.frz ds vs S r hg hs⟩
  | .xt ds, v, S, h, hg, hs => by
    simp only [D.frz]
    have h' := h
    simp only [Rep] at h'
    obtain ⟨a, vs, e, g, r, es⟩ := h'
    subst es
    exact Rep.frame hg (fun _ _ => rfl) _ _ _ (fun _ _ => rfl) h
  | .lst o ds, v, S, h, hg, hs => by
    simp only [Rep, D.frz] at h ⊢
    obtain ⟨a, vs, T, e, ha, r, ow⟩ := h
    exact ⟨a, vs, [], e, ha, RepL.frz ds vs T r hg (fun b hb => hs b (ow.sub hb)), Own.mkF (ow.self.elim (hg a) (hs a))⟩
  | .xl ds, v, S, h, hg, hs => by
    simp only [D.frz]
    have h' := h
    simp only [Rep] at h'
    obtain ⟨a, vs, e, g, r, es⟩ := h'
    subst es
    exact Rep.frame hg (fun _ _ => rfl) _ _ _ (fun _ _ => rfl) h
  | .dic o t ks ds, v, S, h, hg, hs => by
    simp only [Rep, D.frz] at h ⊢
    obtain ⟨a, vs, T, e, ha, r, ow⟩ := h
    exact ⟨a, vs, [], e, ha, RepL.frz ds vs T r hg (fun b hb => hs b (ow.sub hb)), Own.mkF (ow.self.elim (hg a) (hs a))⟩
  | .ins o c fs ds, v, S, h, hg, hs => by
    simp only [Rep, D.frz] at h ⊢
    obtain ⟨a, C, dx, vs, T, e, hc, ha, hl, r, ow⟩ := h
    exact ⟨a, C, dx, vs, [], e, hc, ha, hl, RepL.frz ds vs T r hg (fun b hb => hs b (ow.sub hb)), Own.mkF (ow.self.elim (hg a) (hs a))⟩
theorem RepL.frz : ∀ (ds : List D) (vs : List V) (S : List Addr), RepL cn G H ds vs S → (∀ b, G b → G' b) → (∀ b ∈ S, G' b) → RepL cn G' H (frzL ds) vs []
  | [], _, _, h, _, _ => by simp only [RepL, frzL] at h ⊢; exact ⟨h.1, trivial⟩
  | d :: ds, vs, S, h, hg, hs => by
    simp only [RepL, frzL] at h ⊢
    obtain ⟨v, r, S1, S2, e1, e2, h1, h2⟩ := h
    subst e2
    exact ⟨v, r, [], [], e1, rfl, Rep.frz d v S1 h1 hg (fun b hb => hs b (List.mem_append_left _ hb)), RepL.frz ds r S2 h2 hg (fun b hb => hs b (List.mem_append_right _ hb))⟩
end
/-- all that stands stays, more may be frozen -/
theorem Rep.same {d : D} {v : V} {S : List Addr} (h : Rep cn G H d v S) (dG : ∀ a, G a → H a ≠ none) (s : Same H H') (hg : ∀ b, G b → G' b) : Rep cn G' H' d v S := by
  have k : ∀ b, H b ≠ none → H' b = H b := fun b hb => by
    cases e : H b with
    | none => exact absurd e hb
    | some o => exact s b o e
  exact Rep.frame hg (fun b gb => k b (dG b gb)) d v S (fun b hb => k b (Rep.dom d v S h b hb)) h
theorem RepL.same {ds : List D} {vs : List V} {S : List Addr} (h : RepL cn G H ds vs S) (dG : ∀ a, G a → H a ≠ none) (s : Same H H') (hg : ∀ b, G b → G' b) : RepL cn G' H' ds vs S := by
  have k : ∀ b, H b ≠ none → H' b = H b := fun b hb => by
    cases e : H b with
    | none => exact absurd e hb
    | some o => exact s b o e
  exact RepL.frame hg (fun b gb => k b (dG b gb)) ds vs S (fun b hb => k b (RepL.dom ds vs S h b hb)) h
theorem RepL.length : ∀ {ds : List D} {vs : List V} {S : List Addr}, RepL cn G H ds vs S → ds.length = vs.length
  | [], vs, S, h => by simp only [RepL] at h; rw [h.1] <;> rfl
  | d :: ds, vs, S, h => by
    simp only [RepL] at h
    obtain ⟨v, r, S1, S2, e1, e2, h1, h2⟩ := h
    rw [e1, List.length_cons, List.length_cons, RepL.length h2]
theorem RepL.append : ∀ {ds es : List D} {vs ws : List V} {S T : List Addr}, RepL cn G H ds vs S → RepL cn G H es ws T → RepL cn G H (ds ++ es) (vs ++ ws) (S ++ T)
  | [], es, vs, ws, S, T, h, h' => by
    simp only [RepL] at h
    rw [h.1, h.2]
    exact h'
  | d :: ds, es, vs, ws, S, T, h, h' => by
    simp only [RepL] at h
    obtain ⟨v, r, S1, S2, e1, e2, h1, h2⟩ := h
    subst e1 e2
    show RepL cn G H (d :: (ds ++ es)) _ _
    simp only [RepL]
    exact ⟨v, r ++ ws, S1, S2 ++ T, rfl, by rw [List.append_assoc], h1, RepL.append h2 h'⟩
theorem RepL.one {d : D} {v : V} {S : List Addr} (h : Rep cn G H d v S) : RepL cn G H [d] [v] S := by
  simp only [RepL]
  exact ⟨v, [], S, [], rfl, by simp, h, rfl, rfl⟩
/-- the i-th -/
theorem RepL.get : ∀ {ds : List D} {vs : List V} {S : List Addr} {i : Nat} {d : D}, RepL cn G H ds vs S → ds[i]? = some d → ∃ v U, vs[i]? = some v ∧ Rep cn G H d v U ∧ ∀ b ∈ U, b ∈ S
  | [], vs, S, i, d, h, e => by simp at e
  | d0 :: ds, vs, S, 0, d, h, e => by
    simp only [RepL] at h
    obtain ⟨v, r, S1, S2, e1, e2, h1, h2⟩ := h
    simp at e
    subst e e1 e2
    exact ⟨v, S1, rfl, h1, fun b hb => List.mem_append_left _ hb⟩
  | d0 :: ds, vs, S, i + 1, d, h, e => by
    simp only [RepL] at h
    obtain ⟨v, r, S1, S2, e1, e2, h1, h2⟩ := h
    subst e1 e2
    obtain ⟨w, U, q1, q2, q3⟩ := RepL.get (i := i) (d := d) h2 (by simpa using e)
    exact ⟨w, U, by simpa using q1, q2, fun b hb => List.mem_append_right _ (q3 b hb)⟩
theorem isFL_get : ∀ {ds : List D} {i : Nat} {d : D}, isFL ds = true → ds[i]? = some d → d.isF = true
  | d0 :: ds, 0, d, f, e => by simp at e; subst e; simp only [isFL, Bool.and_eq_true] at f; exact f.1
  | d0 :: ds, i + 1, d, f, e => by
    simp only [isFL, Bool.and_eq_true] at f
    exact isFL_get (i := i) f.2 (by simpa using e)
theorem isFL_iff : ∀ {ds : List D}, isFL ds = true ↔ ∀ d ∈ ds, d.isF = true
  | [] => by simp [isFL]
  | d :: ds => by simp [isFL, isFL_iff (ds := ds)]
end
end Pv

/-! Snd2: the state of a def that runs: its slots, the temporaries, what is owned by whom. -/
namespace Pv
open PySem L2

/-- where a def was entered: the heap, what was handed in to be changed, the frozen part, the arguments -/
structure Ent where
  H : Hp
  S : List Addr
  G : Addr → Prop
  vs : List V

def SlOk (cn : Cn) (en : Ent) (G : Addr → Prop) (H : Hp) (s : Sl) (o : Option V) (i : Nat) (S : List Addr) : Prop := match s with
  | .no => S = []
  | .ow d => ∃ v, o = some v ∧ Rep cn G H d v S
  | .io d => ∃ v, o = some v ∧ en.vs[i]? = some v ∧ Rep cn G H d v S
  | .vw d => ∃ v U, o = some v ∧ Rep cn G H d v U ∧ (∀ a ∈ U, en.H a ≠ none ∧ a ∉ en.S) ∧ S = []
def RepS (cn : Cn) (en : Ent) (G : Addr → Prop) (H : Hp) : PS → L2.St → Nat → List Addr → Prop
  | [], σ, _, S => σ = [] ∧ S = []
  | s :: ps, σ, i, S => ∃ o r S1 S2, σ = o :: r ∧ S = S1 ++ S2 ∧ SlOk cn en G H s o i S1 ∧ RepS cn en G H ps r (i + 1) S2
def RepF (cn : Cn) (G : Addr → Prop) (H : Hp) : List (V × D) → List Addr → Prop
  | [], T => T = []
  | c :: cs, T => ∃ T1 T2, T = T1 ++ T2 ∧ Rep cn G H c.2 c.1 T1 ∧ RepF cn G H cs T2
structure Gk (en : Ent) (G : Addr → Prop) (H : Hp) (S : List Addr) : Prop where
  dom : ∀ a, G a → H a ≠ none
  keep : ∀ b o, en.H b = some o → b ∉ en.S → H b = some o
  gIn : ∀ a, en.G a → G a
  gOut : ∀ a, G a → en.G a ∨ a ∈ en.S ∨ en.H a = none
  cnt : ∀ a, S.count a ≤ 1
  off : ∀ a ∈ S, ¬ G a
  av : ∀ a ∈ S, a ∈ en.S ∨ en.H a = none
  grow : ∀ b, en.H b ≠ none → H b ≠ none
def RR (cn : Cn) (en : Ent) (G : Addr → Prop) (fr : List (V × D)) (ps : PS) (σ : L2.St) (H : Hp) : Prop :=
  ∃ S T, RepS cn en G H ps σ 0 S ∧ RepF cn G H fr T ∧ Gk en G H (S ++ T)

section
variable {cn : Cn} {en : Ent} {G G' : Addr → Prop} {H H' : Hp} {fr fr' cs cs' : List (V × D)} {ps : PS} {σ : L2.St}
/-! ### the parts -/
theorem SlOk.frame {s : Sl} {o : Option V} {i : Nat} {S : List Addr} (h : SlOk cn en G H s o i S) (hg : ∀ b, G b → G' b) (hG : Agr G H H') (hS : ∀ b ∈ S, H' b = H b) (hV : ∀ b, en.H b ≠ none → b ∉ en.S → H' b = H b) : SlOk cn en G' H' s o i S := by
  cases s with
  | no => exact h
  | ow d => obtain ⟨v, e, r⟩ := h; exact ⟨v, e, Rep.frame hg hG d v S hS r⟩
  | io d => obtain ⟨v, e, e2, r⟩ := h; exact ⟨v, e, e2, Rep.frame hg hG d v S hS r⟩
  | vw d => obtain ⟨v, U, e, r, hU, es⟩ := h; exact ⟨v, U, e, Rep.frame hg hG d v U (fun b hb => hV b (hU b hb).1 (hU b hb).2) r, hU, es⟩
theorem RepS.frame (hg : ∀ b, G b → G' b) (hG : Agr G H H') (hV : ∀ b, en.H b ≠ none → b ∉ en.S → H' b = H b) : ∀ {ps : PS} {σ : L2.St} {i : Nat} {S : List Addr}, RepS cn en G H ps σ i S → (∀ b ∈ S, H' b = H b) → RepS cn en G' H' ps σ i S
  | [], _, _, _, h, _ => h
  | s :: ps, σ, i, S, h, hS => by
    simp only [RepS] at h ⊢
    obtain ⟨o, r, S1, S2, e1, e2, h1, h2⟩ := h
    subst e2
    exact ⟨o, r, S1, S2, e1, rfl, h1.frame hg hG (fun b hb => hS b (List.mem_append_left _ hb)) hV, RepS.frame hg hG hV h2 fun b hb => hS b (List.mem_append_right _ hb)⟩
theorem RepF.frame (hg : ∀ b, G b → G' b) (hG : Agr G H H') : ∀ {fr : List (V × D)} {T : List Addr}, RepF cn G H fr T → (∀ b ∈ T, H' b = H b) → RepF cn G' H' fr T
  | [], _, h, _ => h
  | c :: cs, T, h, hS => by
    simp only [RepF] at h ⊢
    obtain ⟨T1, T2, e, h1, h2⟩ := h
    subst e
    exact ⟨T1, T2, rfl, Rep.frame hg hG _ _ _ (fun b hb => hS b (List.mem_append_left _ hb)) h1, RepF.frame hg hG h2 fun b hb => hS b (List.mem_append_right _ hb)⟩
theorem RepF.append : ∀ {cs fr : List (V × D)} {T : List Addr}, RepF cn G H (cs ++ fr) T ↔ ∃ T1 T2, T = T1 ++ T2 ∧ RepF cn G H cs T1 ∧ RepF cn G H fr T2
  | [], fr, T => by
    simp only [List.nil_append, RepF]
    exact ⟨fun h => ⟨[], T, rfl, rfl, h⟩, fun ⟨T1, T2, e, e1, h⟩ => by rw [e, e1]; exact h⟩
  | c :: cs, fr, T => by
    simp only [List.cons_append, RepF]
    constructor
    · rintro ⟨T1, T2, e, h1, h2⟩
      obtain ⟨T3, T4, e2, h3, h4⟩ := RepF.append.mp h2
      exact ⟨T1 ++ T3, T4, by rw [e, e2, List.append_assoc], ⟨T1, T3, rfl, h1, h3⟩, h4⟩
    · rintro ⟨T1, T2, e, ⟨T3, T4, e2, h1, h3⟩, h2⟩
      exact ⟨T3, T4 ++ T2, by rw [e, e2, List.append_assoc], h1, RepF.append.mpr ⟨T4, T2, rfl, h3, h2⟩⟩
theorem RepF.perm {fr fr' : List (V × D)} (p : fr.Perm fr') : ∀ {T : List Addr}, RepF cn G H fr T → ∃ T', T.Perm T' ∧ RepF cn G H fr' T' := by
  induction p with
  | nil => intro T h; exact ⟨T, .refl _, h⟩
  | cons x _ ih =>
    intro T h
    simp only [RepF] at h
    obtain ⟨T1, T2, e, h1, h2⟩ := h
    obtain ⟨T3, p3, h3⟩ := ih h2
    refine ⟨T1 ++ T3, by rw [e]; exact p3.append_left _, ?_⟩
    simp only [RepF]
    exact ⟨T1, T3, rfl, h1, h3⟩
  | swap x y l =>
    intro T h
    simp only [RepF] at h ⊢
    obtain ⟨T1, T2, e, h1, T3, T4, e2, h3, h4⟩ := h
    refine ⟨T3 ++ (T1 ++ T4), ?_, T3, T1 ++ T4, rfl, h3, T1, T4, rfl, h1, h4⟩
    rw [e, e2, ← List.append_assoc, ← List.append_assoc]
    exact (List.perm_append_comm).append_right _
  | trans _ _ ih1 ih2 =>
    intro T h
    obtain ⟨T1, p1, h1⟩ := ih1 h
    obtain ⟨T2, p2, h2⟩ := ih2 h1
    exact ⟨T2, p1.trans p2, h2⟩
theorem RepF.dom : ∀ {fr : List (V × D)} {T : List Addr}, RepF cn G H fr T → ∀ b ∈ T, H b ≠ none
  | [], T, h, b, hb => by simp only [RepF] at h; rw [h] at hb; cases hb
  | c :: cs, T, h, b, hb => by
    simp only [RepF] at h
    obtain ⟨T1, T2, e, h1, h2⟩ := h
    rw [e] at hb
    rcases List.mem_append.mp hb with z | z
    · exact Rep.dom _ _ _ h1 b z
    · exact RepF.dom h2 b z
theorem SlOk.dom {s : Sl} {o : Option V} {i : Nat} {S : List Addr} (h : SlOk cn en G H s o i S) : ∀ b ∈ S, H b ≠ none := fun b hb => by
  cases s with
  | no => rw [show S = [] from h] at hb; cases hb
  | ow d => obtain ⟨v, e, r⟩ := h; exact Rep.dom _ _ _ r b hb
  | io d => obtain ⟨v, e, e2, r⟩ := h; exact Rep.dom _ _ _ r b hb
  | vw d => obtain ⟨v, U, e, r, hU, es⟩ := h; rw [es] at hb; cases hb
theorem RepS.dom : ∀ {ps : PS} {σ : L2.St} {i : Nat} {S : List Addr}, RepS cn en G H ps σ i S → ∀ b ∈ S, H b ≠ none
  | [], σ, i, S, h, b, hb => by simp only [RepS] at h; rw [h.2] at hb; cases hb
  | s :: ps, σ, i, S, h, b, hb => by
    simp only [RepS] at h
    obtain ⟨o, r, S1, S2, e1, e2, h1, h2⟩ := h
    rw [e2] at hb
    rcases List.mem_append.mp hb with z | z
    · exact h1.dom b z
    · exact RepS.dom h2 b z
theorem RepS.length : ∀ {ps : PS} {σ : L2.St} {i : Nat} {S : List Addr}, RepS cn en G H ps σ i S → ps.length = σ.length
  | [], σ, i, S, h => by simp only [RepS] at h; rw [h.1] <;> rfl
  | s :: ps, σ, i, S, h => by
    simp only [RepS] at h
    obtain ⟨o, r, S1, S2, e1, e2, h1, h2⟩ := h
    rw [e1, List.length_cons, List.length_cons, RepS.length h2]
/-- a slot emptied, its part kept apart -/
theorem RepS.take : ∀ {ps : PS} {σ : L2.St} {k : Nat} {S : List Addr} {i : Nat} {s : Sl}, RepS cn en G H ps σ k S → ps[i]? = some s →
    ∃ o S1 Si S2, σ[i]? = some o ∧ S = S1 ++ (Si ++ S2) ∧ SlOk cn en G H s o (k + i) Si ∧ RepS cn en G H (ps.set i .no) σ k (S1 ++ S2)
  | [], σ, k, S, i, s, h, e => by simp at e
  | s0 :: ps, σ, k, S, 0, s, h, e => by
    simp only [RepS] at h
    obtain ⟨o, r, S1, S2, e1, e2, h1, h2⟩ := h
    simp at e
    subst e e1
    refine ⟨o, [], S1, S2, rfl, e2, h1, ?_⟩
    show RepS cn en G H (.no :: ps) (o :: r) k ([] ++ S2)
    simp only [RepS]
    exact ⟨o, r, [], S2, rfl, rfl, rfl, h2⟩
  | s0 :: ps, σ, k, S, i + 1, s, h, e => by
    simp only [RepS] at h
    obtain ⟨o, r, S1, S2, e1, e2, h1, h2⟩ := h
    subst e1
    obtain ⟨o', T1, Ti, T2, q1, q2, q3, q4⟩ := RepS.take (i := i) h2 (by simpa using e)
    refine ⟨o', S1 ++ T1, Ti, T2, by simpa using q1, by rw [e2, q2, List.append_assoc], by rw [show k + (i + 1) = k + 1 + i by omega]; exact q3, ?_⟩
    show RepS cn en G H (s0 :: ps.set i .no) (o :: r) k (S1 ++ T1 ++ T2)
    simp only [RepS]
    exact ⟨o, r, S1, T1 ++ T2, rfl, by rw [List.append_assoc], h1, q4⟩
/-- an empty slot filled -/
theorem RepS.give : ∀ {ps : PS} {σ : L2.St} {k : Nat} {S : List Addr} {i : Nat} {s : Sl} {o : Option V} {Si : List Addr}, RepS cn en G H ps σ k S → ps[i]? = some .no → SlOk cn en G H s o (k + i) Si →
    ∃ S1 S2, S = S1 ++ S2 ∧ RepS cn en G H (ps.set i s) (σ.set i o) k (S1 ++ (Si ++ S2))
  | [], σ, k, S, i, s, o, Si, h, e, x => by simp at e
  | s0 :: ps, σ, k, S, 0, s, o, Si, h, e, x => by
    simp only [RepS] at h
    obtain ⟨o0, r, S1, S2, e1, e2, h1, h2⟩ := h
    simp at e
    subst e e1
    refine ⟨[], S2, by rw [e2, show S1 = [] from h1], ?_⟩
    show RepS cn en G H (s :: ps) (o :: r) k ([] ++ (Si ++ S2))
    simp only [RepS]
    exact ⟨o, r, Si, S2, rfl, rfl, x, h2⟩
  | s0 :: ps, σ, k, S, i + 1, s, o, Si, h, e, x => by
    simp only [RepS] at h
    obtain ⟨o0, r, S1, S2, e1, e2, h1, h2⟩ := h
    subst e1
    obtain ⟨T1, T2, q1, q2⟩ := RepS.give (i := i) (s := s) (o := o) (Si := Si) h2 (by simpa using e) (by rw [show k + 1 + i = k + (i + 1) by omega]; exact x)
    refine ⟨S1 ++ T1, T2, by rw [e2, q1, List.append_assoc], ?_⟩
    show RepS cn en G H (s0 :: ps.set i s) (o0 :: r.set i o) k (S1 ++ T1 ++ (Si ++ T2))
    simp only [RepS]
    exact ⟨o0, r.set i o, S1, T1 ++ (Si ++ T2), rfl, by rw [List.append_assoc], h1, q2⟩
/-! ### the whole -/
theorem same_keep (s : Same H H') {b : Addr} (h : H b ≠ none) : H' b = H b := by
  cases e : H b with
  | none => exact absurd e h
  | some o => exact s b o e
theorem RR.dom (h : RR cn en G fr ps σ H) : ∀ a, G a → H a ≠ none := let ⟨_, _, _, _, k⟩ := h; k.dom
theorem RR.gIn (h : RR cn en G fr ps σ H) : ∀ a, en.G a → G a := let ⟨_, _, _, _, k⟩ := h; k.gIn
theorem RR.len (h : RR cn en G fr ps σ H) : ps.length = σ.length := let ⟨_, _, h1, _, _⟩ := h; h1.length
theorem cnt_mem {a : Addr} {l : List Addr} : a ∈ l ↔ 0 < l.count a := List.count_pos_iff.symm
/-- the heap grows, more is frozen: new temporaries in the place of the first ones -/
theorem RR.xnew {p : Addr} {o : HO} {N : List Addr} (h : RR cn en G (cs ++ fr) ps σ H) (hp : H p = none) (hg : ∀ b, G b → G' b) (hG' : ∀ b, G' b → G b ∨ b = p) (hN : ∀ b ∈ N, b = p ∧ ¬ G' b) (hN1 : N.length ≤ 1)
    (k : ∀ Sc, RepF cn G H cs Sc → ∃ Sc', RepF cn G' (upd H p o) cs' Sc' ∧ ∀ b, Sc'.count b ≤ Sc.count b + N.count b) : RR cn en G' (cs' ++ fr) ps σ (upd H p o) := by
  obtain ⟨S, T, hS, hT, g⟩ := h
  obtain ⟨T1, T2, eT, hc, hf⟩ := RepF.append.mp hT
  subst eT
  have s : Same H (upd H p o) := fun b x e => by rw [upd_ne (ne_of_none e hp)]; exact e
  have ep : en.H p = none := Classical.byContradiction fun z => g.grow p z hp
  obtain ⟨Sc', hc', le⟩ := k T1 hc
  have ks : ∀ b, H b ≠ none → (upd H p o) b = H b := fun b z => same_keep s z
  have hnp : ∀ b ∈ S ++ (T1 ++ T2), b ≠ p := fun b hb q => by
    subst q
    rcases List.mem_append.mp hb with z | z
    · exact RepS.dom hS _ z hp
    · exact RepF.dom hT _ z hp
  have hV : ∀ b, en.H b ≠ none → b ∉ en.S → (upd H p o) b = H b := fun b z _ => ks b (g.grow b z)
  refine ⟨S, Sc' ++ T2, hS.frame hg (fun b z => ks b (g.dom b z)) hV (fun b hb => ks b (RepS.dom hS b hb)), RepF.append.mpr ⟨Sc', T2, rfl, hc', RepF.frame hg (fun b z => ks b (g.dom b z)) hf (fun b hb => ks b (RepF.dom hf b hb))⟩, ?_⟩
  have nc : ∀ b, N.count b ≤ 1 := fun b => Nat.le_trans List.count_le_length hN1
  have cp : ∀ b, 0 < N.count b → b = p ∧ ¬ G' b := fun b z => hN b (cnt_mem.mpr z)
  have inn : ∀ a ∈ S ++ (Sc' ++ T2), a ∈ S ++ (T1 ++ T2) ∨ a ∈ N := fun a ha => by
    have := le a
    have c1 := g.cnt a
    rw [cnt_mem] at ha
    rw [cnt_mem, cnt_mem]
    simp only [List.count_append] at *
    omega
  refine ⟨fun a z => ?_, fun b x e hb => ?_, fun a z => hg a (g.gIn a z), fun a z => ?_, fun a => ?_, fun a ha z => ?_, fun a ha => ?_, fun b z => by rw [ks b (g.grow b z)]; exact g.grow b z⟩
  · rcases hG' a z with q | q
    · rw [ks a (g.dom a q)]; exact g.dom a q
    · rw [q, upd_same]; exact fun q => nomatch q
  · rw [ks b (g.grow b (by rw [e]; exact fun q => nomatch q))]; exact g.keep b x e hb
  · rcases hG' a z with q | q
    · exact g.gOut a q
    · rw [q]; exact .inr (.inr ep)
  · have c1 := g.cnt a
    have c2 := le a
    have c3 := nc a
    simp only [List.count_append] at *
    by_cases z : 0 < N.count a
    · obtain ⟨e, _⟩ := cp a z
      have : ¬ 0 < (S ++ (T1 ++ T2)).count a := fun q => hnp a (cnt_mem.mpr q) e
      simp only [List.count_append] at this
      omega
    · omega
  · rcases inn a ha with q | q
    · rcases hG' a z with w | w
      · exact g.off a q w
      · exact hnp a q w
    · exact (hN a q).2 z
  · rcases inn a ha with q | q
    · exact g.av a q
    · rw [(hN a q).1]; exact .inr ep
/-- nothing changes but how the first temporaries are taken -/
theorem RR.xch (h : RR cn en G (cs ++ fr) ps σ H) (k : ∀ Sc, RepF cn G H cs Sc → ∃ Sc', RepF cn G H cs' Sc' ∧ ∀ b, Sc'.count b ≤ Sc.count b) : RR cn en G (cs' ++ fr) ps σ H := by
  obtain ⟨S, T, hS, hT, g⟩ := h
  obtain ⟨T1, T2, eT, hc, hf⟩ := RepF.append.mp hT
  subst eT
  obtain ⟨Sc', hc', le⟩ := k T1 hc
  have inn : ∀ a ∈ S ++ (Sc' ++ T2), a ∈ S ++ (T1 ++ T2) := fun a ha => by
    have := le a
    rw [cnt_mem] at ha ⊢
    simp only [List.count_append] at *
    omega
  refine ⟨S, Sc' ++ T2, hS, RepF.append.mpr ⟨Sc', T2, rfl, hc', hf⟩, g.dom, g.keep, g.gIn, g.gOut, fun a => ?_, fun a ha => g.off a (inn a ha), fun a ha => g.av a (inn a ha), g.grow⟩
  have c1 := g.cnt a
  have c2 := le a
  simp only [List.count_append] at *
  omega
/-- an object that the first temporaries own is written -/
theorem RR.xwr {p : Addr} {o : HO} (h : RR cn en G (cs ++ fr) ps σ H) (k : ∀ Sc, RepF cn G H cs Sc → (∀ b, Sc.count b ≤ 1) → p ∈ Sc ∧ ∃ Sc', RepF cn G (upd H p o) cs' Sc' ∧ ∀ b, Sc'.count b ≤ Sc.count b) : RR cn en G (cs' ++ fr) ps σ (upd H p o) := by
  obtain ⟨S, T, hS, hT, g⟩ := h
  obtain ⟨T1, T2, eT, hc, hf⟩ := RepF.append.mp hT
  subst eT
  obtain ⟨hp, Sc', hc', le⟩ := k T1 hc fun b => by
    have c1 := g.cnt b
    simp only [List.count_append] at *
    omega
  have hpA : p ∈ S ++ (T1 ++ T2) := List.mem_append_right _ (List.mem_append_left _ hp)
  have nG : ¬ G p := g.off p hpA
  have c1 : 0 < T1.count p := cnt_mem.mp hp
  have cp := g.cnt p
  simp only [List.count_append] at cp
  have nS : ∀ b ∈ S, b ≠ p := fun b hb e => by subst e; have := cnt_mem.mp hb; omega
  have nT : ∀ b ∈ T2, b ≠ p := fun b hb e => by subst e; have := cnt_mem.mp hb; omega
  have hGk : Agr G H (upd H p o) := fun b z => upd_ne fun e => nG (e ▸ z)
  have hV : ∀ b, en.H b ≠ none → b ∉ en.S → (upd H p o) b = H b := fun b z w => upd_ne fun e => by
    subst e
    rcases g.av b hpA with q | q
    · exact w q
    · exact z q
  have inn : ∀ a ∈ S ++ (Sc' ++ T2), a ∈ S ++ (T1 ++ T2) := fun a ha => by
    have := le a
    rw [cnt_mem] at ha ⊢
    simp only [List.count_append] at *
    omega
  have dm : ∀ b, H b ≠ none → (upd H p o) b ≠ none := fun b z => by
    by_cases e : b = p
    · rw [e, upd_same]; exact fun q => nomatch q
    · rw [upd_ne e]; exact z
  refine ⟨S, Sc' ++ T2, hS.frame (fun _ z => z) hGk hV (fun b hb => upd_ne (nS b hb)), RepF.append.mpr ⟨Sc', T2, rfl, hc', RepF.frame (fun _ z => z) hGk hf (fun b hb => upd_ne (nT b hb))⟩, fun a z => dm a (g.dom a z), fun b x e hb => ?_, g.gIn, g.gOut, fun a => ?_, fun a ha => g.off a (inn a ha), fun a ha => g.av a (inn a ha), fun b z => dm b (g.grow b z)⟩
  · rw [hV b (by rw [e]; exact fun q => nomatch q) hb]; exact g.keep b x e hb
  · have c1 := g.cnt a
    have c2 := le a
    simp only [List.count_append] at *
    omega
/-- what the first temporaries own is frozen -/
theorem RR.xfz (h : RR cn en G (cs ++ fr) ps σ H) (k : ∀ Sc G', RepF cn G H cs Sc → (∀ b, G b → G' b) → (∀ b ∈ Sc, G' b) → RepF cn G' H cs' []) : ∃ G', (∀ b, G b → G' b) ∧ RR cn en G' (cs' ++ fr) ps σ H := by
  obtain ⟨S, T, hS, hT, g⟩ := h
  obtain ⟨T1, T2, eT, hc, hf⟩ := RepF.append.mp hT
  subst eT
  refine ⟨orG G T1, fun _ z => .inl z, S, T2, hS.frame (fun _ z => .inl z) (fun _ _ => rfl) (fun _ _ _ => rfl) (fun _ _ => rfl), RepF.append.mpr ⟨[], T2, rfl, k T1 _ hc (fun _ z => .inl z) (fun _ z => .inr z), RepF.frame (fun _ z => .inl z) (fun _ _ => rfl) hf (fun _ _ => rfl)⟩, ?_⟩
  have sub : ∀ a ∈ S ++ T2, a ∈ S ++ (T1 ++ T2) := fun a ha => by
    rw [cnt_mem] at ha ⊢
    simp only [List.count_append] at *
    omega
  refine ⟨fun a z => ?_, g.keep, fun a z => .inl (g.gIn a z), fun a z => ?_, fun a => ?_, fun a ha z => ?_, fun a ha => g.av a (sub a ha), g.grow⟩
  · rcases z with z | z
    · exact g.dom a z
    · exact RepF.dom hc a z
  · rcases z with z | z
    · exact g.gOut a z
    · rcases g.av a (List.mem_append_right _ (List.mem_append_left _ z)) with q | q
      · exact .inr (.inl q)
      · exact .inr (.inr q)
  · have c1 := g.cnt a
    simp only [List.count_append] at *
    omega
  · rcases z with z | z
    · exact g.off a (sub a ha) z
    · have c1 := g.cnt a
      have c2 := cnt_mem.mp z
      have c3 := cnt_mem.mp ha
      simp only [List.count_append] at *
      omega
/-! ### in short -/
theorem RR.drop {c : V × D} (h : RR cn en G (c :: fr) ps σ H) : RR cn en G fr ps σ H :=
  RR.xch (cs := [c]) (cs' := []) h fun Sc _ => ⟨[], rfl, fun b => Nat.zero_le _⟩
theorem RR.dropL {cs : List (V × D)} (h : RR cn en G (cs ++ fr) ps σ H) : RR cn en G fr ps σ H :=
  RR.xch (cs := cs) (cs' := []) h fun Sc _ => ⟨[], rfl, fun b => Nat.zero_le _⟩
theorem RR.perm (p : fr.Perm fr') (h : RR cn en G fr ps σ H) : RR cn en G fr' ps σ H := by
  have h : RR cn en G (fr ++ []) ps σ H := by rw [List.append_nil]; exact h
  have := RR.xch (cs' := fr') h fun Sc hc => let ⟨T', pp, h'⟩ := RepF.perm p hc; ⟨T', h', fun b => Nat.le_of_eq (pp.count_eq b).symm⟩
  rwa [List.append_nil] at this
theorem RR.view {v : V} {d : D} (h : RR cn en G ((v, d) :: fr) ps σ H) : ∃ U, Rep cn G H d v U := by
  obtain ⟨S, T, hS, hT, g⟩ := h
  simp only [RepF] at hT
  obtain ⟨T1, T2, _, h1, _⟩ := hT
  exact ⟨T1, h1⟩
/-- a plain thing, seen, is a temporary -/
theorem RR.push {v : V} {d : D} {U : List Addr} (h : RR cn en G fr ps σ H) (f : d.isF = true) (r : Rep cn G H d v U) : RR cn en G ((v, d) :: fr) ps σ H := by
  have e := Rep.nil d v U f r
  subst e
  exact RR.xch (cs := []) (cs' := [(v, d)]) h fun Sc hc => ⟨[], by simp only [RepF]; exact ⟨[], [], rfl, r, rfl⟩, fun b => Nat.zero_le _⟩
/-- frozen -/
theorem RR.fz {v : V} {d : D} (h : RR cn en G ((v, d) :: fr) ps σ H) : ∃ G', (∀ b, G b → G' b) ∧ RR cn en G' ((v, d.frz) :: fr) ps σ H :=
  RR.xfz (cs := [(v, d)]) (cs' := [(v, d.frz)]) h fun Sc G' hc hg hs => by
    simp only [RepF] at hc ⊢
    obtain ⟨T1, T2, e, h1, e2⟩ := hc
    subst e
    exact ⟨[], [], rfl, Rep.frz _ _ _ h1 hg (fun b hb => hs b (List.mem_append_left _ hb)), rfl⟩
/-- what stands in a slot -/
theorem RR.rd {i : Nat} {d : D} (h : RR cn en G fr ps σ H) (e : Pv.rd ps i = some d) : ∃ v U, σ[i]? = some (some v) ∧ Rep cn G H d v U := by
  obtain ⟨S, T, hS, hT, g⟩ := h
  unfold Pv.rd at e
  split at e
  · rename_i s hs
    obtain ⟨o, S1, Si, S2, q1, q2, q3, q4⟩ := hS.take hs
    cases s with
    | no => cases e
    | ow d' => cases e; obtain ⟨v, e1, r⟩ := q3; subst e1; exact ⟨v, Si, q1, r⟩
    | io d' => cases e; obtain ⟨v, e1, _, r⟩ := q3; subst e1; exact ⟨v, Si, q1, r⟩
    | vw d' => cases e; obtain ⟨v, U, e1, r, _, _⟩ := q3; subst e1; exact ⟨v, U, q1, r⟩
  · cases e
/-- a slot's content lent: taken out, and put back as something else -/
theorem RR.lend {i : Nat} {d : D} (h : RR cn en G fr ps σ H) (e : rdM ps i = some d) : ∃ v, σ[i]? = some (some v) ∧ RR cn en G ((v, d) :: fr) (ps.set i .no) σ H ∧
    ∀ G' H' fr' d', RR cn en G' ((v, d') :: fr') (ps.set i .no) σ H' → RR cn en G' fr' (wr ps i d') σ H' := by
  obtain ⟨S, T, hS, hT, g⟩ := h
  have hs : ∃ s, ps[i]? = some s ∧ (s = .ow d ∨ s = .io d) := by
    unfold rdM at e
    split at e
    · cases e; rename_i q; exact ⟨_, q, .inl rfl⟩
    · cases e; rename_i q; exact ⟨_, q, .inr rfl⟩
    · cases e
  obtain ⟨s, hs, hm⟩ := hs
  obtain ⟨o, S1, Si, S2, q1, q2, q3, q4⟩ := hS.take hs
  have hr : ∃ v, o = some v ∧ Rep cn G H d v Si ∧ ∀ G' H' d' Sd, Rep cn G' H' d' v Sd → SlOk cn en G' H' (s.put d') o (0 + i) Sd := by
    rcases hm with z | z
    · subst z; obtain ⟨v, e1, r⟩ := q3; exact ⟨v, e1, r, fun G' H' d' Sd r' => ⟨v, e1, r'⟩⟩
    · subst z; obtain ⟨v, e1, e2, r⟩ := q3; exact ⟨v, e1, r, fun G' H' d' Sd r' => ⟨v, e1, e2, r'⟩⟩
  obtain ⟨v, e1, r, back⟩ := hr
  subst e1
  have hl : i < ps.length := (List.getElem?_eq_some_iff.mp hs).1
  refine ⟨v, q1, ⟨S1 ++ S2, Si ++ T, q4, ?_, ?_⟩, fun G' H' fr' d' h' => ?_⟩
  · simp only [RepF]; exact ⟨Si, T, rfl, r, hT⟩
  · subst q2
    have pm : ∀ a, a ∈ (S1 ++ S2) ++ (Si ++ T) → a ∈ (S1 ++ (Si ++ S2)) ++ T := fun a ha => by
      rw [cnt_mem] at ha ⊢
      simp only [List.count_append] at *
      omega
    refine ⟨g.dom, g.keep, g.gIn, g.gOut, fun a => ?_, fun a ha => g.off a (pm a ha), fun a ha => g.av a (pm a ha), g.grow⟩
    have c1 := g.cnt a
    simp only [List.count_append] at *
    omega
  · obtain ⟨S', T', hS', hT', g'⟩ := h'
    simp only [RepF] at hT'
    obtain ⟨Sd, T2, eT, r', hf⟩ := hT'
    subst eT
    obtain ⟨S3, S4, e3, hS3⟩ := hS'.give (s := s.put d') (o := some v) (Si := Sd) (by rw [List.getElem?_set_self hl]) (back G' H' d' Sd r')
    have ew : wr ps i d' = (ps.set i .no).set i (s.put d') := by unfold wr; rw [hs]; simp
    have eσ : σ.set i (some v) = σ := by
      refine List.ext_getElem? fun j => ?_
      by_cases hj : j = i
      · subst hj; rw [List.getElem?_set_self (by rw [← hS.length]; exact hl), q1]
      · rw [List.getElem?_set_ne (Ne.symm hj)]
    rw [eσ] at hS3
    rw [ew]
    subst e3
    have pm : ∀ a, a ∈ (S3 ++ (Sd ++ S4)) ++ T2 → a ∈ (S3 ++ S4) ++ (Sd ++ T2) := fun a ha => by
      rw [cnt_mem] at ha ⊢
      simp only [List.count_append] at *
      omega
    refine ⟨_, T2, hS3, hf, g'.dom, g'.keep, g'.gIn, g'.gOut, fun a => ?_, fun a ha => g'.off a (pm a ha), fun a ha => g'.av a (pm a ha), g'.grow⟩
    have c1 := g'.cnt a
    simp only [List.count_append] at *
    omega
/-- a slot forgotten -/
theorem RR.clr1 {i : Nat} (h : RR cn en G fr ps σ H) : RR cn en G fr (ps.set i .no) σ H := by
  obtain ⟨S, T, hS, hT, g⟩ := h
  cases hs : ps[i]? with
  | none =>
    rw [List.set_eq_of_length_le (by simpa using hs)]
    exact ⟨S, T, hS, hT, g⟩
  | some s =>
    obtain ⟨o, S1, Si, S2, q1, q2, q3, q4⟩ := hS.take hs
    subst q2
    have pm : ∀ a, a ∈ (S1 ++ S2) ++ T → a ∈ (S1 ++ (Si ++ S2)) ++ T := fun a ha => by
      rw [cnt_mem] at ha ⊢
      simp only [List.count_append] at *
      omega
    refine ⟨_, T, q4, hT, g.dom, g.keep, g.gIn, g.gOut, fun a => ?_, fun a ha => g.off a (pm a ha), fun a ha => g.av a (pm a ha), g.grow⟩
    have c1 := g.cnt a
    simp only [List.count_append] at *
    omega
theorem RR.clr : ∀ {is : List Nat} {ps : PS}, RR cn en G fr ps σ H → RR cn en G fr (Pv.clr is ps) σ H
  | [], _, h => h
  | i :: is, ps, h => RR.clr (is := is) h.clr1
/-- a temporary stored into a slot -/
theorem RR.store {i : Nat} {v : V} {d : D} (h : RR cn en G ((v, d) :: fr) ps σ H) (hi : i < σ.length) : RR cn en G fr (ps.set i (.ow d)) (σ.set i (some v)) H := by
  obtain ⟨S, T, hS, hT, g⟩ := h.clr1 (i := i)
  simp only [RepF] at hT
  obtain ⟨Sd, T2, eT, r, hf⟩ := hT
  subst eT
  have hl : i < ps.length := by rw [h.len]; exact hi
  obtain ⟨S3, S4, e3, hS3⟩ := hS.give (s := .ow d) (o := some v) (Si := Sd) (by rw [List.getElem?_set_self hl]) ⟨v, rfl, r⟩
  subst e3
  rw [List.set_set] at hS3
  have pm : ∀ a, a ∈ (S3 ++ (Sd ++ S4)) ++ T2 → a ∈ (S3 ++ S4) ++ (Sd ++ T2) := fun a ha => by
    rw [cnt_mem] at ha ⊢
    simp only [List.count_append] at *
    omega
  refine ⟨_, T2, hS3, hf, g.dom, g.keep, g.gIn, g.gOut, fun a => ?_, fun a ha => g.off a (pm a ha), fun a ha => g.av a (pm a ha), g.grow⟩
  have c1 := g.cnt a
  simp only [List.count_append] at *
  omega
/-- a slot's own content as it is frozen in its place -/
theorem RR.fzS {i : Nat} {d : D} (h : RR cn en G fr ps σ H) (e : rdM ps i = some d) : ∃ G', (∀ b, G b → G' b) ∧ RR cn en G' fr (wr ps i d.frz) σ H := by
  obtain ⟨v, _, h1, back⟩ := h.lend e
  obtain ⟨G', hg, h2⟩ := h1.fz
  exact ⟨G', hg, back _ _ _ _ h2⟩
end
end Pv

/-! Snd3: expressions: what a reading asks, when it is said by plain values. -/
namespace Pv
open PySem L2

/-! ### what a reading is worth -/
/-- seen only -/
def GdV (cn : Cn) (t : TE) (f : QE) : Prop := ∀ (en : Ent) (G : Addr → Prop) (fr : List (V × D)) (ps : PS) (σ : L2.St) (H : Hp) (d : D) (Q : VK), RR cn en G fr ps σ H → f ps = some d →
  (∀ v H' G' U, Same H H' → (∀ a, G a → G' a) → RR cn en G' fr ps σ H' → Rep cn G' H' d v U → Q v H') → t σ H Q
/-- a temporary of its own -/
def GdQ (cn : Cn) (t : TE) (f : QE) : Prop := ∀ (en : Ent) (G : Addr → Prop) (fr : List (V × D)) (ps : PS) (σ : L2.St) (H : Hp) (d : D) (Q : VK), RR cn en G fr ps σ H → f ps = some d →
  (∀ v H' G', Same H H' → (∀ a, G a → G' a) → RR cn en G' ((v, d) :: fr) ps σ H' → Q v H') → t σ H Q
/-- .. that may change the state -/
def GdG (cn : Cn) (t : TE) (f : GE) : Prop := ∀ (en : Ent) (G : Addr → Prop) (fr : List (V × D)) (ps : PS) (σ : L2.St) (H : Hp) (d : D) (ps' : PS) (Q : VK), RR cn en G fr ps σ H → f ps = some (d, ps') →
  (∀ v H' G', RR cn en G' ((v, d) :: fr) ps' σ H' → Q v H') → t σ H Q
def GdT (cn : Cn) (t : TT) (f : QT) : Prop := ∀ (en : Ent) (G : Addr → Prop) (fr : List (V × D)) (ps : PS) (σ : L2.St) (H : Hp) (b : Bool) (Q : Bool → Hp → Prop), RR cn en G fr ps σ H → f ps = some b →
  (∀ H' G', Same H H' → (∀ a, G a → G' a) → RR cn en G' fr ps σ H' → Q b H') → t σ H Q
def GdTG (cn : Cn) (t : TT) (f : GT) : Prop := ∀ (en : Ent) (G : Addr → Prop) (fr : List (V × D)) (ps : PS) (σ : L2.St) (H : Hp) (b : Bool) (ps' : PS) (Q : Bool → Hp → Prop), RR cn en G fr ps σ H → f ps = some (b, ps') →
  (∀ H' G', RR cn en G' fr ps' σ H' → Q b H') → t σ H Q
/-- several, seen -/
def RepW (cn : Cn) (G : Addr → Prop) (H : Hp) : List D → List V → Prop
  | [], vs => vs = []
  | d :: ds, vs => ∃ v r U, vs = v :: r ∧ Rep cn G H d v U ∧ RepW cn G H ds r
def GdA (cn : Cn) (t : TA) (f : PS → Option (List D)) : Prop := ∀ (en : Ent) (G : Addr → Prop) (fr : List (V × D)) (ps : PS) (σ : L2.St) (H : Hp) (ds : List D) (Q : List V → Hp → Prop), RR cn en G fr ps σ H → f ps = some ds →
  (∀ vs H' G', Same H H' → (∀ a, G a → G' a) → RR cn en G' fr ps σ H' → RepW cn G' H' ds vs → Q vs H') → t σ H Q
def GdAG (cn : Cn) (t : TA) (f : PS → Option (List D × PS)) : Prop := ∀ (en : Ent) (G : Addr → Prop) (fr : List (V × D)) (ps : PS) (σ : L2.St) (H : Hp) (ds : List D) (ps' : PS) (Q : List V → Hp → Prop), RR cn en G fr ps σ H → f ps = some (ds, ps') →
  (∀ vs H' G', vs.length = ds.length → RR cn en G' (vs.zip ds ++ fr) ps' σ H' → Q vs H') → t σ H Q
section
variable {cn : Cn} {t : TE} {f : QE}
theorem RepW.same {G G' : Addr → Prop} {H H' : Hp} (dG : ∀ a, G a → H a ≠ none) (s : Same H H') (hg : ∀ b, G b → G' b) : ∀ {ds : List D} {vs : List V}, RepW cn G H ds vs → RepW cn G' H' ds vs
  | [], _, h => h
  | d :: ds, vs, h => by
    simp only [RepW] at h ⊢
    obtain ⟨v, r, U, e, h1, h2⟩ := h
    exact ⟨v, r, U, e, h1.same dG s hg, RepW.same dG s hg h2⟩
theorem RepW.length {G : Addr → Prop} {H : Hp} : ∀ {ds : List D} {vs : List V}, RepW cn G H ds vs → ds.length = vs.length
  | [], vs, h => by rw [show vs = [] from h] <;> rfl
  | d :: ds, vs, h => by
    simp only [RepW] at h
    obtain ⟨v, r, U, e, h1, h2⟩ := h
    rw [e, List.length_cons, List.length_cons, RepW.length h2]
theorem RepW.l {G : Addr → Prop} {H : Hp} : ∀ {ds : List D} {vs : List V}, isFL ds = true → RepW cn G H ds vs → RepL cn G H ds vs []
  | [], vs, f, h => by simp only [RepL]; exact ⟨h, trivial⟩
  | d :: ds, vs, f, h => by
    simp only [RepW] at h
    obtain ⟨v, r, U, e, h1, h2⟩ := h
    simp only [isFL, Bool.and_eq_true] at f
    have eU := Rep.nil d v U f.1 h1
    subst eU
    simp only [RepL]
    exact ⟨v, r, [], [], e, rfl, h1, RepW.l f.2 h2⟩
theorem RepF.w {G : Addr → Prop} {H : Hp} : ∀ {ds : List D} {vs : List V} {T : List Addr}, vs.length = ds.length → RepF cn G H (vs.zip ds) T → RepW cn G H ds vs
  | [], [], _, _, _ => rfl
  | [], _ :: _, _, e, _ => by simp at e
  | _ :: _, [], _, e, _ => by simp at e
  | d :: ds, v :: vs, T, e, h => by
    simp only [List.zip_cons_cons, RepF] at h
    obtain ⟨T1, T2, e1, h1, h2⟩ := h
    simp only [RepW]
    exact ⟨v, vs, T1, rfl, h1, RepF.w (by simpa using e) h2⟩
theorem RR.w {en : Ent} {G : Addr → Prop} {H : Hp} {ds : List D} {vs : List V} {fr : List (V × D)} {ps : PS} {σ : L2.St} (e : vs.length = ds.length) (h : RR cn en G (vs.zip ds ++ fr) ps σ H) : RepW cn G H ds vs := by
  obtain ⟨S, T, hS, hT, g⟩ := h
  obtain ⟨T1, T2, _, h1, _⟩ := RepF.append.mp hT
  exact RepF.w e h1
/-! ### from one to the other -/
theorem GdQ.v (h : GdQ cn t f) : GdV cn t f := fun en G fr ps σ H d Q R e k => h en G fr ps σ H d Q R e fun v H' G' s g R' => let ⟨U, r⟩ := R'.view; k v H' G' U s g R'.drop r
theorem GdV.q (h : GdV cn t f) : GdQ cn t (qF f) := fun en G fr ps σ H d Q R e k => by
  unfold qF at e
  cases ef : f ps with
  | none => rw [ef] at e; cases e
  | some x =>
    rw [ef] at e
    simp only [Option.bind_some] at e
    split at e
    · rename_i hf
      cases e
      exact h en G fr ps σ H d Q R ef fun v H' G' U s g R' r => k v H' G' s g (R'.push hf r)
    · cases e
theorem GdV.q' (h : GdV cn t f) (hf : ∀ ps d, f ps = some d → d.isF = true) : GdQ cn t f := fun en G fr ps σ H d Q R e k =>
  h en G fr ps σ H d Q R e fun v H' G' U s g R' r => k v H' G' s g (R'.push (hf ps d e) r)
theorem GdQ.g (h : GdQ cn t f) : GdG cn t (gQ f) := fun en G fr ps σ H d ps' Q R e k => by
  unfold gQ at e
  cases ef : f ps with
  | none => rw [ef] at e; cases e
  | some x =>
    rw [ef] at e
    cases e
    exact h en G fr ps σ H d Q R ef fun v H' G' s g R' => k v H' G' R'
theorem GdQ.fz (h : GdQ cn t f) : GdQ cn t (qFz f) := fun en G fr ps σ H d Q R e k => by
  unfold qFz at e
  cases ef : f ps with
  | none => rw [ef] at e; cases e
  | some x =>
    rw [ef] at e
    cases e
    exact h en G fr ps σ H x Q R ef fun v H' G' s g R' => let ⟨G2, g2, R2⟩ := R'.fz; k v H' G2 s (fun a z => g2 a (g a z)) R2
theorem GdG.fz {f : GE} (h : GdG cn t f) : GdG cn t (gFz f) := fun en G fr ps σ H d ps' Q R e k => by
  unfold gFz at e
  cases ef : f ps with
  | none => rw [ef] at e; cases e
  | some x =>
    rw [ef] at e
    cases e
    exact h en G fr ps σ H x.1 x.2 Q R ef fun v H' G' R' => let ⟨G2, g2, R2⟩ := R'.fz; k v H' G2 R2
theorem GdT.g {t : TT} {f : QT} (h : GdT cn t f) : GdTG cn t (tQ f) := fun en G fr ps σ H b ps' Q R e k => by
  unfold tQ at e
  cases ef : f ps with
  | none => rw [ef] at e; cases e
  | some x =>
    rw [ef] at e
    cases e
    exact h en G fr ps σ H b Q R ef fun H' G' s g R' => k H' G' R'
/-! ### operators -/
def Op2 (cn : Cn) (r : R2) (g : D → D → Option D) : Prop := ∀ (en : Ent) (G : Addr → Prop) (fr : List (V × D)) (ps : PS) (σ : L2.St) (H : Hp) (x y : V) (a b : D) (U W : List Addr) (d : D) (Q : VK), RR cn en G fr ps σ H → Rep cn G H a x U → Rep cn G H b y W → g a b = some d →
  (∀ v H' G', Same H H' → (∀ a, G a → G' a) → RR cn en G' ((v, d) :: fr) ps σ H' → Q v H') → r x y H Q
/-- .. whose answer is only seen -/
def Op2V (cn : Cn) (r : R2) (g : D → D → Option D) : Prop := ∀ (G : Addr → Prop) (H : Hp) (x y : V) (a b : D) (U W : List Addr) (d : D) (Q : VK), Rep cn G H a x U → Rep cn G H b y W → g a b = some d →
  (∀ v U, Rep cn G H d v U → Q v H) → r x y H Q
def Op1 (cn : Cn) (r : V → Hp → VK → Prop) (g : D → Option D) : Prop := ∀ (en : Ent) (G : Addr → Prop) (fr : List (V × D)) (ps : PS) (σ : L2.St) (H : Hp) (x : V) (a : D) (U : List Addr) (d : D) (Q : VK), RR cn en G fr ps σ H → Rep cn G H a x U → g a = some d →
  (∀ v H' G', Same H H' → (∀ a, G a → G' a) → RR cn en G' ((v, d) :: fr) ps σ H' → Q v H') → r x H Q
/-- a call by values -/
def CaN (cn : Cn) (r : List V → Hp → VK → Prop) (g : List D → Option D) : Prop := ∀ (en : Ent) (G : Addr → Prop) (fr : List (V × D)) (ps : PS) (σ : L2.St) (H : Hp) (vs : List V) (ds : List D) (d : D) (Q : VK), RR cn en G fr ps σ H → RepW cn G H ds vs → g ds = some d →
  (∀ v H' G', Same H H' → (∀ a, G a → G' a) → RR cn en G' ((v, d) :: fr) ps σ H' → Q v H') → r vs H Q
theorem Op2V.op {r : R2} {g : D → D → Option D} (h : Op2V cn r g) (hf : ∀ a b d, g a b = some d → d.isF = true) : Op2 cn r g := fun en G fr ps σ H x y a b U W d Q R r1 r2 e k =>
  h G H x y a b U W d Q r1 r2 e fun v U' r' => k v H G (Same.refl H) (fun _ z => z) (R.push (hf a b d e) r')
/-- plain things are values -/
def atV : D → Option V
  | .non => some .non
  | .bl b => some (.bl b)
  | .int i => some (.int i)
  | .str s => some (.str s)
  | _ => none
theorem atV_rep {G : Addr → Prop} {H : Hp} {d : D} {v : V} (h : atV d = some v) : Rep cn G H d v [] := by
  cases d <;> simp only [atV] at h <;> (first | (cases h; simp [Rep]; done) | cases h)
theorem atV_isF {d : D} {v : V} (h : atV d = some v) : d.isF = true := by
  cases d <;> simp only [atV] at h <;> (first | (simp only [D.isF]; done) | cases h)
theorem rep_atV {G : Addr → Prop} {H : Hp} {d : D} {v w : V} {U : List Addr} (h : atV d = some v) (r : Rep cn G H d w U) : w = v ∧ U = [] := by
  cases d <;> simp only [atV] at h <;> (first | (cases h; simp only [Rep] at r; exact r) | cases h)
theorem rep_int {G : Addr → Prop} {H : Hp} {i : Int} {w : V} {U : List Addr} (r : Rep cn G H (.int i) w U) : w = .int i := by simp only [Rep] at r; exact r.1
theorem rep_str {G : Addr → Prop} {H : Hp} {i : Str} {w : V} {U : List Addr} (r : Rep cn G H (.str i) w U) : w = .str i := by simp only [Rep] at r; exact r.1
theorem rep_bl {G : Addr → Prop} {H : Hp} {i : Bool} {w : V} {U : List Addr} (r : Rep cn G H (.bl i) w U) : w = .bl i := by simp only [Rep] at r; exact r.1
theorem rep_non {G : Addr → Prop} {H : Hp} {w : V} {U : List Addr} (r : Rep cn G H .non w U) : w = .non := by simp only [Rep] at r; exact r.1
/-- of two ints -/
theorem op2_I {r : R2} {g : Int → Int → Option D} (h : ∀ i j d, g i j = some d → ∃ v, atV d = some v ∧ ∀ (H : Hp) (Q : VK), Q v H → r (.int i) (.int j) H Q) : Op2 cn r (dI2 g) := by
  intro en G fr ps σ H x y a b U W d Q R r1 r2 e k
  unfold dI2 at e
  split at e
  · cases rep_int r1
    cases rep_int r2
    obtain ⟨v, hv, q⟩ := h _ _ _ e
    exact q H Q (k v H G (Same.refl H) (fun _ z => z) (R.push (atV_isF hv) (atV_rep hv)))
  · cases e
/-! ### new objects -/
theorem RR.newLst {en : Ent} {G : Addr → Prop} {fr : List (V × D)} {ps : PS} {σ : L2.St} {H : Hp} {ds : List D} {vs : List V} {p : Addr} (o : Bool) (R : RR cn en G fr ps σ H) (hp : H p = none) (r : RepL cn G H ds vs []) :
    ∃ G', (∀ a, G a → G' a) ∧ RR cn en G' ((.ref p, .lst o ds) :: fr) ps σ (upd H p (.lst vs)) := by
  have s : Same H (upd H p (.lst vs)) := fun b x e => by rw [upd_ne (ne_of_none e hp)]; exact e
  cases o with
  | false =>
    refine ⟨orG G [p], fun _ z => .inl z, RR.xnew (N := []) (cs := []) (cs' := [(.ref p, .lst false ds)]) R hp (fun _ z => .inl z) (fun b z => z.elim .inl fun q => .inr (by simpa using q)) (fun _ z => nomatch z) (by simp) fun Sc hc => ?_⟩
    have := r.same (G' := orG G [p]) R.dom s (fun _ z => .inl z)
    refine ⟨[], ?_, fun b => by simp⟩
    simp only [RepF, Rep]
    exact ⟨[], [], rfl, ⟨p, vs, [], rfl, upd_same, this, Own.mkF (.inr (by simp))⟩, rfl⟩
  | true =>
    refine ⟨G, fun _ z => z, RR.xnew (N := [p]) (cs := []) (cs' := [(.ref p, .lst true ds)]) R hp (fun _ z => z) (fun b z => .inl z) (fun b z => ?_) (by simp) fun Sc hc => ?_⟩
    · have e : b = p := by simpa using z
      exact ⟨e, fun q => R.dom b q (by rw [e]; exact hp)⟩
    · have := r.same (G' := G) R.dom s (fun _ z => z)
      refine ⟨[p], ?_, fun b => by simp⟩
      simp only [RepF, Rep]
      exact ⟨[p], [], rfl, ⟨p, vs, [], rfl, upd_same, this, Own.mkT⟩, rfl⟩
theorem RR.newTup {en : Ent} {G : Addr → Prop} {fr : List (V × D)} {ps : PS} {σ : L2.St} {H : Hp} {ds : List D} {vs : List V} {p : Addr} (R : RR cn en G fr ps σ H) (hp : H p = none) (r : RepL cn G H ds vs []) :
    ∃ G', (∀ a, G a → G' a) ∧ RR cn en G' ((.ref p, .tup ds) :: fr) ps σ (upd H p (.tup vs)) := by
  have s : Same H (upd H p (.tup vs)) := fun b x e => by rw [upd_ne (ne_of_none e hp)]; exact e
  refine ⟨orG G [p], fun _ z => .inl z, RR.xnew (N := []) (cs := []) (cs' := [(.ref p, .tup ds)]) R hp (fun _ z => .inl z) (fun b z => z.elim .inl fun q => .inr (by simpa using q)) (fun _ z => nomatch z) (by simp) fun Sc hc => ?_⟩
  have := r.same (G' := orG G [p]) R.dom s (fun _ z => .inl z)
  refine ⟨[], ?_, fun b => by simp⟩
  simp only [RepF, Rep]
  exact ⟨[], [], rfl, ⟨p, vs, rfl, .inr (by simp), upd_same, this⟩, rfl⟩
theorem RR.newDic {en : Ent} {G : Addr → Prop} {fr : List (V × D)} {ps : PS} {σ : L2.St} {H : Hp} {p : Addr} (t : Bool) (R : RR cn en G fr ps σ H) (hp : H p = none) :
    RR cn en G ((.ref p, .dic true t [] []) :: fr) ps σ (upd H p (if t then .dT [] else .dK [])) := by
  refine RR.xnew (N := [p]) (cs := []) (cs' := [(.ref p, .dic true t [] [])]) R hp (fun _ z => z) (fun b z => .inl z) (fun b z => ?_) (by simp) fun Sc hc => ?_
  · have e : b = p := by simpa using z
    exact ⟨e, fun q => R.dom b q (by rw [e]; exact hp)⟩
  · refine ⟨[p], ?_, fun b => by simp⟩
    simp only [RepF, Rep, RepL]
    refine ⟨[p], [], rfl, ⟨p, [], [], rfl, ?_, ⟨rfl, rfl⟩, Own.mkT⟩, rfl⟩
    cases t with
    | true => unfold DicAt; rw [if_pos rfl]; exact ⟨[], upd_same, rfl, rfl⟩
    | false => unfold DicAt; rw [if_neg (by decide)]; exact ⟨[], upd_same, rfl, rfl⟩
end
/-! ### the readings -/
section
variable {cn : Cn} {ta tb tc : TE} {fa fb fc : QE} {σ : L2.St}
theorem gd_op2 {r : R2} {g : D → D → Option D} (ho : Op2 cn r g) (ha : GdV cn ta fa) (hb : GdV cn tb fb) : GdQ cn (tOp r ta tb) (q2 g fa fb) := by
  intro en G fr ps σ H d Q R e k
  unfold q2 at e
  cases ea : fa ps with
  | none => rw [ea] at e; cases e
  | some x =>
    cases eb : fb ps with
    | none => rw [ea, eb] at e; cases e
    | some y =>
      rw [ea, eb] at e
      refine ha en G fr ps σ H x _ R ea fun v H1 G1 U s1 g1 R1 r1 => ?_
      refine hb en G1 fr ps σ H1 y _ R1 eb fun w H2 G2 W s2 g2 R2 r2 => ?_
      exact ho en G2 fr ps σ H2 v w x y U W d Q R2 (r1.same R1.dom s2 g2) r2 e fun z H3 G3 s3 g3 R3 => k z H3 G3 (s1.trans (s2.trans s3)) (fun a q => g3 a (g2 a (g1 a q))) R3
theorem gd_op2v {r : R2} {g : D → D → Option D} (ho : Op2V cn r g) (ha : GdV cn ta fa) (hb : GdV cn tb fb) : GdV cn (tOp r ta tb) (q2 g fa fb) := by
  intro en G fr ps σ H d Q R e k
  unfold q2 at e
  cases ea : fa ps with
  | none => rw [ea] at e; cases e
  | some x =>
    cases eb : fb ps with
    | none => rw [ea, eb] at e; cases e
    | some y =>
      rw [ea, eb] at e
      refine ha en G fr ps σ H x _ R ea fun v H1 G1 U s1 g1 R1 r1 => ?_
      refine hb en G1 fr ps σ H1 y _ R1 eb fun w H2 G2 W s2 g2 R2 r2 => ?_
      exact ho G2 H2 v w x y U W d Q (r1.same R1.dom s2 g2) r2 e fun z Z r3 => k z H2 G2 Z (s1.trans s2) (fun a q => g2 a (g1 a q)) R2 r3
theorem gd_op2g {r : R2} {g : D → D → Option D} {fa fb : GE} (ho : Op2 cn r g) (ha : GdG cn ta fa) (hb : GdG cn tb fb) : GdG cn (tOp r ta tb) (g2 g fa fb) := by
  intro en G fr ps σ H d ps' Q R e k
  unfold g2 at e
  cases ea : fa ps with
  | none => rw [ea] at e; cases e
  | some x =>
    rw [ea] at e
    simp only [Option.bind_some] at e
    cases eb : fb x.2 with
    | none => rw [eb] at e; cases e
    | some y =>
      rw [eb] at e
      simp only [Option.bind_some] at e
      cases eg : g x.1 y.1 with
      | none => rw [eg] at e; cases e
      | some z =>
        rw [eg] at e
        cases e
        refine ha en G fr ps σ H x.1 x.2 _ R ea fun v H1 G1 R1 => ?_
        refine hb en G1 _ x.2 σ H1 y.1 y.2 _ R1 eb fun w H2 G2 R2 => ?_
        obtain ⟨W, r2⟩ := R2.view
        obtain ⟨U, r1⟩ := R2.drop.view
        exact ho en G2 _ y.2 σ H2 v w x.1 y.1 U W d Q R2 r1 r2 eg fun u H3 G3 s3 g3 R3 => k u H3 G3 (RR.drop (RR.drop (RR.perm (fr' := (w, y.1) :: (v, x.1) :: (u, d) :: fr) (by
          refine List.Perm.trans (List.Perm.swap _ _ _) ?_
          exact List.Perm.cons _ (List.Perm.swap _ _ _)) R3)))
/-- .. the first one a slot's content -/
theorem gd_op2s {r : R2} {g : D → D → Option D} {i : Nat} {fb : GE} (ho : Op2 cn r g) (hb : GdG cn tb fb) : GdG cn (tOp r (tVar i) tb) (g2S g i fb) := by
  intro en G fr ps σ H d ps' Q R e k
  unfold g2S at e
  cases e0 : rd ps i with
  | none => rw [e0] at e; cases e
  | some x0 =>
    rw [e0] at e
    simp only [Option.bind_some] at e
    cases eb : fb ps with
    | none => rw [eb] at e; cases e
    | some y =>
      rw [eb] at e
      simp only [Option.bind_some] at e
      cases e1 : rd y.2 i with
      | none => rw [e1] at e; cases e
      | some x =>
        rw [e1] at e
        simp only [Option.bind_some] at e
        cases eg : g x y.1 with
        | none => rw [eg] at e; cases e
        | some z =>
          rw [eg] at e
          cases e
          obtain ⟨v, U0, hv, _⟩ := R.rd e0
          refine ⟨v, hv, ?_⟩
          refine hb en G fr ps σ H y.1 y.2 _ R eb fun w H2 G2 R2 => ?_
          obtain ⟨W, r2⟩ := R2.view
          obtain ⟨v', U, hv', r1⟩ := R2.rd e1
          rw [hv] at hv'
          cases hv'
          exact ho en G2 _ y.2 σ H2 v w x y.1 U W d Q R2 r1 r2 eg fun u H3 G3 s3 g3 R3 => k u H3 G3 (RR.drop (RR.perm (List.Perm.swap _ _ _) R3))
theorem gd_op1 {r : V → Hp → VK → Prop} {g : D → Option D} (ho : Op1 cn r g) (ha : GdV cn ta fa) : GdQ cn (tUn r ta) (q1 g fa) := by
  intro en G fr ps σ H d Q R e k
  unfold q1 at e
  cases ea : fa ps with
  | none => rw [ea] at e; cases e
  | some x =>
    rw [ea] at e
    refine ha en G fr ps σ H x _ R ea fun v H1 G1 U s1 g1 R1 r1 => ?_
    exact ho en G1 fr ps σ H1 v x U d Q R1 r1 e fun z H3 G3 s3 g3 R3 => k z H3 G3 (s1.trans s3) (fun a q => g3 a (g1 a q)) R3
/-! arguments -/
theorem gd_nil : GdA cn tNil (qAs []) := fun en G fr ps σ H ds Q R e k => by
  cases e
  exact k [] H G (Same.refl H) (fun _ z => z) R rfl
theorem gd_cons {tr : TA} {as : List QE} (ha : GdV cn ta fa) (hr : GdA cn tr (qAs as)) : GdA cn (tCons ta tr) (qAs (fa :: as)) := by
  intro en G fr ps σ H ds Q R e k
  simp only [qAs] at e
  cases ea : fa ps with
  | none => rw [ea] at e; cases e
  | some x =>
    rw [ea] at e
    simp only [Option.bind_some] at e
    cases er : qAs as ps with
    | none => rw [er] at e; cases e
    | some xs =>
      rw [er] at e
      cases e
      refine ha en G fr ps σ H x _ R ea fun v H1 G1 U s1 g1 R1 r1 => ?_
      refine hr en G1 fr ps σ H1 xs _ R1 er fun vs H2 G2 s2 g2 R2 r2 => ?_
      refine k (v :: vs) H2 G2 (s1.trans s2) (fun a q => g2 a (g1 a q)) R2 ?_
      simp only [RepW]
      exact ⟨v, vs, U, rfl, r1.same R1.dom s2 g2, r2⟩
theorem gd_nilG : GdAG cn tNil (gAs []) := fun en G fr ps σ H ds ps' Q R e k => by
  cases e
  exact k [] H G rfl R
theorem gd_consG {tr : TA} {fa : GE} {as : List GE} (ha : GdG cn ta fa) (hr : GdAG cn tr (gAs as)) : GdAG cn (tCons ta tr) (gAs (fa :: as)) := by
  intro en G fr ps σ H ds ps' Q R e k
  simp only [gAs] at e
  cases ea : fa ps with
  | none => rw [ea] at e; cases e
  | some x =>
    rw [ea] at e
    simp only [Option.bind_some] at e
    cases er : gAs as x.2 with
    | none => rw [er] at e; cases e
    | some xs =>
      rw [er] at e
      cases e
      refine ha en G fr ps σ H x.1 x.2 _ R ea fun v H1 G1 R1 => ?_
      refine hr en G1 _ x.2 σ H1 xs.1 xs.2 _ R1 er fun vs H2 G2 hl R2 => ?_
      refine k (v :: vs) H2 G2 (by simp [hl]) (RR.perm ?_ R2)
      show List.Perm (vs.zip xs.1 ++ (v, x.1) :: fr) ((v, x.1) :: (vs.zip xs.1 ++ fr))
      exact List.perm_middle
/-! calls by values -/
theorem gd_call {r : List V → Hp → VK → Prop} {g : List D → Option D} {t : TA} {as : List QE} (ho : CaN cn r g) (ha : GdA cn t (qAs as)) : GdQ cn (tCB r t) (qCall g as) := by
  intro en G fr ps σ H d Q R e k
  unfold qCall at e
  cases ea : qAs as ps with
  | none => rw [ea] at e; cases e
  | some xs =>
    rw [ea] at e
    refine ha en G fr ps σ H xs _ R ea fun vs H1 G1 s1 g1 R1 r1 => ?_
    exact ho en G1 fr ps σ H1 vs xs d Q R1 r1 e fun z H3 G3 s3 g3 R3 => k z H3 G3 (s1.trans s3) (fun a q => g3 a (g1 a q)) R3
/-- a builtin's call with arguments that may change the state -/
@[simp] def gB (g : List D → Option D) (as : List GE) : GE := fun σ => (gAs as σ).bind fun x => (g x.1).map (·, x.2)
theorem gd_callG {r : List V → Hp → VK → Prop} {g : List D → Option D} {t : TA} {as : List GE} (ho : CaN cn r g) (ha : GdAG cn t (gAs as)) : GdG cn (tCB r t) (gB g as) := by
  intro en G fr ps σ H d ps' Q R e k
  unfold gB at e
  cases ea : gAs as ps with
  | none => rw [ea] at e; cases e
  | some xs =>
    rw [ea] at e
    simp only [Option.bind_some] at e
    cases eg : g xs.1 with
    | none => rw [eg] at e; cases e
    | some z =>
      rw [eg] at e
      cases e
      refine ha en G fr ps σ H xs.1 xs.2 _ R ea fun vs H1 G1 hl R1 => ?_
      refine ho en G1 _ xs.2 σ H1 vs xs.1 d Q R1 (RR.w hl R1) eg fun u H3 G3 s3 g3 R3 => k u H3 G3 ?_
      exact RR.dropL (cs := vs.zip xs.1) (RR.perm (fr' := vs.zip xs.1 ++ (u, d) :: fr) List.perm_middle.symm R3)
theorem seq_le {cn : Cn} {G : Addr → Prop} {H : Hp} {n : Nat} {ds : List D} {vs : List V} {S : List Addr} (r : RepL cn G H ds vs S) (h : ds.length ≤ n) : vs.length ≤ n := by rw [← r.length]; exact h
theorem cap_le : cap ≤ sizeLine := by rw [sizeLine_eq]; decide
theorem gd_tup {t : TA} {as : List QE} (ha : GdA cn t (qAs as)) (hl : as.length ≤ 1000) : GdQ cn (tTup t) (qTup as) := by
  intro en G fr ps σ H d Q R e k
  unfold qTup at e
  cases ea : qAs as ps with
  | none => rw [ea] at e; cases e
  | some xs =>
    rw [ea] at e
    simp only [Option.bind_some] at e
    split at e
    · rename_i hf
      cases e
      refine ha en G fr ps σ H xs _ R ea fun vs H1 G1 s1 g1 R1 r1 => ?_
      have rl := r1.l hf
      have len : ∀ {as : List QE} {xs : List D}, qAs as ps = some xs → xs.length = as.length := by
        intro as
        induction as with
        | nil => intro xs e; cases e; rfl
        | cons a as ih =>
          intro xs e
          simp only [qAs] at e
          cases e1 : a ps with
          | none => rw [e1] at e; cases e
          | some y =>
            rw [e1] at e
            simp only [Option.bind_some] at e
            cases e2 : qAs as ps with
            | none => rw [e2] at e; cases e
            | some ys => rw [e2] at e; cases e; rw [List.length_cons, List.length_cons, ih e2]
      refine ⟨seq_le rl (by rw [len ea]; exact Nat.le_trans hl (by rw [sizeLine_eq]; decide)), fun p hp => ?_⟩
      obtain ⟨G2, g2, R2⟩ := R1.newTup hp rl
      exact k _ _ G2 (s1.trans fun b x e => by rw [upd_ne (ne_of_none e hp)]; exact e) (fun a q => g2 a (g1 a q)) R2
    · cases e
theorem gd_lst {t : TA} {o : Bool} {as : List QE} (ha : GdA cn t (qAs as)) (hl : as.length ≤ 1000) : GdQ cn (tLst t) (qLst o as) := by
  intro en G fr ps σ H d Q R e k
  unfold qLst at e
  cases ea : qAs as ps with
  | none => rw [ea] at e; cases e
  | some xs =>
    rw [ea] at e
    simp only [Option.bind_some] at e
    split at e
    · rename_i hf
      cases e
      refine ha en G fr ps σ H xs _ R ea fun vs H1 G1 s1 g1 R1 r1 => ?_
      have rl := r1.l hf
      have len : ∀ {as : List QE} {xs : List D}, qAs as ps = some xs → xs.length = as.length := by
        intro as
        induction as with
        | nil => intro xs e; cases e; rfl
        | cons a as ih =>
          intro xs e
          simp only [qAs] at e
          cases e1 : a ps with
          | none => rw [e1] at e; cases e
          | some y =>
            rw [e1] at e
            simp only [Option.bind_some] at e
            cases e2 : qAs as ps with
            | none => rw [e2] at e; cases e
            | some ys => rw [e2] at e; cases e; rw [List.length_cons, List.length_cons, ih e2]
      refine ⟨seq_le rl (by rw [len ea]; exact Nat.le_trans hl (by rw [sizeLine_eq]; decide)), fun p hp => ?_⟩
      obtain ⟨G2, g2, R2⟩ := R1.newLst o hp rl
      exact k _ _ G2 (s1.trans fun b x e => by rw [upd_ne (ne_of_none e hp)]; exact e) (fun a q => g2 a (g1 a q)) R2
    · cases e
theorem gAs_len : ∀ {as : List GE} {ps ps' : PS} {xs : List D}, gAs as ps = some (xs, ps') → xs.length = as.length
  | [], _, _, _, e => by cases e; rfl
  | a :: as, ps, ps', xs, e => by
    simp only [gAs] at e
    cases e1 : a ps with
    | none => rw [e1] at e; cases e
    | some y =>
      rw [e1] at e
      simp only [Option.bind_some] at e
      cases e2 : gAs as y.2 with
      | none => rw [e2] at e; cases e
      | some ys => rw [e2] at e; cases e; rw [List.length_cons, List.length_cons, gAs_len e2]
theorem gd_tupG {t : TA} {as : List GE} (ha : GdAG cn t (gAs as)) (hl : as.length ≤ 1000) : GdG cn (tTup t) (gTup as) := by
  intro en G fr ps σ H d ps' Q R e k
  unfold gTup at e
  cases ea : gAs as ps with
  | none => rw [ea] at e; cases e
  | some xs =>
    rw [ea] at e
    simp only [Option.bind_some] at e
    split at e
    · rename_i hf
      cases e
      refine ha en G fr ps σ H xs.1 xs.2 _ R ea fun vs H1 G1 hvl R1 => ?_
      have rl := (RR.w hvl R1).l hf
      refine ⟨seq_le rl (by rw [gAs_len ea]; exact Nat.le_trans hl (by rw [sizeLine_eq]; decide)), fun p hp => ?_⟩
      obtain ⟨G2, g2, R2⟩ := R1.newTup hp rl
      exact k _ _ G2 (RR.dropL (cs := vs.zip xs.1) (RR.perm List.perm_middle.symm R2))
    · cases e
theorem gd_lstG {t : TA} {o : Bool} {as : List GE} (ha : GdAG cn t (gAs as)) (hl : as.length ≤ 1000) : GdG cn (tLst t) (gLst o as) := by
  intro en G fr ps σ H d ps' Q R e k
  unfold gLst at e
  cases ea : gAs as ps with
  | none => rw [ea] at e; cases e
  | some xs =>
    rw [ea] at e
    simp only [Option.bind_some] at e
    split at e
    · rename_i hf
      cases e
      refine ha en G fr ps σ H xs.1 xs.2 _ R ea fun vs H1 G1 hvl R1 => ?_
      have rl := (RR.w hvl R1).l hf
      refine ⟨seq_le rl (by rw [gAs_len ea]; exact Nat.le_trans hl (by rw [sizeLine_eq]; decide)), fun p hp => ?_⟩
      obtain ⟨G2, g2, R2⟩ := R1.newLst o hp rl
      exact k _ _ G2 (RR.dropL (cs := vs.zip xs.1) (RR.perm List.perm_middle.symm R2))
    · cases e
/-! tests -/
theorem gd_val {f : QE} (h : GdV cn ta f) : GdT cn (tB ta) (qT f) := by
  intro en G fr ps σ H b Q R e k
  unfold qT at e
  cases ef : f ps with
  | none => rw [ef] at e; cases e
  | some x =>
    rw [ef] at e
    cases x <;> simp only [Option.bind_some] at e <;> cases e
    exact h en G fr ps σ H _ _ R ef fun v H' G' U s g R' r => ⟨_, rep_bl r, k H' G' s g R'⟩
theorem gd_test {f : QE} (h : GdV cn ta f) : GdT cn (tTest ta) (qT f) := by
  intro en G fr ps σ H b Q R e k
  unfold qT at e
  cases ef : f ps with
  | none => rw [ef] at e; cases e
  | some x =>
    rw [ef] at e
    cases x <;> simp only [Option.bind_some] at e <;> cases e
    exact h en G fr ps σ H _ _ R ef fun v H' G' U s g R' r => ⟨_, rep_bl r, k H' G' s g R'⟩
theorem gd_valG {f : GE} (h : GdG cn ta f) : GdTG cn (tB ta) (gT f) := by
  intro en G fr ps σ H b ps' Q R e k
  unfold gT at e
  cases ef : f ps with
  | none => rw [ef] at e; cases e
  | some x =>
    rw [ef] at e
    obtain ⟨x1, x2⟩ := x
    cases x1 <;> simp only [Option.bind_some] at e <;> cases e
    exact h en G fr ps σ H _ _ _ R ef fun v H' G' R' => let ⟨U, r⟩ := R'.view; ⟨_, rep_bl r, k H' G' R'.drop⟩
theorem gd_testG {f : GE} (h : GdG cn ta f) : GdTG cn (tTest ta) (gT f) := by
  intro en G fr ps σ H b ps' Q R e k
  unfold gT at e
  cases ef : f ps with
  | none => rw [ef] at e; cases e
  | some x =>
    rw [ef] at e
    obtain ⟨x1, x2⟩ := x
    cases x1 <;> simp only [Option.bind_some] at e <;> cases e
    exact h en G fr ps σ H _ _ _ R ef fun v H' G' R' => let ⟨U, r⟩ := R'.view; ⟨_, rep_bl r, k H' G' R'.drop⟩
theorem gd_and {t u : TT} {f g : QT} (h1 : GdT cn t f) (h2 : GdT cn u g) : GdT cn (tAnd t u) (qAnd f g) := by
  intro en G fr ps σ H b Q R e k
  unfold qAnd at e
  cases ef : f ps with
  | none => rw [ef] at e; cases e
  | some c =>
    rw [ef] at e
    refine h1 en G fr ps σ H c _ R ef fun H1 G1 s1 g1 R1 => ?_
    cases c with
    | true => exact h2 en G1 fr ps σ H1 b Q R1 e fun H2 G2 s2 g2 R2 => k H2 G2 (s1.trans s2) (fun a q => g2 a (g1 a q)) R2
    | false => cases e; exact k H1 G1 s1 g1 R1
theorem gd_or {t u : TT} {f g : QT} (h1 : GdT cn t f) (h2 : GdT cn u g) : GdT cn (tOr t u) (qOr f g) := by
  intro en G fr ps σ H b Q R e k
  unfold qOr at e
  cases ef : f ps with
  | none => rw [ef] at e; cases e
  | some c =>
    rw [ef] at e
    refine h1 en G fr ps σ H c _ R ef fun H1 G1 s1 g1 R1 => ?_
    cases c with
    | false => exact h2 en G1 fr ps σ H1 b Q R1 e fun H2 G2 s2 g2 R2 => k H2 G2 (s1.trans s2) (fun a q => g2 a (g1 a q)) R2
    | true => cases e; exact k H1 G1 s1 g1 R1
theorem gd_not {t : TT} {f : QT} (h1 : GdT cn t f) : GdT cn (tNot t) (qNot f) := by
  intro en G fr ps σ H b Q R e k
  unfold qNot at e
  cases ef : f ps with
  | none => rw [ef] at e; cases e
  | some c =>
    rw [ef] at e
    cases e
    exact h1 en G fr ps σ H c _ R ef k
theorem gd_andG {t u : TT} {f g : GT} (h1 : GdTG cn t f) (h2 : GdTG cn u g) : GdTG cn (tAnd t u) (gAnd f g) := by
  intro en G fr ps σ H b ps' Q R e k
  unfold gAnd at e
  cases ef : f ps with
  | none => rw [ef] at e; cases e
  | some c =>
    rw [ef] at e
    obtain ⟨c, ps1⟩ := c
    refine h1 en G fr ps σ H c ps1 _ R ef fun H1 G1 R1 => ?_
    cases c with
    | true => exact h2 en G1 fr ps1 σ H1 b ps' Q R1 e k
    | false => cases e; exact k H1 G1 R1
theorem gd_orG {t u : TT} {f g : GT} (h1 : GdTG cn t f) (h2 : GdTG cn u g) : GdTG cn (tOr t u) (gOr f g) := by
  intro en G fr ps σ H b ps' Q R e k
  unfold gOr at e
  cases ef : f ps with
  | none => rw [ef] at e; cases e
  | some c =>
    rw [ef] at e
    obtain ⟨c, ps1⟩ := c
    refine h1 en G fr ps σ H c ps1 _ R ef fun H1 G1 R1 => ?_
    cases c with
    | false => exact h2 en G1 fr ps1 σ H1 b ps' Q R1 e k
    | true => cases e; exact k H1 G1 R1
theorem gd_notG {t : TT} {f : GT} (h1 : GdTG cn t f) : GdTG cn (tNot t) (gNot f) := by
  intro en G fr ps σ H b ps' Q R e k
  unfold gNot at e
  cases ef : f ps with
  | none => rw [ef] at e; cases e
  | some c =>
    rw [ef] at e
    cases e
    exact h1 en G fr ps σ H c.1 c.2 _ R ef k
/-- and, or, not as values -/
theorem gd_andV {f g : QE} (h1 : GdV cn ta f) (h2 : GdV cn tb g) : GdQ cn (tAndV ta tb) (qV (qAnd (qT f) (qT g))) := by
  intro en G fr ps σ H d Q R e k
  unfold qV qAnd qT at e
  cases ef : f ps with
  | none => rw [ef] at e; cases e
  | some x =>
    rw [ef] at e
    cases x <;> simp only [Option.bind_some] at e <;> try (cases e; done)
    rename_i c
    refine h1 en G fr ps σ H _ _ R ef fun v H1 G1 U s1 g1 R1 r1 => ⟨c, rep_bl r1, ?_⟩
    cases c with
    | true =>
      simp only [Option.bind_some, if_true] at e
      cases eg : g ps with
      | none => rw [eg] at e; cases e
      | some y =>
        rw [eg] at e
        cases y <;> simp only [Option.bind_some] at e <;> try (cases e; done)
        cases e
        exact h2 en G1 fr ps σ H1 _ _ R1 eg fun w H2 G2 W s2 g2 R2 r2 => by
          rw [rep_bl r2]
          exact k _ H2 G2 (s1.trans s2) (fun a q => g2 a (g1 a q)) (R2.push (v := .bl _) rfl (atV_rep rfl))
    | false =>
      cases e
      exact k _ H1 G1 s1 g1 (R1.push (v := .bl false) rfl (atV_rep rfl))
theorem gd_orV {f g : QE} (h1 : GdV cn ta f) (h2 : GdV cn tb g) : GdQ cn (tOrV ta tb) (qV (qOr (qT f) (qT g))) := by
  intro en G fr ps σ H d Q R e k
  unfold qV qOr qT at e
  cases ef : f ps with
  | none => rw [ef] at e; cases e
  | some x =>
    rw [ef] at e
    cases x <;> simp only [Option.bind_some] at e <;> try (cases e; done)
    rename_i c
    refine h1 en G fr ps σ H _ _ R ef fun v H1 G1 U s1 g1 R1 r1 => ⟨c, rep_bl r1, ?_⟩
    cases c with
    | false =>
      try simp only [Option.bind_some] at e
      cases eg : g ps with
      | none => rw [eg] at e; cases e
      | some y =>
        rw [eg] at e
        cases y <;> simp only [Option.bind_some] at e <;> try (cases e; done)
        cases e
        exact h2 en G1 fr ps σ H1 _ _ R1 eg fun w H2 G2 W s2 g2 R2 r2 => by
          rw [rep_bl r2]
          exact k _ H2 G2 (s1.trans s2) (fun a q => g2 a (g1 a q)) (R2.push (v := .bl _) rfl (atV_rep rfl))
    | true =>
      cases e
      exact k _ H1 G1 s1 g1 (R1.push (v := .bl true) rfl (atV_rep rfl))
theorem gd_notV {f : QE} (h1 : GdV cn ta f) : GdQ cn (tNotV ta) (qV (qNot (qT f))) := by
  intro en G fr ps σ H d Q R e k
  unfold qV qNot qT at e
  cases ef : f ps with
  | none => rw [ef] at e; cases e
  | some x =>
    rw [ef] at e
    cases x <;> simp only [Option.bind_some] at e <;> try (cases e; done)
    rename_i c
    cases e
    exact h1 en G fr ps σ H _ _ R ef fun v H1 G1 U s1 g1 R1 r1 => ⟨c, rep_bl r1, k _ H1 G1 s1 g1 (R1.push (v := .bl (!c)) rfl (atV_rep rfl))⟩
theorem gd_if {t : TT} {c : QT} {f g : QE} (hc : GdT cn t c) (h1 : GdQ cn ta f) (h2 : GdQ cn tb g) : GdQ cn (tIf t ta tb) (qIf c f g) := by
  intro en G fr ps σ H d Q R e k
  unfold qIf at e
  cases ec : c ps with
  | none => rw [ec] at e; cases e
  | some b =>
    rw [ec] at e
    refine hc en G fr ps σ H b _ R ec fun H1 G1 s1 g1 R1 => ?_
    cases b with
    | true => exact h1 en G1 fr ps σ H1 d Q R1 e fun v H2 G2 s2 g2 R2 => k v H2 G2 (s1.trans s2) (fun a q => g2 a (g1 a q)) R2
    | false => exact h2 en G1 fr ps σ H1 d Q R1 e fun v H2 G2 s2 g2 R2 => k v H2 G2 (s1.trans s2) (fun a q => g2 a (g1 a q)) R2
theorem gd_ifG {t : TT} {c : GT} {f g : GE} (hc : GdTG cn t c) (h1 : GdG cn ta f) (h2 : GdG cn tb g) : GdG cn (tIf t ta tb) (gIf c f g) := by
  intro en G fr ps σ H d ps' Q R e k
  unfold gIf at e
  cases ec : c ps with
  | none => rw [ec] at e; cases e
  | some b =>
    rw [ec] at e
    obtain ⟨b, ps1⟩ := b
    refine hc en G fr ps σ H b ps1 _ R ec fun H1 G1 R1 => ?_
    cases b with
    | true => exact h1 en G1 fr ps1 σ H1 d ps' Q R1 e k
    | false => exact h2 en G1 fr ps1 σ H1 d ps' Q R1 e k
/-- a comparison's chain of three -/
@[simp] def qChain (g g' : D → D → Option D) (a b c : QE) : QE := fun σ => (a σ).bind fun x => (b σ).bind fun y => (g x y).bind fun z => match z with
  | .bl true => (c σ).bind fun w => g' y w
  | .bl false => some (.bl false)
  | _ => none
theorem gd_chain {r r' : R2} {g g' : D → D → Option D} (ho : Op2 cn r g) (ho' : Op2 cn r' g') (ha : GdV cn ta fa) (hb : GdV cn tb fb) (hc : GdV cn tc fc) : GdQ cn (tChain r r' ta tb tc) (qChain g g' fa fb fc) := by
  intro en G fr ps σ H d Q R e k
  unfold qChain at e
  cases ea : fa ps with
  | none => rw [ea] at e; cases e
  | some x =>
    cases eb : fb ps with
    | none => rw [ea, eb] at e; cases e
    | some y =>
      rw [ea, eb] at e
      simp only [Option.bind_some] at e
      cases eg : g x y with
      | none => rw [eg] at e; cases e
      | some z =>
        rw [eg] at e
        simp only [Option.bind_some] at e
        refine ha en G fr ps σ H x _ R ea fun v H1 G1 U s1 g1 R1 r1 => ?_
        refine hb en G1 fr ps σ H1 y _ R1 eb fun w H2 G2 W s2 g2 R2 r2 => ?_
        refine ho en G2 fr ps σ H2 v w x y U W z _ R2 (r1.same R1.dom s2 g2) r2 eg fun u H3 G3 s3 g3 R3 => ?_
        obtain ⟨U3, r3⟩ := R3.view
        cases z <;> (try simp only at e) <;> try (cases e; done)
        rename_i b
        refine ⟨b, rep_bl r3, ?_⟩
        cases b with
        | true =>
          simp only [] at e
          cases ec : fc ps with
          | none => rw [ec] at e; cases e
          | some q =>
            rw [ec] at e
            rw [if_pos rfl]
            refine hc en G3 fr ps σ H3 q _ R3.drop ec fun w4 H4 G4 U4 s4 g4 R4 r4 => ?_
            exact ho' en G4 fr ps σ H4 w w4 y q W U4 d Q R4 ((r2.same R2.dom s3 g3).same R3.dom s4 g4) r4 e fun v5 H5 G5 s5 g5 R5 => k v5 H5 G5 (s1.trans (s2.trans (s3.trans (s4.trans s5)))) (fun a q => g5 a (g4 a (g3 a (g2 a (g1 a q))))) R5
        | false =>
          cases e
          rw [if_neg (by decide)]
          exact k _ H3 G3 (s1.trans (s2.trans s3)) (fun a q => g3 a (g2 a (g1 a q))) (R3.drop.push (v := .bl false) rfl (atV_rep rfl))
end
end Pv

/-! Snd4: targets, statements, loops, comprehensions, what is changed in its place. -/
namespace Pv
open PySem L2

/-! ### targets -/
/-- nothing but these slots is changed -/
def Els (is : List Nat) (σ σ' : L2.St) : Prop := σ'.length = σ.length ∧ ∀ j, j ∉ is → σ'[j]? = σ[j]?
def GdTg (cn : Cn) (g : TG) (t : Tg) : Prop := ∀ (en : Ent) (G : Addr → Prop) (fr : List (V × D)) (ps : PS) (σ : L2.St) (H : Hp) (v : V) (d : D) (ps' : PS) (Q : L2.St → Hp → Prop), RR cn en G ((v, d) :: fr) ps σ H → t.put d ps = some ps' →
  (∀ σ', Els t.sl σ σ' → RR cn en G fr ps' σ' H → Q σ' H) → g v σ H Q
def GdTgs (cn : Cn) (g : TGs) (ts : List Tg) : Prop := ∀ (en : Ent) (G : Addr → Prop) (fr : List (V × D)) (ps : PS) (σ : L2.St) (H : Hp) (vs : List V) (ds : List D) (ps' : PS) (Q : L2.St → Hp → Prop), vs.length = ds.length → RR cn en G (vs.zip ds ++ fr) ps σ H → putL ts ds ps = some ps' →
  (∀ σ', Els (slL ts) σ σ' → RR cn en G fr ps' σ' H → Q σ' H) → g vs σ H Q
section
variable {cn : Cn} {en : Ent} {G G' : Addr → Prop} {H H' : Hp} {fr fr' cs cs' : List (V × D)} {ps : PS} {σ : L2.St}
theorem RR.store' {i : Nat} {v : V} {d : D} (h : RR cn en G ((v, d) :: fr) ps σ H) : RR cn en G fr (ps.set i (.ow d)) (σ.set i (some v)) H := by
  by_cases hi : i < σ.length
  · exact h.store hi
  · rw [List.set_eq_of_length_le (by rw [h.len]; omega), List.set_eq_of_length_le (by omega)]
    exact h.drop
theorem gd_nm {i : Nat} : GdTg cn (gName i) (.nm i) := fun en G fr ps σ H v d ps' Q R e k => by
  simp only [Tg.put, Option.some.injEq] at e
  subst e
  exact k _ ⟨List.length_set .., fun j hj => List.getElem?_set_ne fun e => hj (by simp [e])⟩ R.store'
theorem gd_tnil : GdTgs cn gNil [] := fun en G fr ps σ H vs ds ps' Q hl R e k => by
  cases ds with
  | nil =>
    simp only [putL, Option.some.injEq] at e
    subst e
    have ev : vs = [] := List.eq_nil_of_length_eq_zero (by simpa using hl)
    subst ev
    exact ⟨rfl, k σ ⟨rfl, fun _ _ => rfl⟩ R⟩
  | cons d ds => simp [putL] at e
theorem gd_tcons {g : TG} {gs : TGs} {t : Tg} {ts : List Tg} (h1 : GdTg cn g t) (h2 : GdTgs cn gs ts) : GdTgs cn (gCons g gs) (t :: ts) := fun en G fr ps σ H vs ds ps' Q hl R e k => by
  cases ds with
  | nil => simp [putL] at e
  | cons d ds =>
    cases vs with
    | nil => simp at hl
    | cons v vs =>
      simp only [putL] at e
      cases ep : t.put d ps with
      | none => rw [ep] at e; cases e
      | some ps1 =>
        rw [ep] at e
        refine ⟨v, vs, rfl, ?_⟩
        exact h1 en G (vs.zip ds ++ fr) ps σ H v d ps1 _ R ep fun σ' es R' => h2 en G fr ps1 σ' H vs ds ps' Q (by simpa using hl) R' e fun σ2 es2 R2 => k σ2 ⟨es2.1.trans es.1, fun j hj => by
        simp only [slL, List.mem_append, not_or] at hj
        exact (es2.2 j hj.2).trans (es.2 j hj.1)⟩ R2
theorem RepL.zipF : ∀ {ds : List D} {vs : List V} {S : List Addr}, RepL cn G H ds vs S → RepF cn G H (vs.zip ds) S
  | [], vs, S, h => by
    simp only [RepL] at h
    rw [h.1, h.2]
    simp only [List.zip_nil_left, RepF]
  | d :: ds, vs, S, h => by
    simp only [RepL] at h
    obtain ⟨v, r, S1, S2, e1, e2, h1, h2⟩ := h
    subst e1 e2
    simp only [List.zip_cons_cons, RepF]
    exact ⟨S1, S2, rfl, h1, RepL.zipF h2⟩
theorem gd_ttp {gs : TGs} {ts : List Tg} {n : Nat} (h : GdTgs cn gs ts) (hn : n = ts.length) : GdTg cn (L2.gTup cn.K n gs) (.tp ts) := fun en G fr ps σ H v d ps' Q R e k => by
  cases d with
  | tup ds =>
    simp only [Tg.put] at e
    obtain ⟨U, r⟩ := R.view
    simp only [Rep] at r
    obtain ⟨a, vs, ev, hg, ha, rl⟩ := r
    have hlen := rl.length
    have hts : ∀ {ts : List Tg} {ds : List D} {ps ps' : PS}, putL ts ds ps = some ps' → ds.length = ts.length := by
      intro ts
      induction ts with
      | nil => intro ds ps ps' e; cases ds with
        | nil => rfl
        | cons => simp [putL] at e
      | cons t ts ih => intro ds ps ps' e; cases ds with
        | nil => simp [putL] at e
        | cons d ds =>
          simp only [putL] at e
          cases ep : t.put d ps with
          | none => rw [ep] at e; cases e
          | some ps1 => rw [ep] at e; rw [List.length_cons, List.length_cons, ih e]
    refine ⟨a, vs, ev, .inl (.inl ha), by rw [← hlen, hn, hts e], ?_⟩
    refine h en G fr ps σ H vs ds ps' Q hlen.symm ?_ e (by simpa only [Tg.sl] using k)
    refine RR.xch (cs := [(v, .tup ds)]) R fun Sc hc => ?_
    simp only [RepF, Rep] at hc
    obtain ⟨T1, T2, eT, ⟨a', vs', ev', hg', ha', rl'⟩, e2⟩ := hc
    rw [ev] at ev'
    cases ev'
    rw [ha] at ha'
    cases ha'
    exact ⟨T1, rl'.zipF, fun b => by rw [eT, List.count_append]; omega⟩
  | _ => simp [Tg.put] at e
/-! ### statements -/
def Post (cn : Cn) (en : Ent) (fr : List (V × D)) (D' : Ends) (c : Ctl) (ps' : PS) : Prop := match c with
  | .nx => ∀ σ' H' G', RR cn en G' fr ps' σ' H' → D'.nx σ' H'
  | .rt d => ∀ v σ' H' G', RR cn en G' ((v, d) :: fr) ps' σ' H' → D'.rt v H'
  | .bk => ∀ σ' H' G', RR cn en G' fr ps' σ' H' → D'.bk σ' H'
  | .ct => ∀ σ' H' G', RR cn en G' fr ps' σ' H' → D'.ct σ' H'
def GdS (cn : Cn) (t : TS) (f : S) : Prop := ∀ (en : Ent) (G : Addr → Prop) (fr : List (V × D)) (ps : PS) (σ : L2.St) (H : Hp) (D' : Ends) (c : Ctl) (ps' : PS), RR cn en G fr ps σ H → f ps = some (c, ps') → Post cn en fr D' c ps' → t D' σ H
theorem gd_next : GdS cn tNext sNx := fun en G fr ps σ H D' c ps' R e k => by
  cases e; exact k σ H G R
theorem gd_brk : GdS cn tBreak sBk := fun en G fr ps σ H D' c ps' R e k => by
  cases e; exact k σ H G R
theorem gd_cont : GdS cn tCont sCt := fun en G fr ps σ H D' c ps' R e k => by
  cases e; exact k σ H G R
theorem gd_seq {t u : TS} {f g : S} (h1 : GdS cn t f) (h2 : GdS cn u g) : GdS cn (tSeq t u) (sSeq f g) := fun en G fr ps σ H D' c ps' R e k => by
  unfold sSeq at e
  cases ef : f ps with
  | none => rw [ef] at e; cases e
  | some r =>
    rw [ef] at e
    obtain ⟨c1, ps1⟩ := r
    cases c1 with
    | nx => exact h1 en G fr ps σ H { D' with nx := u D' } .nx ps1 R ef fun σ' H' G' R' => h2 en G' fr ps1 σ' H' D' c ps' R' e k
    | rt d => cases e; exact h1 en G fr ps σ H { D' with nx := u D' } (.rt d) _ R ef k
    | bk => cases e; exact h1 en G fr ps σ H { D' with nx := u D' } .bk _ R ef k
    | ct => cases e; exact h1 en G fr ps σ H { D' with nx := u D' } .ct _ R ef k
theorem gd_asg {te : TE} {g : TG} {t : Tg} {f : GE} (h1 : GdG cn te f) (h2 : GdTg cn g t) : GdS cn (tAsg te g) (sAsg t f) := fun en G fr ps σ H D' c ps' R e k => by
  unfold sAsg at e
  cases ef : f ps with
  | none => rw [ef] at e; cases e
  | some r =>
    rw [ef] at e
    obtain ⟨d, ps1⟩ := r
    simp only [Option.bind_some] at e
    cases ep : t.put d ps1 with
    | none => rw [ep] at e; cases e
    | some ps2 =>
      rw [ep] at e
      cases e
      exact h1 en G fr ps σ H d ps1 _ R ef fun v H' G' R' => h2 en G' fr ps1 σ H' v d ps' _ R' ep fun σ' _ R2 => k σ' H' G' R2
theorem gd_par {i j : Nat} {ta tb : TE} {f g : GE} (h1 : GdG cn ta f) (h2 : GdG cn tb g) : GdS cn (tPar i j (tCons ta (tCons tb tNil))) (sPar i j f g) := fun en G fr ps σ H D' c ps' R e k => by
  unfold sPar at e
  cases ef : f ps with
  | none => rw [ef] at e; cases e
  | some r =>
    rw [ef] at e
    obtain ⟨d, ps1⟩ := r
    simp only [Option.bind_some] at e
    cases eg : g ps1 with
    | none => rw [eg] at e; cases e
    | some r2 =>
      rw [eg] at e
      obtain ⟨d2, ps2⟩ := r2
      cases e
      refine h1 en G fr ps σ H d ps1 _ R ef fun v H1 G1 R1 => ?_
      refine h2 en G1 _ ps1 σ H1 d2 ps2 _ R1 eg fun w H2 G2 R2 => ?_
      refine ⟨v, w, rfl, k _ H2 G2 ?_⟩
      exact RR.store' (RR.store' (RR.perm (List.Perm.swap _ _ _) R2))
theorem gd_ret {te : TE} {f : GE} (h1 : GdG cn te f) : GdS cn (tRet te) (sRet f) := fun en G fr ps σ H D' c ps' R e k => by
  unfold sRet at e
  cases ef : f ps with
  | none => rw [ef] at e; cases e
  | some r =>
    rw [ef] at e
    cases e
    exact h1 en G fr ps σ H r.1 r.2 _ R ef fun v H' G' R' => k v σ H' G' R'
theorem gd_drop {te : TE} {f : GE} (h1 : GdG cn te f) : GdS cn (tDrop te) (sDrop f) := fun en G fr ps σ H D' c ps' R e k => by
  unfold sDrop at e
  cases ef : f ps with
  | none => rw [ef] at e; cases e
  | some r =>
    rw [ef] at e
    cases e
    exact h1 en G fr ps σ H r.1 r.2 _ R ef fun v H' G' R' => k σ H' G' R'.drop
theorem gd_ifS {t : TT} {c0 : GT} {a b : TS} {f g : S} (hc : GdTG cn t c0) (h1 : GdS cn a f) (h2 : GdS cn b g) : GdS cn (tIfS t a b) (sIf c0 f g) := fun en G fr ps σ H D' c ps' R e k => by
  unfold sIf at e
  cases ec : c0 ps with
  | none => rw [ec] at e; cases e
  | some r =>
    rw [ec] at e
    obtain ⟨b0, ps1⟩ := r
    refine hc en G fr ps σ H b0 ps1 _ R ec fun H1 G1 R1 => ?_
    cases b0 with
    | true => rw [if_pos rfl]; exact h1 en G1 fr ps1 σ H1 D' c ps' R1 e k
    | false => rw [if_neg (by decide)]; exact h2 en G1 fr ps1 σ H1 D' c ps' R1 e k
theorem gd_clr {is : List Nat} {t : TS} {f : S} (h : GdS cn t f) : GdS cn t (sClr is f) := fun en G fr ps σ H D' c ps' R e k => by
  unfold sClr at e
  cases ef : f ps with
  | none => rw [ef] at e; cases e
  | some r =>
    rw [ef] at e
    obtain ⟨c1, ps1⟩ := r
    cases c1 with
    | nx => cases e; exact h en G fr ps σ H D' .nx ps1 R ef fun σ' H' G' R' => k σ' H' G' R'.clr
    | rt d => cases e; exact h en G fr ps σ H D' _ _ R ef k
    | bk => cases e; exact h en G fr ps σ H D' _ _ R ef k
    | ct => cases e; exact h en G fr ps σ H D' _ _ R ef k
theorem gd_frz {i : Nat} {t : TS} {f : S} (h : GdS cn t f) : GdS cn t (sFrz i f) := fun en G fr ps σ H D' c ps' R e k => by
  unfold sFrz at e
  cases ed : rdM ps i with
  | none => rw [ed] at e; cases e
  | some d =>
    rw [ed] at e
    obtain ⟨G', _, R'⟩ := R.fzS ed
    exact h en G' fr _ σ H D' c ps' R' e k
/-- taken out of its slot -/
theorem gd_mv {i : Nat} : GdG cn (tVar i) (gMv i) := fun en G fr ps σ H d ps' Q R e k => by
  unfold gMv at e
  cases ed : rdM ps i with
  | none => rw [ed] at e; cases e
  | some x =>
    rw [ed] at e
    cases e
    obtain ⟨v, hv, R', _⟩ := R.lend ed
    exact ⟨v, hv, k v H G R'⟩
/-! ### what is changed in its place -/
/-- the list that a slot owns -/
theorem lst_own {v : V} {ds : List D} {U : List Addr} (r : Rep cn G H (.lst true ds) v U) : ∃ a vs T, v = .ref a ∧ H a = some (.lst vs) ∧ RepL cn G H ds vs T ∧ U = a :: T := by
  simp only [Rep] at r
  obtain ⟨a, vs, T, e, ha, rl, ow⟩ := r
  exact ⟨a, vs, T, e, ha, rl, ow.t⟩
/-- its list written: other items, none of them new owned things -/
theorem RR.wrL {a : Addr} {vs vs' : List V} {ds ds' : List D} (R : RR cn en G ((.ref a, .lst true ds) :: fr) ps σ H) (ha : H a = some (.lst vs))
    (k : ∀ T, RepL cn G H ds vs T → ∃ T', RepL cn G H ds' vs' T' ∧ ∀ b, T'.count b ≤ T.count b) : RR cn en G ((.ref a, .lst true ds') :: fr) ps σ (upd H a (.lst vs')) := by
  refine RR.xwr (cs := [(.ref a, .lst true ds)]) (cs' := [(.ref a, .lst true ds')]) R fun Sc hc h1 => ?_
  simp only [RepF] at hc
  obtain ⟨T1, T2, eT, r, e2⟩ := hc
  obtain ⟨a', vs0, T, ev, ha', rl, eU⟩ := lst_own r
  cases ev
  rw [ha] at ha'
  cases ha'
  obtain ⟨T', rl', le⟩ := k T rl
  subst eU eT e2
  refine ⟨by simp, a :: T', ?_, fun b => ?_⟩
  · simp only [RepF, Rep]
    refine ⟨a :: T', [], by simp, ⟨a, vs', T', rfl, upd_same, ?_, Own.mkT⟩, rfl⟩
    have na : T.count a = 0 := by
      have := h1 a
      simp at this
      exact this
    refine RepL.frame (fun _ z => z) (fun b gb => upd_ne fun e => ?_) ds' vs' T' (fun b hb => upd_ne fun e => ?_) rl'
    · subst e
      obtain ⟨S, T0, hS, hT, g⟩ := R
      simp only [RepF] at hT
      obtain ⟨T3, T4, e3, r3, _⟩ := hT
      obtain ⟨a3, vs3, T5, ev3, ha3, rl3, eU3⟩ := lst_own r3
      cases ev3
      subst e3 eU3
      exact g.off b (by simp) gb
    · subst e
      have := cnt_mem.mp hb
      have := le b
      omega
  · have := le b
    simp only [List.count_append, List.count_cons, List.count_nil]
    omega
/-- .. one item taken out as a temporary -/
theorem RR.wrLp {a : Addr} {v : V} {d : D} {vs vs' : List V} {ds ds' : List D} (R : RR cn en G ((.ref a, .lst true ds) :: fr) ps σ H) (ha : H a = some (.lst vs))
    (k : ∀ T, RepL cn G H ds vs T → ∃ T1 T', Rep cn G H d v T1 ∧ RepL cn G H ds' vs' T' ∧ ∀ b, T1.count b + T'.count b ≤ T.count b) : RR cn en G ((v, d) :: (.ref a, .lst true ds') :: fr) ps σ (upd H a (.lst vs')) := by
  refine RR.xwr (cs := [(.ref a, .lst true ds)]) (cs' := [(v, d), (.ref a, .lst true ds')]) R fun Sc hc h1 => ?_
  simp only [RepF] at hc
  obtain ⟨T1, T2, eT, r, e2⟩ := hc
  obtain ⟨a', vs0, T, ev, ha', rl, eU⟩ := lst_own r
  cases ev
  rw [ha] at ha'
  cases ha'
  obtain ⟨Td, T', rd, rl', le⟩ := k T rl
  subst eU eT e2
  have nG : ¬ G a := by
    obtain ⟨S, T0, hS, hT, g⟩ := R
    simp only [RepF] at hT
    obtain ⟨T3, T4, e3, r3, _⟩ := hT
    obtain ⟨a3, vs3, T5, ev3, ha3, rl3, eU3⟩ := lst_own r3
    cases ev3
    subst e3 eU3
    exact g.off a (by simp)
  have na : T.count a = 0 := by
    have := h1 a
    simp at this
    exact this
  have hG : Agr G H (upd H a (.lst vs')) := fun b gb => upd_ne fun e => nG (e ▸ gb)
  refine ⟨by simp, Td ++ (a :: T'), ?_, fun b => ?_⟩
  · simp only [RepF, Rep]
    refine ⟨Td, a :: T', rfl, Rep.frame (fun _ z => z) hG d v Td (fun b hb => upd_ne fun e => ?_) rd, a :: T', [], by simp, ⟨a, vs', T', rfl, upd_same, ?_, Own.mkT⟩, rfl⟩
    · subst e
      have := cnt_mem.mp hb
      have := le b
      omega
    · refine RepL.frame (fun _ z => z) hG ds' vs' T' (fun b hb => upd_ne fun e => ?_) rl'
      subst e
      have := cnt_mem.mp hb
      have := le b
      omega
  · have := le b
    simp only [List.count_append, List.count_cons, List.count_nil]
    omega
theorem RepL.setF : ∀ {ds : List D} {vs : List V} {T : List Addr} {j : Nat} {d : D} {v : V}, RepL cn G H ds vs T → Rep cn G H d v [] → ∃ T', RepL cn G H (ds.set j d) (vs.set j v) T' ∧ ∀ b, T'.count b ≤ T.count b
  | [], vs, T, j, d, v, h, r => by
    simp only [RepL] at h
    rw [h.1, h.2]
    refine ⟨[], ?_, fun b => Nat.le_refl _⟩
    show RepL cn G H [] [] []
    simp [RepL]
  | d0 :: ds, vs, T, 0, d, v, h, r => by
    simp only [RepL] at h
    obtain ⟨v0, r0, S1, S2, e1, e2, h1, h2⟩ := h
    subst e1 e2
    refine ⟨S2, ?_, fun b => by rw [List.count_append]; omega⟩
    show RepL cn G H (d :: ds) (v :: r0) S2
    simp only [RepL]
    exact ⟨v, r0, [], S2, rfl, rfl, r, h2⟩
  | d0 :: ds, vs, T, j + 1, d, v, h, r => by
    simp only [RepL] at h
    obtain ⟨v0, r0, S1, S2, e1, e2, h1, h2⟩ := h
    subst e1 e2
    obtain ⟨T', q, le⟩ := RepL.setF (j := j) h2 r
    refine ⟨S1 ++ T', ?_, fun b => by have := le b; rw [List.count_append, List.count_append]; omega⟩
    show RepL cn G H (d0 :: ds.set j d) (v0 :: r0.set j v) _
    simp only [RepL]
    exact ⟨v0, r0.set j v, S1, T', rfl, rfl, h1, q⟩
theorem RepL.eraseF : ∀ {ds : List D} {vs : List V} {T : List Addr} {j : Nat} {d : D}, RepL cn G H ds vs T → ds[j]? = some d → ∃ v T1 T', vs[j]? = some v ∧ Rep cn G H d v T1 ∧ RepL cn G H (ds.eraseIdx j) (vs.eraseIdx j) T' ∧ ∀ b, T1.count b + T'.count b ≤ T.count b
  | [], vs, T, j, d, h, e => by simp at e
  | d0 :: ds, vs, T, 0, d, h, e => by
    simp only [RepL] at h
    obtain ⟨v0, r0, S1, S2, e1, e2, h1, h2⟩ := h
    subst e1 e2
    simp at e
    subst e
    exact ⟨v0, S1, S2, rfl, h1, h2, fun b => by rw [List.count_append]; omega⟩
  | d0 :: ds, vs, T, j + 1, d, h, e => by
    simp only [RepL] at h
    obtain ⟨v0, r0, S1, S2, e1, e2, h1, h2⟩ := h
    subst e1 e2
    obtain ⟨v, T1, T', q1, q2, q3, le⟩ := RepL.eraseF (j := j) (d := d) h2 (by simpa using e)
    refine ⟨v, T1, S1 ++ T', by simpa using q1, q2, ?_, fun b => by have := le b; rw [List.count_append, List.count_append]; omega⟩
    show RepL cn G H (d0 :: ds.eraseIdx j) (v0 :: r0.eraseIdx j) _
    simp only [RepL]
    exact ⟨v0, r0.eraseIdx j, S1, T', rfl, rfl, h1, q3⟩
theorem gd_app {i : Nat} {te : TE} {f : GE} (h : GdG cn te f) : GdS cn (tDrop (tBM cn.K "list" rAppend (tVar i) (tCons te tNil))) (sApp i f) := fun en G fr ps σ H D' c ps' R e k => by
  unfold sApp at e
  cases e0 : rdM ps i with
  | none => rw [e0] at e; cases e
  | some d0 =>
    rw [e0] at e
    simp only [Option.bind_some] at e
    split at e
    · rename_i ds0
      cases ef : f ps with
      | none => rw [ef] at e; cases e
      | some x =>
        rw [ef] at e
        simp only [Option.bind_some] at e
        cases e1 : rdM x.2 i with
        | none => rw [e1] at e; cases e
        | some d1 =>
          rw [e1] at e
          simp only [Option.bind_some] at e
          split at e
          · rename_i ds
            split at e
            · rename_i hc
              cases e
              obtain ⟨v, hv, R0, _⟩ := R.lend e0
              obtain ⟨U0, r0⟩ := R0.view
              obtain ⟨a0, vs0, T0, ev0, ha0, _, _⟩ := lst_own r0
              subst ev0
              refine ⟨.ref a0, hv, .inl ⟨rfl, _, .inl (.inl ha0)⟩, ?_⟩
              refine h en G fr ps σ H x.1 x.2 _ R ef fun w H1 G1 R1 => ?_
              obtain ⟨v', hv', R2, back⟩ := R1.lend e1
              rw [hv] at hv'
              cases hv'
              obtain ⟨U1, r1⟩ := R2.view
              obtain ⟨a1, vs, T1, ev1, ha1, rl1, _⟩ := lst_own r1
              cases ev1
              obtain ⟨W, rw_⟩ := R2.drop.view
              have eW := Rep.nil _ _ _ hc.1 rw_
              subst eW
              refine ⟨a0, vs, w, rfl, rfl, ha1, ?_, k _ _ G1 (RR.drop (back _ _ _ _ (R2.wrL (ds' := ds ++ [x.1]) ha1 fun T rl => ⟨T ++ [], rl.append (RepL.one rw_), fun b => by simp⟩)))⟩
              rw [← rl1.length]
              exact Nat.lt_of_lt_of_le hc.2 cap_le
            · cases e
          · cases e
    · cases e
theorem gd_ext {i : Nat} {te : TE} {f : GE} (h : GdG cn te f) : GdS cn (tDrop (tBM cn.K "list" rExtend (tVar i) (tCons te tNil))) (sExt i f) := fun en G fr ps σ H D' c ps' R e k => by
  unfold sExt at e
  cases e0 : rdM ps i with
  | none => rw [e0] at e; cases e
  | some d0 =>
    rw [e0] at e
    simp only [Option.bind_some] at e
    split at e
    · rename_i ds0
      cases ef : f ps with
      | none => rw [ef] at e; cases e
      | some x =>
        rw [ef] at e
        obtain ⟨x1, x2⟩ := x
        simp only [Option.bind_some] at e
        cases e1 : rdM x2 i with
        | none => rw [e1] at e; cases e
        | some d1 =>
          rw [e1] at e
          simp only [Option.bind_some] at e
          split at e
          · rename_i ds o es
            split at e
            · rename_i hc
              cases e
              obtain ⟨v, hv, R0, _⟩ := R.lend e0
              obtain ⟨U0, r0⟩ := R0.view
              obtain ⟨a0, vs0, T0, ev0, ha0, _, _⟩ := lst_own r0
              subst ev0
              refine ⟨.ref a0, hv, .inl ⟨rfl, _, .inl (.inl ha0)⟩, ?_⟩
              refine h en G fr ps σ H _ x2 _ R ef fun w H1 G1 R1 => ?_
              obtain ⟨v', hv', R2, back⟩ := R1.lend e1
              rw [hv] at hv'
              cases hv'
              obtain ⟨U1, r1⟩ := R2.view
              obtain ⟨a1, vs, T1, ev1, ha1, rl1, _⟩ := lst_own r1
              cases ev1
              obtain ⟨W, rw_⟩ := R2.drop.view
              simp only [Rep] at rw_
              obtain ⟨b1, ws, W2, ev2, hb1, rl2, _⟩ := rw_
              subst ev2
              have eW := RepL.nil _ _ _ hc.1 rl2
              subst eW
              refine ⟨a0, b1, vs, ws, rfl, rfl, ha1, hb1, ?_, k _ _ G1 (RR.drop (back _ _ _ _ (R2.wrL (ds' := ds ++ es) ha1 fun T rl => ⟨T ++ [], rl.append rl2, fun b => by simp⟩)))⟩
              rw [← rl1.length, ← rl2.length]
              exact Nat.le_trans (Nat.le_of_lt hc.2) cap_le
            · cases e
          · cases e
    · cases e
/-- x[k] = e -/
theorem ixP_N {n : Nat} {i : Int} : ixP n i = ixN n i := rfl
theorem gd_set {i : Nat} {tk te : TE} {q : QE} {f : GE} (hk : GdV cn tk q) (h : GdG cn te f) : GdS cn (tAsg te (gSub (tVar i) tk rSetL)) (sSet i q f) := fun en G fr ps σ H D' c ps' R e k => by
  unfold sSet at e
  cases ef : f ps with
  | none => rw [ef] at e; cases e
  | some x =>
    rw [ef] at e
    obtain ⟨x1, x2⟩ := x
    simp only [Option.bind_some] at e
    cases eq : q x2 with
    | none => rw [eq] at e; cases e
    | some y =>
      rw [eq] at e
      simp only [Option.bind_some] at e
      cases e1 : rdM x2 i with
      | none => rw [e1] at e; cases e
      | some d1 =>
        rw [e1] at e
        simp only [Option.bind_some] at e
        split at e
        · rename_i ds z
          split at e
          · rename_i hf
            cases ej : ixP ds.length z with
            | none => rw [ej] at e; cases e
            | some j =>
              rw [ej] at e
              cases e
              refine h en G fr ps σ H x1 x2 _ R ef fun w H1 G1 R1 => ?_
              obtain ⟨v0, hv0, _, _⟩ := R1.lend e1
              refine ⟨v0, hv0, ?_⟩
              refine hk en G1 _ x2 σ H1 _ _ R1 eq fun u H2 G2 U2 s2 g2 R2 r2 => ?_
              obtain ⟨v, hv, R3, back⟩ := R2.lend e1
              rw [hv0] at hv
              cases hv
              obtain ⟨U1, r1⟩ := R3.view
              obtain ⟨a1, vs, T1, ev1, ha1, rl1, _⟩ := lst_own r1
              subst ev1
              obtain ⟨W, rw_⟩ := R3.drop.view
              have eW := Rep.nil _ _ _ hf rw_
              subst eW
              refine ⟨a1, vs, z, j, rfl, rep_int r2, ha1, by rw [← ixP_N, ← rl1.length]; exact ej, ?_⟩
              exact k _ _ G2 (RR.drop (back _ _ _ _ (R3.wrL (ds' := ds.set j x1) ha1 fun T rl => rl.setF rw_)))
          · cases e
        · cases e
/-- x.pop() -/
theorem gd_pop {i : Nat} : GdG cn (tBM0 cn.K "list" rPop (tVar i)) (gPop i) := fun en G fr ps σ H d ps' Q R e k => by
  unfold gPop at e
  cases e1 : rdM ps i with
  | none => rw [e1] at e; cases e
  | some d1 =>
    rw [e1] at e
    simp only [Option.bind_some] at e
    split at e
    · rename_i ds
      cases el : ds.getLast? with
      | none => rw [el] at e; cases e
      | some x =>
        rw [el] at e
        cases e
        obtain ⟨v, hv, R2, back⟩ := R.lend e1
        obtain ⟨U1, r1⟩ := R2.view
        obtain ⟨a1, vs, T1, ev1, ha1, rl1, _⟩ := lst_own r1
        subst ev1
        rw [List.getLast?_eq_getElem?] at el
        obtain ⟨w, T2, T3, q1, q2, q3, le⟩ := rl1.eraseF el
        have hl := rl1.length
        have hd : ∀ {α : Type} (l : List α), l.eraseIdx (l.length - 1) = l.dropLast := fun l => List.eraseIdx_length_sub_one
        refine ⟨.ref a1, hv, .inl ⟨rfl, _, .inl (.inl ha1)⟩, a1, vs, w, rfl, rfl, ha1, by rw [← hl]; exact q1, ?_⟩
        refine k w _ G (RR.perm (List.Perm.refl _) ?_)
        refine back G _ _ _ (RR.perm (List.Perm.swap _ _ _) ?_)
        refine R2.wrLp (v := w) ha1 fun T rl => ?_
        obtain ⟨w', T4, T5, p1, p2, p3, le2⟩ := rl.eraseF el
        rw [q1] at p1
        cases p1
        refine ⟨T4, T5, p2, ?_, le2⟩
        rw [hd, hl, hd] at p3
        exact p3
    · cases e
theorem seqIx {n : Nat} {z : Int} (h0 : 0 ≤ z) (h1 : z < n) : seqIndex? z n = some z.toNat := PySem.seqIndex_of h0 h1
theorem gd_popAt {i : Nat} {te : TE} {f : GE} (h : GdG cn te f) : GdG cn (tBM cn.K "list" rPopAt (tVar i) (tCons te tNil)) (gPopAt i f) := fun en G fr ps σ H d ps' Q R e k => by
  unfold gPopAt at e
  cases e0 : rdM ps i with
  | none => rw [e0] at e; cases e
  | some d0 =>
    rw [e0] at e
    simp only [Option.bind_some] at e
    split at e
    · rename_i ds0
      cases ef : f ps with
      | none => rw [ef] at e; cases e
      | some y =>
        rw [ef] at e
        obtain ⟨y1, y2⟩ := y
        simp only [Option.bind_some] at e
        cases e1 : rdM y2 i with
        | none => rw [e1] at e; cases e
        | some d1 =>
          rw [e1] at e
          simp only [Option.bind_some] at e
          split at e
          · rename_i ds z
            split at e
            · rename_i hz
              cases el : ds[z.toNat]? with
              | none => rw [el] at e; cases e
              | some x =>
                rw [el] at e
                cases e
                obtain ⟨v, hv, R0, _⟩ := R.lend e0
                obtain ⟨U0, r0⟩ := R0.view
                obtain ⟨a0, vs0, T0, ev0, ha0, _, _⟩ := lst_own r0
                subst ev0
                refine ⟨.ref a0, hv, .inl ⟨rfl, _, .inl (.inl ha0)⟩, ?_⟩
                refine h en G fr ps σ H _ y2 _ R ef fun w H1 G1 R1 => ?_
                obtain ⟨Uw, rw_⟩ := R1.view
                obtain ⟨v', hv', R2, back⟩ := R1.drop.lend e1
                rw [hv] at hv'
                cases hv'
                obtain ⟨U1, r1⟩ := R2.view
                obtain ⟨a1, vs, T1, ev1, ha1, rl1, _⟩ := lst_own r1
                cases ev1
                obtain ⟨u, T2, T3, q1, q2, q3, le⟩ := rl1.eraseF el
                have hl := rl1.length
                have hb := hz.2.2
                refine ⟨a0, vs, z, z.toNat, u, rfl, by rw [rep_int rw_], ha1, by omega, by unfold cap at hb; omega, by rw [← hl]; exact seqIx hz.1 hz.2.1, q1, ?_⟩
                refine k u _ G1 ?_
                refine back G1 _ _ _ (RR.perm (List.Perm.swap _ _ _) ?_)
                refine R2.wrLp (v := u) ha1 fun T rl => ?_
                obtain ⟨w', T4, T5, p1, p2, p3, le2⟩ := rl.eraseF el
                rw [q1] at p1
                cases p1
                exact ⟨T4, T5, p2, p3, le2⟩
            · cases e
          · cases e
    · cases e
end
end Pv

/-! Snd5: what is gone through; for, while, comprehensions. -/
namespace Pv
open PySem L2

/-- J goes through xs, as long as ex is held -/
def Wk (cn : Cn) (J : It) (ex : List (V × D)) (xs : List D) : Prop :=
  (∀ (en : Ent) (G : Addr → Prop) (fr : List (V × D)) (ps : PS) (σ : L2.St) (H : Hp) (i : Nat) (d : D), xs[i]? = some d → RR cn en G (ex ++ fr) ps σ H → J.go i H ∧ ∀ x H', J.yld i H x H' → ∃ G', RR cn en G' ((x, d) :: (ex ++ fr)) ps σ H') ∧
  (∀ (en : Ent) (G : Addr → Prop) (fr : List (V × D)) (ps : PS) (σ : L2.St) (H : Hp), RR cn en G (ex ++ fr) ps σ H → J.stop xs.length H)
def GdIt (cn : Cn) (wi : TI) (f : Its) : Prop := ∀ (en : Ent) (G : Addr → Prop) (fr : List (V × D)) (ps : PS) (σ : L2.St) (H : Hp) (xs : List D) (ps' : PS) (R : It → Hp → Prop), RR cn en G fr ps σ H → f ps = some (xs, ps') →
  (∀ J H' G' ex, RR cn en G' (ex ++ fr) ps' σ H' → Wk cn J ex xs → R J H') → wi σ H R
section
variable {cn : Cn} {en : Ent} {G G' : Addr → Prop} {H H' : Hp} {fr fr' : List (V × D)} {ps : PS} {σ : L2.St}
theorem itG_some {g : D → Option (List D)} {f : GE} {xs : List D} {ps' : PS} (e : itG g f ps = some (xs, ps')) : ∃ d, f ps = some (d, ps') ∧ g d = some xs := by
  unfold itG at e
  cases ef : f ps with
  | none => rw [ef] at e; cases e
  | some x =>
    rw [ef] at e
    obtain ⟨d, ps1⟩ := x
    simp only [Option.bind_some] at e
    cases eg : g d with
    | none => rw [eg] at e; cases e
    | some ys => rw [eg] at e; cases e; exact ⟨d, rfl, eg⟩
theorem itG2_some {g : D → D → Option (List D)} {f f2 : GE} {xs : List D} {ps' : PS} (e : itG2 g f f2 ps = some (xs, ps')) : ∃ d ps1 d2, f ps = some (d, ps1) ∧ f2 ps1 = some (d2, ps') ∧ g d d2 = some xs := by
  unfold itG2 at e
  cases ef : f ps with
  | none => rw [ef] at e; cases e
  | some x =>
    rw [ef] at e
    obtain ⟨d, ps1⟩ := x
    simp only [Option.bind_some] at e
    cases ef2 : f2 ps1 with
    | none => rw [ef2] at e; cases e
    | some y =>
      rw [ef2] at e
      obtain ⟨d2, ps2⟩ := y
      simp only [Option.bind_some] at e
      cases eg : g d d2 with
      | none => rw [eg] at e; cases e
      | some ys => rw [eg] at e; cases e; exact ⟨d, ps1, d2, rfl, ef2, eg⟩
theorem lstF_rep {v : V} {xs : List D} {U : List Addr} (r : Rep cn G H (.lst false xs) v U) : ∃ a vs, v = .ref a ∧ G a ∧ H a = some (.lst vs) ∧ RepL cn G H xs vs [] ∧ U = [] := by
  simp only [Rep] at r
  obtain ⟨a, vs, T, e, ha, rl, ow⟩ := r
  obtain ⟨g, e1, e2⟩ := ow.f
  subst e1 e2
  exact ⟨a, vs, e, g, ha, rl, rfl⟩
theorem tup_rep {v : V} {xs : List D} {U : List Addr} (r : Rep cn G H (.tup xs) v U) : ∃ a vs, v = .ref a ∧ G a ∧ H a = some (.tup vs) ∧ RepL cn G H xs vs U := by
  simp only [Rep] at r
  exact r
theorem wk_list {a : Addr} {xs : List D} (hf : isFL xs = true) : Wk cn (Itl cn.K a) [(.ref a, .lst false xs)] xs := by
  refine ⟨fun en G fr ps σ H i d hd R => ?_, fun en G fr ps σ H R => ?_⟩
  · obtain ⟨U, r⟩ := R.view
    obtain ⟨a', vs, ev, hg, ha, rl, _⟩ := lstF_rep r
    cases ev
    obtain ⟨v, W, hv, rd, _⟩ := rl.get hd
    refine ⟨⟨vs, v, .inl (.inl ha), hv⟩, fun x H' y => ?_⟩
    obtain ⟨e, q⟩ := y
    subst e
    have := q vs (.inl (.inl ha))
    rw [hv] at this
    cases this
    exact ⟨G, R.push (isFL_get hf hd) rd⟩
  · obtain ⟨U, r⟩ := R.view
    obtain ⟨a', vs, ev, hg, ha, rl, _⟩ := lstF_rep r
    cases ev
    exact ⟨vs, .inl (.inl ha), Nat.le_of_eq rl.length.symm⟩
theorem gd_itL {te : TE} {f : GE} (h : GdG cn te f) : GdIt cn (iList cn.K te) (itG itL f) := fun en G fr ps σ H xs ps' R0 R e k => by
  obtain ⟨d, ef, eg⟩ := itG_some e
  unfold itL at eg
  split at eg
  · rename_i o ys
    split at eg
    · rename_i hc
      cases eg
      simp only [Bool.and_eq_true, Bool.not_eq_true'] at hc
      obtain ⟨ho, hf⟩ := hc
      subst ho
      refine h en G fr ps σ H _ ps' _ R ef fun v H1 G1 R1 => ?_
      obtain ⟨U, r⟩ := R1.view
      obtain ⟨a, vs, ev, hg, ha, rl, _⟩ := lstF_rep r
      subst ev
      exact ⟨a, rfl, ⟨vs, .inl (.inl ha)⟩, k _ H1 G1 [(.ref a, .lst false xs)] R1 (wk_list hf)⟩
    · cases eg
  · cases eg
theorem wk_tup {a : Addr} {xs : List D} (hf : isFL xs = true) : Wk cn (Itt cn.K a) [(.ref a, .tup xs)] xs := by
  refine ⟨fun en G fr ps σ H i d hd R => ?_, fun en G fr ps σ H R => ?_⟩
  · obtain ⟨U, r⟩ := R.view
    obtain ⟨a', vs, ev, hg, ha, rl⟩ := tup_rep r
    cases ev
    obtain ⟨v, W, hv, rd, _⟩ := rl.get hd
    refine ⟨⟨vs, v, .inl (.inl ha), hv⟩, fun x H' y => ?_⟩
    obtain ⟨e, q⟩ := y
    subst e
    have := q vs (.inl (.inl ha))
    rw [hv] at this
    cases this
    exact ⟨G, R.push (isFL_get hf hd) rd⟩
  · obtain ⟨U, r⟩ := R.view
    obtain ⟨a', vs, ev, hg, ha, rl⟩ := tup_rep r
    cases ev
    exact ⟨vs, .inl (.inl ha), Nat.le_of_eq rl.length.symm⟩
theorem gd_itT {te : TE} {f : GE} (h : GdG cn te f) : GdIt cn (iTup cn.K te) (itG itT f) := fun en G fr ps σ H xs ps' R0 R e k => by
  obtain ⟨d, ef, eg⟩ := itG_some e
  unfold itT at eg
  split at eg
  · rename_i ys
    split at eg
    · rename_i hf
      cases eg
      refine h en G fr ps σ H _ ps' _ R ef fun v H1 G1 R1 => ?_
      obtain ⟨U, r⟩ := R1.view
      obtain ⟨a, vs, ev, hg, ha, rl⟩ := tup_rep r
      subst ev
      exact ⟨a, rfl, ⟨vs, .inl (.inl ha)⟩, k _ H1 G1 [(.ref a, .tup xs)] R1 (wk_tup hf)⟩
    · cases eg
  · cases eg
theorem rng_get {a b : Int} {i : Nat} {d : D} (h : (rng a b)[i]? = some d) : d = .int (a + i) ∧ i < (b - a).toNat := by
  unfold rng at h
  rw [List.getElem?_map] at h
  cases e : (List.range (b - a).toNat)[i]? with
  | none => rw [e] at h; cases h
  | some j =>
    rw [e] at h
    obtain ⟨h1, h2⟩ := List.getElem?_eq_some_iff.mp e
    rw [List.length_range] at h1
    rw [List.getElem_range] at h2
    subst h2
    cases h
    exact ⟨rfl, h1⟩
theorem rng_len {a b : Int} : (rng a b).length = (b - a).toNat := by unfold rng; rw [List.length_map, List.length_range]
theorem wk_rng {a b : Int} : Wk cn (Itr a (b - a).toNat) [] (rng a b) := by
  refine ⟨fun en G fr ps σ H i d hd R => ?_, fun en G fr ps σ H R => ?_⟩
  · obtain ⟨e, hl⟩ := rng_get hd
    refine ⟨hl, fun x H' y => ?_⟩
    obtain ⟨e1, e2⟩ := y
    subst e1 e2 e
    exact ⟨G, R.push (v := .int (a + i)) rfl (atV_rep rfl)⟩
  · show (b - a).toNat ≤ _
    rw [rng_len]
    exact Nat.le_refl _
theorem gd_itR1 {te : TE} {f : GE} (h : GdG cn te f) : GdIt cn (iRng1 (tCons te tNil)) (itG itR1 f) := fun en G fr ps σ H xs ps' R0 R e k => by
  obtain ⟨d, ef, eg⟩ := itG_some e
  unfold itR1 at eg
  split at eg
  · rename_i n
    split at eg
    · rename_i hs
      cases eg
      refine h en G fr ps σ H _ ps' _ R ef fun v H1 G1 R1 => ?_
      obtain ⟨U, r⟩ := R1.view
      unfold small at hs
      refine ⟨n, by rw [rep_int r], by omega, by omega, ?_⟩
      have := k (Itr 0 (n - 0).toNat) H1 G1 [] R1.drop wk_rng
      rwa [Int.sub_zero] at this
    · cases eg
  · cases eg
theorem gd_itR2 {ta tb : TE} {f f2 : GE} (h : GdG cn ta f) (h2 : GdG cn tb f2) : GdIt cn (iRng2 (tCons ta (tCons tb tNil))) (itG2 itR2 f f2) := fun en G fr ps σ H xs ps' R0 R e k => by
  obtain ⟨d, ps1, d2, ef, ef2, eg⟩ := itG2_some e
  unfold itR2 at eg
  split at eg
  · rename_i n m
    split at eg
    · rename_i hs
      cases eg
      refine h en G fr ps σ H _ ps1 _ R ef fun v H1 G1 R1 => ?_
      refine h2 en G1 _ ps1 σ H1 _ ps' _ R1 ef2 fun w H2 G2 R2 => ?_
      obtain ⟨U2, r2⟩ := R2.view
      obtain ⟨U1, r1⟩ := R2.drop.view
      unfold small at hs
      exact ⟨n, m, by rw [rep_int r1, rep_int r2], ⟨by omega, by omega, by omega, by omega⟩, k _ H2 G2 [] R2.drop.drop wk_rng⟩
    · cases eg
  · cases eg
/-- a new pair in the hand -/
theorem RR.pair {x y : V} {d e : D} {U W : List Addr} {p : Addr} (R : RR cn en G fr ps σ H) (hp : H p = none) (h1 : d.isF = true) (h2 : e.isF = true) (r1 : Rep cn G H d x U) (r2 : Rep cn G H e y W) :
    ∃ G', RR cn en G' ((.ref p, .tup [d, e]) :: fr) ps σ (upd H p (.tup [x, y])) := by
  have e1 := Rep.nil _ _ _ h1 r1
  have e2 := Rep.nil _ _ _ h2 r2
  subst e1 e2
  have rl : RepL cn G H [d, e] [x, y] [] := RepL.append (RepL.one r1) (RepL.one r2)
  obtain ⟨G', _, R'⟩ := R.newTup hp rl
  exact ⟨G', R'⟩
theorem enum_get : ∀ {xs : List D} {k i : Nat} {d : D}, (enumFr k xs)[i]? = some d → ∃ x, xs[i]? = some x ∧ d = .tup [.int ((k + i : Nat) : Int), x]
  | [], k, i, d, h => by simp [enumFr] at h
  | x :: xs, k, 0, d, h => by simp [enumFr] at h; exact ⟨x, rfl, by rw [← h]; rfl⟩
  | x :: xs, k, i + 1, d, h => by
    simp only [enumFr, List.getElem?_cons_succ] at h
    obtain ⟨y, h1, h2⟩ := enum_get h
    exact ⟨y, by simpa using h1, by rw [h2, show k + 1 + i = k + (i + 1) by omega]⟩
theorem enum_len : ∀ {xs : List D} {k : Nat}, (enumFr k xs).length = xs.length
  | [], _ => rfl
  | x :: xs, k => by rw [enumFr, List.length_cons, List.length_cons, enum_len]
theorem gd_itE {te : TE} {f : GE} (h : GdG cn te f) : GdIt cn (iEnum cn.K (tCons te tNil)) (itG itE f) := fun en G fr ps σ H xs ps' R0 R e k => by
  obtain ⟨d, ef, eg⟩ := itG_some e
  unfold itE at eg
  split at eg
  · rename_i o ys
    split at eg
    · rename_i hc
      cases eg
      simp only [Bool.and_eq_true, Bool.not_eq_true'] at hc
      obtain ⟨ho, hf⟩ := hc
      subst ho
      refine h en G fr ps σ H _ ps' _ R ef fun v H1 G1 R1 => ?_
      obtain ⟨U, r⟩ := R1.view
      obtain ⟨a, vs, ev, hg, ha, rl, _⟩ := lstF_rep r
      subst ev
      refine ⟨a, vs, rfl, .inl (.inl ha), k _ H1 G1 [(.ref a, .lst false ys)] R1 ⟨fun en G fr ps σ H i d hd R => ?_, fun en G fr ps σ H R => ?_⟩⟩
      · obtain ⟨U, r⟩ := R.view
        obtain ⟨a', vs, ev, hg, ha, rl, _⟩ := lstF_rep r
        cases ev
        obtain ⟨x, hx, ed⟩ := enum_get hd
        obtain ⟨v, W, hv, rd, _⟩ := rl.get hx
        refine ⟨⟨vs, v, .inl (.inl ha), hv⟩, fun z H' y => ?_⟩
        obtain ⟨T, x', ez, hT, eH, q⟩ := y
        subst ez eH
        have := q vs (.inl (.inl ha))
        rw [hv] at this
        cases this
        rw [ed, Nat.zero_add]
        exact R.pair hT rfl (isFL_get hf hx) (atV_rep (v := .int (i : Int)) rfl) rd
      · obtain ⟨U, r⟩ := R.view
        obtain ⟨a', vs, ev, hg, ha, rl, _⟩ := lstF_rep r
        cases ev
        exact ⟨vs, .inl (.inl ha), Nat.le_of_eq (by rw [enum_len]; exact rl.length.symm)⟩
    · cases eg
  · cases eg
theorem zip_get : ∀ {xs ys : List D} {i : Nat} {d : D}, (zipD xs ys)[i]? = some d → ∃ x y, xs[i]? = some x ∧ ys[i]? = some y ∧ d = .tup [x, y]
  | [], _, i, d, h => by simp [zipD] at h
  | _ :: _, [], i, d, h => by simp [zipD] at h
  | x :: xs, y :: ys, 0, d, h => by simp [zipD] at h; exact ⟨x, y, rfl, rfl, h.symm⟩
  | x :: xs, y :: ys, i + 1, d, h => by
    simp only [zipD, List.getElem?_cons_succ] at h
    obtain ⟨a, b, h1, h2, h3⟩ := zip_get h
    exact ⟨a, b, by simpa using h1, by simpa using h2, h3⟩
theorem zip_len : ∀ {xs ys : List D}, (zipD xs ys).length = min xs.length ys.length
  | [], _ => by simp [zipD]
  | _ :: _, [] => by simp [zipD]
  | x :: xs, y :: ys => by rw [zipD, List.length_cons, List.length_cons, List.length_cons, zip_len]; omega
theorem gd_itZ {ta tb : TE} {f f2 : GE} (h : GdG cn ta f) (h2 : GdG cn tb f2) : GdIt cn (iZip cn.K (tCons ta (tCons tb tNil))) (itG2 itZ f f2) := fun en G fr ps σ H xs ps' R0 R e k => by
  obtain ⟨d, ps1, d2, ef, ef2, eg⟩ := itG2_some e
  unfold itZ at eg
  split at eg
  · rename_i o xs1 p ys1
    split at eg
    · rename_i hc
      cases eg
      simp only [Bool.and_eq_true, Bool.not_eq_true'] at hc
      obtain ⟨⟨⟨ho, hf1⟩, hp⟩, hf2⟩ := hc
      subst ho hp
      refine h en G fr ps σ H _ ps1 _ R ef fun v H1 G1 R1 => ?_
      refine h2 en G1 _ ps1 σ H1 _ ps' _ R1 ef2 fun w H2 G2 R2 => ?_
      obtain ⟨U2, r2⟩ := R2.view
      obtain ⟨U1, r1⟩ := R2.drop.view
      obtain ⟨b, ws, eb, hgb, hb, rlb, _⟩ := lstF_rep r2
      obtain ⟨a, vs, ea, hga, ha, rla, _⟩ := lstF_rep r1
      subst ea eb
      refine ⟨a, b, vs, ws, rfl, .inl (.inl ha), .inl (.inl hb), k _ H2 G2 [(.ref b, .lst false ys1), (.ref a, .lst false xs1)] R2 ⟨fun en G fr ps σ H i d hd R => ?_, fun en G fr ps σ H R => ?_⟩⟩
      · obtain ⟨U2, r2⟩ := R.view
        obtain ⟨U1, r1⟩ := RR.view (RR.drop R)
        obtain ⟨b', ws, eb, hgb, hb, rlb, _⟩ := lstF_rep r2
        obtain ⟨a', vs, ea, hga, ha, rla, _⟩ := lstF_rep r1
        cases ea
        cases eb
        obtain ⟨x, y, hx, hy, ed⟩ := zip_get hd
        obtain ⟨vx, W1, hvx, rx, _⟩ := rla.get hx
        obtain ⟨vy, W2, hvy, ry, _⟩ := rlb.get hy
        refine ⟨⟨vs, ws, vx, vy, .inl (.inl ha), .inl (.inl hb), hvx, hvy⟩, fun z H' q => ?_⟩
        obtain ⟨T, x', y', ez, hT, eH, q1, q2⟩ := q
        subst ez eH
        have e1 := q1 vs (.inl (.inl ha))
        have e2 := q2 ws (.inl (.inl hb))
        rw [hvx] at e1
        rw [hvy] at e2
        cases e1
        cases e2
        rw [ed]
        exact R.pair hT (isFL_get hf1 hx) (isFL_get hf2 hy) rx ry
      · obtain ⟨U2, r2⟩ := R.view
        obtain ⟨U1, r1⟩ := RR.view (RR.drop R)
        obtain ⟨b', ws, eb, hgb, hb, rlb, _⟩ := lstF_rep r2
        obtain ⟨a', vs, ea, hga, ha, rla, _⟩ := lstF_rep r1
        cases ea
        cases eb
        refine ⟨vs, ws, .inl (.inl ha), .inl (.inl hb), ?_⟩
        rw [← rla.length, ← rlb.length, zip_len]
        omega
    · cases eg
  · cases eg
/-! ### for -/
theorem drop_get {α : Type} {xs : List α} {i : Nat} {d : α} (h : xs[i]? = some d) : xs.drop i = d :: xs.drop (i + 1) := by
  obtain ⟨h1, h2⟩ := List.getElem?_eq_some_iff.mp h
  rw [← h2]
  exact List.drop_eq_getElem_cons h1
theorem gd_for {wi : TI} {g : TG} {tb : TS} {it : Its} {t : Tg} {dead : List Nat} {body : S} (hi : GdIt cn wi it) (hg : GdTg cn g t) (hb : GdS cn tb body) : GdS cn (tFor wi g tb) (sFor it t dead body) := fun en G fr ps σ H D' c ps' R e k => by
  unfold sFor at e
  cases ei : it ps with
  | none => rw [ei] at e; cases e
  | some x =>
    rw [ei] at e
    obtain ⟨xs, ps1⟩ := x
    simp only [Option.bind_some] at e
    refine hi en G fr ps σ H xs ps1 _ R ei fun J H1 G1 ex R1 wk => ?_
    refine ⟨fun i m σ H => m + i = xs.length ∧ ∃ G psi, RR cn en G (ex ++ fr) psi σ H ∧ forP t dead body (xs.drop i) psi = some (c, ps'), ⟨xs.length, by omega, G1, ps1, R1, by rw [List.drop_zero]; exact e⟩, fun i m σ2 H2 hW => ?_⟩
    obtain ⟨hm, G2, psi, R2, ef⟩ := hW
    cases hx : xs[i]? with
    | none =>
      have hl : xs.length ≤ i := by simpa using hx
      have ei : i = xs.length := by omega
      subst ei
      rw [List.drop_length, forP] at ef
      cases ef
      exact .inl ⟨wk.2 en G2 fr _ σ2 H2 R2, k σ2 H2 G2 (RR.dropL R2)⟩
    | some d =>
      have hl : i < xs.length := (List.getElem?_eq_some_iff.mp hx).1
      rw [drop_get hx, forP] at ef
      cases ep : t.put d psi with
      | none => rw [ep] at ef; cases ef
      | some psa =>
        rw [ep] at ef
        simp only [Option.bind_some] at ef
        cases eb : body psa with
        | none => rw [eb] at ef; cases ef
        | some r =>
          rw [eb] at ef
          obtain ⟨c1, psb⟩ := r
          obtain ⟨go, yl⟩ := wk.1 en G2 fr psi σ2 H2 i d hx R2
          refine .inr ⟨go, fun σ' H' => ∃ G' psn, RR cn en G' (ex ++ fr) psn σ' H' ∧ forP t dead body (xs.drop (i + 1)) psn = some (c, ps'), fun σ' H' ⟨G', psn, Rn, en'⟩ => ⟨m - 1, by omega, by omega, G', psn, Rn, en'⟩, fun x H' y => ?_⟩
          obtain ⟨G3, R3⟩ := yl x H' y
          refine hg en G3 (ex ++ fr) psi σ2 H' x d psa _ R3 ep fun σ3 _ R4 => ?_
          refine hb en G3 (ex ++ fr) psa σ3 H' _ c1 psb R4 eb ?_
          cases c1 with
          | nx => exact fun σ' H' G' R' => ⟨G', clr dead psb, R'.clr, ef⟩
          | ct => exact fun σ' H' G' R' => ⟨G', clr dead psb, R'.clr, ef⟩
          | bk =>
            cases ef
            exact fun σ' H' G' R' => k σ' H' G' (RR.dropL R').clr
          | rt d =>
            cases ef
            exact fun v σ' H' G' R' => k v σ' H' G' (RR.dropL (cs := ex) (RR.perm (fr' := ex ++ (v, d) :: fr) List.perm_middle.symm R'))
/-! ### while -/
theorem gd_while {tc : TT} {tb : TS} {c0 : GT} {dead : List Nat} {body : S} {n : Nat} (hc : GdTG cn tc c0) (hb : GdS cn tb body) : GdS cn (tWhile tc tb) (whileP c0 dead body n) := fun en G fr ps σ H D' c ps' R e k => by
  refine ⟨fun m σ H => ∃ G psi, RR cn en G fr psi σ H ∧ whileP c0 dead body m psi = some (c, ps'), ⟨n, G, ps, R, e⟩, fun m σ2 H2 hW => ?_⟩
  obtain ⟨G2, psi, R2, ew⟩ := hW
  cases m with
  | zero => rw [whileP] at ew; cases ew
  | succ m =>
    rw [whileP] at ew
    cases ec : c0 psi with
    | none => rw [ec] at ew; cases ew
    | some r =>
      rw [ec] at ew
      obtain ⟨b, psa⟩ := r
      simp only [Option.bind_some] at ew
      refine hc en G2 fr psi σ2 H2 b psa _ R2 ec fun H3 G3 R3 => ?_
      cases b with
      | false =>
        rw [if_neg (by decide)] at ew ⊢
        cases ew
        exact k σ2 H3 G3 R3
      | true =>
        rw [if_pos rfl] at ew ⊢
        cases eb : body psa with
        | none => rw [eb] at ew; cases ew
        | some r =>
          rw [eb] at ew
          obtain ⟨c1, psb⟩ := r
          refine ⟨fun σ' H' => ∃ G' psn, RR cn en G' fr psn σ' H' ∧ whileP c0 dead body m psn = some (c, ps'), fun σ' H' ⟨G', psn, Rn, en'⟩ => ⟨m, Nat.lt_succ_self _, G', psn, Rn, en'⟩, ?_⟩
          refine hb en G3 fr psa σ2 H3 _ c1 psb R3 eb ?_
          cases c1 with
          | nx => exact fun σ' H' G' R' => ⟨G', clr dead psb, R'.clr, ew⟩
          | ct => exact fun σ' H' G' R' => ⟨G', clr dead psb, R'.clr, ew⟩
          | bk =>
            cases ew
            exact fun σ' H' G' R' => k σ' H' G' R'.clr
          | rt d =>
            cases ew
            exact k
/-! ### comprehensions -/
/-- the real slots forgotten -/
theorem RepS.wipe1 {i : Nat} : ∀ {ps : PS} {σ : L2.St} {k : Nat} {S : List Addr}, RepS cn en G H ps σ k S → (ps[i]? = some .no ∨ ps[i]? = none) → ∀ o, RepS cn en G H ps (σ.set i o) k S := by
  induction i with
  | zero =>
    intro ps σ k S h hn o
    cases ps with
    | nil => simp only [RepS] at h ⊢; rw [h.1]; exact ⟨rfl, h.2⟩
    | cons s ps =>
      simp only [RepS] at h ⊢
      obtain ⟨o0, r, S1, S2, e1, e2, h1, h2⟩ := h
      subst e1
      have es : s = .no := by rcases hn with z | z <;> simp at z; exact z
      subst es
      exact ⟨o, r, S1, S2, rfl, e2, h1, h2⟩
  | succ i ih =>
    intro ps σ k S h hn o
    cases ps with
    | nil => simp only [RepS] at h ⊢; rw [h.1]; exact ⟨rfl, h.2⟩
    | cons s ps =>
      simp only [RepS] at h ⊢
      obtain ⟨o0, r, S1, S2, e1, e2, h1, h2⟩ := h
      subst e1
      exact ⟨o0, r.set i o, S1, S2, rfl, e2, h1, ih h2 (by simpa using hn) o⟩
theorem RR.real {i : Nat} {o : Option V} (R : RR cn en G fr ps σ H) (hn : ps[i]? = some .no ∨ ps[i]? = none) : RR cn en G fr ps (σ.set i o) H := by
  obtain ⟨S, T, hS, hT, g⟩ := R
  exact ⟨S, T, hS.wipe1 hn o, hT, g⟩
theorem clr_at : ∀ {is : List Nat} {ps : PS} {i : Nat}, (i ∈ is ∨ ps[i]? = some .no ∨ ps[i]? = none) → ((Pv.clr is ps)[i]? = some .no ∨ (Pv.clr is ps)[i]? = none)
  | [], ps, i, h => by
    rcases h with h | h
    · cases h
    · exact h
  | j :: is, ps, i, h => by
    simp only [Pv.clr]
    refine clr_at ?_
    by_cases e : i = j
    · subst e
      right
      by_cases hl : i < ps.length
      · exact .inl (by rw [List.getElem?_set_self hl])
      · exact .inr (by simp; omega)
    · rcases h with h | h
      · rcases List.mem_cons.mp h with z | z
        · exact absurd z e
        · exact .inl z
      · right
        rw [List.getElem?_set_ne (fun z => e z.symm)]
        exact h
theorem RR.wipe : ∀ {vs : List Nat}, RR cn en G fr ps σ H → (∀ i ∈ vs, ps[i]? = some .no ∨ ps[i]? = none) → RR cn en G fr ps (L2.wipe σ vs) H
  | [], R, _ => R
  | v :: vs, R, h => by
    unfold L2.wipe
    exact RR.real (RR.wipe R fun i hi => h i (List.mem_cons_of_mem _ hi)) (h v List.mem_cons_self)
/-- and back -/
theorem RR.unwipe : ∀ {vs : List Nat} {σ : L2.St}, RR cn en G fr ps (L2.wipe σ vs) H → (∀ i ∈ vs, ps[i]? = some .no ∨ ps[i]? = none) → RR cn en G fr ps σ H
  | [], σ, R, _ => R
  | v :: vs, σ, R, h => by
    unfold L2.wipe at R
    refine RR.unwipe (vs := vs) ?_ fun i hi => h i (List.mem_cons_of_mem _ hi)
    have := R.real (i := v) (o := ((L2.wipe σ vs)[v]?).getD none) (h v List.mem_cons_self)
    rw [List.set_set] at this
    have e : (L2.wipe σ vs).set v (((L2.wipe σ vs)[v]?).getD none) = L2.wipe σ vs := by
      refine List.ext_getElem? fun j => ?_
      by_cases hj : j = v
      · subst hj
        cases q : (L2.wipe σ vs)[j]? with
        | none => rw [List.getElem?_eq_none_iff] at q ⊢; simpa using q
        | some w =>
          rw [List.getElem?_set_self (List.getElem?_eq_some_iff.mp q).1]
          rfl
      · rw [List.getElem?_set_ne (Ne.symm hj)]
    rwa [e] at this
end
end Pv

/-! Snd6: comprehensions, dicts, fields, new instances, defs. -/
namespace Pv
open PySem L2
section
variable {cn : Cn} {en : Ent} {G G' : Addr → Prop} {H H' : Hp} {fr fr' : List (V × D)} {ps : PS} {σ : L2.St}
mutual
theorem frz_id : ∀ d : D, d.isF = true → d.frz = d
  | .non, _ => rfl
  | .bl _, _ => rfl
  | .int _, _ => rfl
  | .str _, _ => rfl
  | .tup ds, h => by simp only [D.frz]; rw [frzL_id ds (by simpa only [D.isF] using h)]
  | .lst o ds, h => by
    simp only [D.isF, Bool.and_eq_true, Bool.not_eq_true'] at h
    simp only [D.frz]; rw [frzL_id ds h.2, h.1]
  | .xt ds, _ => rfl
  | .xl ds, _ => rfl
  | .dic o t ks ds, h => by
    simp only [D.isF, Bool.and_eq_true, Bool.not_eq_true'] at h
    simp only [D.frz]; rw [frzL_id ds h.2, h.1]
  | .ins o c fs ds, h => by
    simp only [D.isF, Bool.and_eq_true, Bool.not_eq_true'] at h
    simp only [D.frz]; rw [frzL_id ds h.2, h.1]
theorem frzL_id : ∀ ds : List D, isFL ds = true → frzL ds = ds
  | [], _ => rfl
  | d :: ds, h => by
    simp only [isFL, Bool.and_eq_true] at h
    simp only [frzL]; rw [frz_id d h.1, frzL_id ds h.2]
end
theorem isFL_append {xs ys : List D} : isFL (xs ++ ys) = (isFL xs && isFL ys) := by
  induction xs with
  | nil => simp [isFL]
  | cons x xs ih => simp [isFL, ih, Bool.and_assoc]
theorem wipe_mem {σ : L2.St} : ∀ {vs : List Nat} {j : Nat}, j ∈ vs → j < σ.length → (L2.wipe σ vs)[j]? = some none
  | v :: vs, j, h, hl => by
    unfold L2.wipe
    by_cases e : j = v
    · subst e; rw [List.getElem?_set_self (by rw [wipe_length]; exact hl)]
    · rw [List.getElem?_set_ne (fun z => e z.symm)]
      exact wipe_mem ((List.mem_cons.mp h).resolve_left e) hl
theorem wipe_out {σ : L2.St} : ∀ {vs : List Nat} {j : Nat}, j ∉ vs → (L2.wipe σ vs)[j]? = σ[j]?
  | [], j, _ => rfl
  | v :: vs, j, h => by
    unfold L2.wipe
    rw [List.getElem?_set_ne (fun z => h (by simp [z]))]
    exact wipe_out fun z => h (List.mem_cons_of_mem _ z)
theorem wipe_els {σ σ' : L2.St} {vs is : List Nat} (h : Els is (L2.wipe σ vs) σ') (hs : ∀ j ∈ is, j ∈ vs) : L2.wipe σ' vs = L2.wipe σ vs := by
  obtain ⟨hl, he⟩ := h
  rw [wipe_length] at hl
  refine List.ext_getElem? fun j => ?_
  by_cases hj : j ∈ vs
  · by_cases hjl : j < σ.length
    · rw [wipe_mem hj (by omega), wipe_mem hj hjl]
    · rw [List.getElem?_eq_none (by rw [wipe_length]; omega), List.getElem?_eq_none (by rw [wipe_length]; omega)]
  · rw [wipe_out hj, he j (fun z => hj (hs j z))]
/-- a comprehension -/
theorem gd_comp {wi : TI} {g : TG} {tt : TT} {te : TE} {it : Its} {t : Tg} {own : List Nat} {ifs : GT} {elt : GE} {o : Bool} (hi : GdIt cn wi it) (hg : GdTg cn g t) (ht : GdTG cn tt ifs) (he : GdG cn te elt) (hs : ∀ j ∈ t.sl, j ∈ own) :
    GdG cn (tLc wi g tt te own) (gComp o it t own ifs elt) := fun en G fr ps σ H d ps' Q R e k => by
  unfold gComp at e
  cases ei : it ps with
  | none => rw [ei] at e; cases e
  | some x =>
    rw [ei] at e
    obtain ⟨xs, ps1⟩ := x
    simp only [Option.bind_some] at e
    cases ec : compP t own ifs elt xs [] (Pv.clr own ps1) with
    | none => rw [ec] at e; cases e
    | some r =>
      rw [ec] at e
      obtain ⟨res, psf⟩ := r
      cases e
      refine hi en G fr ps σ H xs ps1 _ R ei fun J H1 G1 ex R1 wk => fun Da hDa => ?_
      have cl : ∀ {q : PS}, ∀ j ∈ own, (Pv.clr own q)[j]? = some .no ∨ (Pv.clr own q)[j]? = none := fun j hj => clr_at (.inl hj)
      obtain ⟨G2, _, R2⟩ := (RR.wipe (vs := own) R1.clr cl).newLst (ds := []) (vs := []) true hDa (by simp only [RepL]; exact ⟨trivial, trivial⟩)
      refine ⟨fun i m H => m + i = xs.length ∧ ∃ G psi acc, RR cn en G ((.ref Da, .lst true acc) :: (ex ++ fr)) psi (L2.wipe σ own) H ∧ (∀ j ∈ own, psi[j]? = some .no ∨ psi[j]? = none) ∧ isFL acc = true ∧ compP t own ifs elt (xs.drop i) acc psi = some (res, psf),
        ⟨xs.length, by omega, G2, _, [], R2, cl, rfl, by rw [List.drop_zero]; exact ec⟩, fun i m H3 hW => ?_⟩
      obtain ⟨hm, G3, psi, acc, R3, hown, hacc, ef⟩ := hW
      have P : ∀ {a b : V × D} {l m : List (V × D)}, (a :: (l ++ m)).Perm (l ++ a :: m) := List.perm_middle.symm
      cases hx : xs[i]? with
      | none =>
        have hl : xs.length ≤ i := by simpa using hx
        have ei : i = xs.length := by omega
        subst ei
        rw [List.drop_length, compP] at ef
        cases ef
        refine .inl ⟨wk.2 en G3 _ _ _ H3 (RR.perm List.perm_middle.symm R3), ?_⟩
        have R4 : RR cn en G3 ((.ref Da, .lst true res) :: fr) psf σ H3 := RR.unwipe (RR.dropL (cs := ex) (RR.perm List.perm_middle.symm R3)) hown
        cases o with
        | true => exact k _ H3 G3 R4
        | false =>
          obtain ⟨G5, _, R5⟩ := R4.fz
          simp only [D.frz, frzL_id res hacc] at R5
          exact k _ H3 G5 R5
      | some d =>
        have hl : i < xs.length := (List.getElem?_eq_some_iff.mp hx).1
        rw [drop_get hx, compP] at ef
        obtain ⟨go, yl⟩ := wk.1 en G3 ((.ref Da, .lst true acc) :: fr) psi _ H3 i d hx (RR.perm List.perm_middle.symm R3)
        cases ep : t.put d (Pv.clr own psi) with
        | none => rw [ep] at ef; cases ef
        | some psa =>
          rw [ep] at ef
          simp only [Option.bind_some] at ef
          cases eb : ifs psa with
          | none => rw [eb] at ef; cases ef
          | some r =>
            rw [eb] at ef
            obtain ⟨b, psb⟩ := r
            simp only [Option.bind_some] at ef
            refine .inr ⟨go, fun H' => ∃ G psn acc', RR cn en G ((.ref Da, .lst true acc') :: (ex ++ fr)) psn (L2.wipe σ own) H' ∧ (∀ j ∈ own, psn[j]? = some .no ∨ psn[j]? = none) ∧ isFL acc' = true ∧ compP t own ifs elt (xs.drop (i + 1)) acc' psn = some (res, psf),
              fun H' ⟨G', psn, acc', q1, q2, q3, q4⟩ => ⟨m - 1, by omega, by omega, G', psn, acc', q1, q2, q3, q4⟩, fun x H' y => ?_⟩
            obtain ⟨G4, R4⟩ := yl x H' y
            refine hg en G4 (ex ++ (.ref Da, .lst true acc) :: fr) _ _ H' x d psa _ R4.clr ep fun σ3 es R5 => ?_
            have ew := wipe_els es hs
            refine ⟨ew, ?_⟩
            refine ht en G4 _ psa σ3 H' b psb _ R5 eb fun H5 G5 R6 => ?_
            cases b with
            | false =>
              rw [if_neg (by decide)] at ef ⊢
              refine ⟨G5, _, acc, ?_, cl, hacc, ef⟩
              rw [← ew]
              exact RR.wipe (RR.perm List.perm_middle R6).clr cl
            | true =>
              rw [if_pos rfl] at ef ⊢
              cases ee : elt psb with
              | none => rw [ee] at ef; cases ef
              | some r =>
                rw [ee] at ef
                obtain ⟨d2, psc⟩ := r
                simp only [Option.bind_some] at ef
                split at ef
                · rename_i hc
                  refine he en G5 _ psb σ3 H5 d2 psc _ R6 ee fun w H6 G6 R7 => ?_
                  have R8 : RR cn en G6 ((.ref Da, .lst true acc) :: (w, d2) :: (ex ++ fr)) psc σ3 H6 :=
                    RR.perm (by
                      refine List.Perm.trans (List.Perm.cons _ List.perm_middle) ?_
                      exact List.Perm.swap _ _ _) R7
                  obtain ⟨U, r⟩ := R8.view
                  obtain ⟨a', vs, T, ev, ha, rl, _⟩ := lst_own r
                  cases ev
                  obtain ⟨W, rw_⟩ := R8.drop.view
                  have eW := Rep.nil _ _ _ hc.1 rw_
                  subst eW
                  refine ⟨vs, ha, by rw [← rl.length]; exact Nat.lt_of_lt_of_le hc.2 cap_le, G6, _, acc ++ [d2], ?_, cl, by rw [isFL_append, hacc]; simp [isFL, hc.1], ef⟩
                  rw [← ew]
                  refine RR.wipe (RR.clr ?_) cl
                  have R9 := R8.wrL (vs' := vs ++ [w]) (ds' := acc ++ [d2]) ha fun T rl => ⟨T ++ [], rl.append (RepL.one rw_), fun b => by simp⟩
                  exact RR.drop (RR.perm (List.Perm.swap _ _ _) R9)
                · cases ef
theorem gd_yes : GdTG cn tYes (fun ps => some (true, ps)) := fun en G fr ps σ H b ps' Q R e k => by
  cases e
  exact k H G R
/-! ### defs -/
/-- a def that only looks at its arguments -/
def SpQ (cn : Cn) (f : List D → Option D) : Sp := fun vs H Q _ => ∃ (G : Addr → Prop) (ds : List D) (d : D), (∀ a, G a → H a ≠ none) ∧ RepW cn G H ds vs ∧ f ds = some d ∧
  ∀ v H' G' U, Same H H' → (∀ a, G a → G' a) → (∀ a, G' a → H' a ≠ none) → (∀ a, G' a → G a ∨ H a = none) → Rep cn G' H' d v U → (∀ a ∈ U, ¬ G' a ∧ H a = none) → (∀ a, U.count a ≤ 1) → Q v H'
theorem SpQ.imp {f f' : List D → Option D} (h : ∀ ds d, f' ds = some d → f ds = some d) : ∀ vs H Q E, SpQ cn f' vs H Q E → SpQ cn f vs H Q E := fun vs H Q E ⟨G, ds, d, h1, h2, h3, h4⟩ => ⟨G, ds, d, h1, h2, h ds d h3, h4⟩
/-- the heap has grown by what a callee made -/
theorem RR.grown {v : V} {d : D} {U : List Addr} (R : RR cn en G fr ps σ H) (s : Same H H') (hg : ∀ a, G a → G' a) (dG : ∀ a, G' a → H' a ≠ none) (gn : ∀ a, G' a → G a ∨ H a = none) (r : Rep cn G' H' d v U) (hU : ∀ a ∈ U, ¬ G' a ∧ H a = none) (hc : ∀ a, U.count a ≤ 1) :
    RR cn en G' ((v, d) :: fr) ps σ H' := by
  obtain ⟨S, T, hS, hT, g⟩ := R
  have ks : ∀ b, H b ≠ none → H' b = H b := fun b z => same_keep s z
  have hV : ∀ b, en.H b ≠ none → b ∉ en.S → H' b = H b := fun b z _ => ks b (g.grow b z)
  have dm : ∀ b ∈ S ++ T, H b ≠ none := fun b hb => (List.mem_append.mp hb).elim (RepS.dom hS b) (RepF.dom hT b)
  have en0 : ∀ a, H a = none → en.H a = none := fun a z => Classical.byContradiction fun q => g.grow a q z
  refine ⟨S, U ++ T, hS.frame hg (fun b z => ks b (g.dom b z)) hV (fun b hb => ks b (RepS.dom hS b hb)), ?_, dG, fun b x e hb => ?_, fun a z => hg a (g.gIn a z), fun a z => ?_, fun a => ?_, fun a ha z => ?_, fun a ha => ?_, fun b z => by rw [ks b (g.grow b z)]; exact g.grow b z⟩
  · simp only [RepF]
    exact ⟨U, T, rfl, r, RepF.frame hg (fun b z => ks b (g.dom b z)) hT (fun b hb => ks b (RepF.dom hT b hb))⟩
  · rw [ks b (g.grow b (by rw [e]; exact fun q => nomatch q))]; exact g.keep b x e hb
  · rcases gn a z with q | q
    · exact g.gOut a q
    · exact .inr (.inr (en0 a q))
  · have c1 := g.cnt a
    have c2 := hc a
    simp only [List.count_append] at *
    by_cases z : a ∈ U
    · have : a ∉ S ++ T := fun q => dm a q (hU a z).2
      have c3 : (S ++ T).count a = 0 := List.count_eq_zero.mpr this
      simp only [List.count_append] at c3
      omega
    · have : U.count a = 0 := List.count_eq_zero.mpr z
      omega
  · have ha' : a ∈ U ∨ a ∈ S ++ T := by
      simp only [List.mem_append] at ha ⊢
      rcases ha with q | q | q
      · exact .inr (.inl q)
      · exact .inl q
      · exact .inr (.inr q)
    rcases ha' with q | q
    · exact (hU a q).1 z
    · rcases gn a z with w | w
      · exact g.off a q w
      · exact dm a q w
  · have ha' : a ∈ U ∨ a ∈ S ++ T := by
      simp only [List.mem_append] at ha ⊢
      rcases ha with q | q | q
      · exact .inr (.inl q)
      · exact .inl q
      · exact .inr (.inr q)
    rcases ha' with q | q
    · exact .inr (en0 a (hU a q).2)
    · exact g.av a q
/-- the call -/
theorem gd_fn {t : TA} {E : XK} {f : List D → Option D} {as : List QE} (ha : GdA cn t (qAs as)) : GdQ cn (tCall (SpQ cn f) [] E t) (qCall f as) := fun en G fr ps σ H d Q R e k => by
  unfold qCall at e
  cases ea : qAs as ps with
  | none => rw [ea] at e; cases e
  | some xs =>
    rw [ea] at e
    refine ha en G fr ps σ H xs _ R ea fun vs H1 G1 s1 g1 R1 r1 => ?_
    refine ⟨G1, xs, d, R1.dom, by rw [List.append_nil]; exact r1, e, fun v H2 G2 U s2 g2 d2 n2 r2 u2 c2 => ?_⟩
    exact k v H2 G2 (s1.trans s2) (fun a q => g2 a (g1 a q)) (R1.grown s2 g2 d2 n2 r2 u2 c2)
/-- the slots at a quiet def's entry -/
theorem RepS.ini : ∀ {ds : List D} {vs : List V} {k n m : Nat} {en : Ent}, en.S = [] → (∀ a, en.H a = H a) → RepW cn G H ds vs → n = m →
    RepS cn en G H (ds.map .vw ++ List.replicate n .no) (vs.map some ++ List.replicate m none) k []
  | [], vs, k, n, m, en, h1, h2, h3, hn => by
    have ev : vs = [] := h3
    subst ev hn
    simp only [List.map_nil, List.nil_append]
    induction n generalizing k with
    | zero => simp only [List.replicate_zero, RepS]; exact ⟨trivial, trivial⟩
    | succ n ih =>
      simp only [List.replicate_succ, RepS]
      exact ⟨none, _, [], [], rfl, rfl, rfl, ih _⟩
  | d :: ds, vs, k, n, m, en, h1, h2, h3, hn => by
    simp only [RepW] at h3
    obtain ⟨v, r, U, e, hr, h4⟩ := h3
    subst e
    simp only [List.map_cons, List.cons_append, RepS]
    refine ⟨some v, _, [], [], rfl, rfl, ⟨v, U, rfl, hr, fun a ha => ⟨by rw [h2]; exact Rep.dom _ _ _ hr a ha, by rw [h1]; simp⟩, rfl⟩, RepS.ini h1 h2 h4 hn⟩
/-- a quiet def, by its body -/
theorem run_q {m n : Nat} {body : S} {t : TS} {vs : List V} {Q : VK} {E : XK} (hb : GdS cn t body) (h : SpQ cn (runQ m n body) vs H Q E) (N : List Str) (hN : N.length = m + n) :
    t { nx := fun _ H' => Q .non H', rt := Q } (L2.start N vs) H := by
  obtain ⟨G, ds, d, dG, hw, e, k⟩ := h
  unfold runQ at e
  split at e
  · rename_i hm
    cases eb : body (ds.map .vw ++ List.replicate n .no) with
    | none => rw [eb] at e; cases e
    | some r =>
      rw [eb] at e
      obtain ⟨c, psf⟩ := r
      have hlen := hw.length
      have R0 : RR cn ⟨H, [], G, vs⟩ G [] (ds.map .vw ++ List.replicate n .no) (L2.start N vs) H := by
        refine ⟨[], [], ?_, rfl, dG, fun b x e _ => e, fun _ z => z, fun _ z => .inl z, fun a => by simp, fun a ha => by simp at ha, fun a ha => by simp at ha, fun _ z => z⟩
        unfold L2.start
        exact RepS.ini rfl (fun _ => rfl) hw (by omega)
      have fin : ∀ {v : V} {σ' : L2.St} {H' : Hp} {G' : Addr → Prop} {d : D} {psf : PS}, RR cn ⟨H, [], G, vs⟩ G' [(v, d)] psf σ' H' → ∃ U, Same H H' ∧ (∀ a, G a → G' a) ∧ (∀ a, G' a → H' a ≠ none) ∧ (∀ a, G' a → G a ∨ H a = none) ∧ Rep cn G' H' d v U ∧ (∀ a ∈ U, ¬ G' a ∧ H a = none) ∧ (∀ a, U.count a ≤ 1) := by
        intro v σ' H' G' d psf R
        obtain ⟨S, T, hS, hT, g⟩ := R
        simp only [RepF] at hT
        obtain ⟨T1, T2, eT, r, _⟩ := hT
        subst eT
        refine ⟨T1, fun b x e => g.keep b x e (by simp), g.gIn, g.dom, fun a z => ?_, r, fun a ha => ⟨g.off a (by simp [ha]), ?_⟩, fun a => ?_⟩
        · rcases g.gOut a z with q | q | q
          · exact .inl q
          · simp at q
          · exact .inr q
        · rcases g.av a (by simp [ha]) with q | q
          · simp at q
          · exact q
        · have := g.cnt a
          simp only [List.count_append] at this
          omega
      refine hb ⟨H, [], G, vs⟩ G [] _ _ H _ c psf R0 eb ?_
      cases c with
      | rt x =>
        cases e
        intro v σ' H' G' R'
        obtain ⟨U, p1, p2, p3, p4, p5, p6, p7⟩ := fin R'
        exact k v H' G' U p1 p2 p3 p4 p5 p6 p7
      | nx =>
        cases e
        intro σ' H' G' R'
        obtain ⟨U, p1, p2, p3, p4, p5, p6, p7⟩ := fin (R'.push (v := .non) (d := .non) rfl (atV_rep rfl))
        exact k .non H' G' U p1 p2 p3 p4 p5 p6 p7
      | bk => cases e
      | ct => cases e
  · cases e
end
end Pv

/-! Snd7: defs that are handed something to change. -/
namespace Pv
open PySem L2
def ioF : List Bool → List V → List D → List (V × D)
  | true :: ms, v :: vs, d :: ds => (v, d) :: ioF ms vs ds
  | false :: ms, _ :: vs, _ :: ds => ioF ms vs ds
  | _, _, _ => []
def ioO : List Bool → List V → List D → List (V × D)
  | true :: ms, v :: vs, o :: os => (v, o) :: ioO ms vs os
  | false :: ms, _ :: vs, os => ioO ms vs os
  | _, _, _ => []
/-- the arguments that are only looked at -/
def VwA (cn : Cn) (G : Addr → Prop) (H : Hp) (S : List Addr) : List Bool → List V → List D → Prop
  | true :: ms, _ :: vs, _ :: ds => VwA cn G H S ms vs ds
  | false :: ms, v :: vs, d :: ds => (∃ U, Rep cn G H d v U ∧ ∀ a ∈ U, a ∉ S) ∧ VwA cn G H S ms vs ds
  | [], [], [] => True
  | _, _, _ => False
/-- a def with some arguments handed in and out -/
def SpG (cn : Cn) (ms : List Bool) (f : List D → Option (D × List D)) : Sp := fun vs H Q _ => ∃ (G : Addr → Prop) (ds : List D) (S : List Addr) (d : D) (os : List D), (∀ a, G a → H a ≠ none) ∧ RepF cn G H (ioF ms vs ds) S ∧ VwA cn G H S ms vs ds ∧ (∀ a, S.count a ≤ 1) ∧ (∀ a ∈ S, ¬ G a) ∧ f ds = some (d, os) ∧
  ∀ v H' G' T', (∀ b o, H b = some o → b ∉ S → H' b = some o) → (∀ a, G a → G' a) → (∀ a, G' a → H' a ≠ none) → (∀ a, G' a → G a ∨ a ∈ S ∨ H a = none) → (∀ b, H b ≠ none → H' b ≠ none) → RepF cn G' H' ((v, d) :: ioO ms vs os) T' → (∀ a, T'.count a ≤ 1) → (∀ a ∈ T', ¬ G' a ∧ (a ∈ S ∨ H a = none)) → Q v H'
theorem SpG.imp {cn : Cn} {ms : List Bool} {f f' : List D → Option (D × List D)} (h : ∀ ds d, f' ds = some d → f ds = some d) : ∀ vs H Q E, SpG cn ms f' vs H Q E → SpG cn ms f vs H Q E := fun vs H Q E ⟨G, ds, S, d, os, h1, h2, h3, h4, h5, h6, h7⟩ => ⟨G, ds, S, d, os, h1, h2, h3, h4, h5, h _ _ h6, h7⟩
section
variable {cn : Cn} {en : Ent} {G G' : Addr → Prop} {H H' : Hp} {fr fr' : List (V × D)} {ps : PS} {σ : L2.St}
/-- behind a call that was handed ios -/
theorem RR.called {ios ios' : List (V × D)} {S0 T0 Sx T' : List Addr} (hS : RepS cn en G H ps σ 0 S0) (hf : RepF cn G H fr T0) (g : Gk en G H (S0 ++ (Sx ++ T0)))
    (kp : ∀ b o, H b = some o → b ∉ Sx → H' b = some o) (hg : ∀ a, G a → G' a) (dG : ∀ a, G' a → H' a ≠ none) (gn : ∀ a, G' a → G a ∨ a ∈ Sx ∨ H a = none) (gr : ∀ b, H b ≠ none → H' b ≠ none)
    (r : RepF cn G' H' ios' T') (hc : ∀ a, T'.count a ≤ 1) (hT : ∀ a ∈ T', ¬ G' a ∧ (a ∈ Sx ∨ H a = none)) : RR cn en G' (ios' ++ fr) ps σ H' := by
  have hp : ∀ b, H b ≠ none → b ∉ Sx → H' b = H b := fun b z w => by
    cases e : H b with
    | none => exact absurd e z
    | some o => exact kp b o e w
  have gS : ∀ a, G a → a ∉ Sx := fun a z w => g.off a (by simp [w]) z
  have nS : ∀ a ∈ S0, a ∉ Sx := fun a z w => by
    have c := g.cnt a
    have c1 := cnt_mem.mp z
    have c2 := cnt_mem.mp w
    simp only [List.count_append] at c
    omega
  have nT : ∀ a ∈ T0, a ∉ Sx := fun a z w => by
    have c := g.cnt a
    have c1 := cnt_mem.mp z
    have c2 := cnt_mem.mp w
    simp only [List.count_append] at c
    omega
  have nV : ∀ b, en.H b ≠ none → b ∉ en.S → b ∉ Sx := fun b z w q => by
    rcases g.av b (by simp [q]) with e | e
    · exact w e
    · exact z e
  have hV : ∀ b, en.H b ≠ none → b ∉ en.S → H' b = H b := fun b z w => hp b (g.grow b z) (nV b z w)
  have hG : Agr G H H' := fun b z => hp b (g.dom b z) (gS b z)
  have en0 : ∀ a, H a = none → en.H a = none := fun a z => Classical.byContradiction fun q => g.grow a q z
  have dS : ∀ b ∈ S0, H b ≠ none := RepS.dom hS
  have dT : ∀ b ∈ T0, H b ≠ none := RepF.dom hf
  have av' : ∀ a ∈ T', a ∈ en.S ∨ en.H a = none := fun a z => by
    rcases (hT a z).2 with q | q
    · exact g.av a (by simp [q])
    · exact .inr (en0 a q)
  refine ⟨S0, T' ++ T0, hS.frame hg hG hV (fun b hb => hp b (dS b hb) (nS b hb)), RepF.append.mpr ⟨T', T0, rfl, r, RepF.frame hg hG hf (fun b hb => hp b (dT b hb) (nT b hb))⟩, dG, fun b x e hb => ?_, fun a z => hg a (g.gIn a z), fun a z => ?_, fun a => ?_, fun a ha z => ?_, fun a ha => ?_, fun b z => gr b (g.grow b z)⟩
  · rw [hV b (by rw [e]; exact fun q => nomatch q) hb]; exact g.keep b x e hb
  · rcases gn a z with q | q | q
    · exact g.gOut a q
    · rcases g.av a (by simp [q]) with w | w
      · exact .inr (.inl w)
      · exact .inr (.inr w)
    · exact .inr (.inr (en0 a q))
  · have c1 := g.cnt a
    have c2 := hc a
    simp only [List.count_append] at *
    by_cases z : a ∈ T'
    · have n1 : S0.count a = 0 := List.count_eq_zero.mpr fun w => by
        rcases (hT a z).2 with q | q
        · exact nS a w q
        · exact dS a w q
      have n2 : T0.count a = 0 := List.count_eq_zero.mpr fun w => by
        rcases (hT a z).2 with q | q
        · exact nT a w q
        · exact dT a w q
      omega
    · have : T'.count a = 0 := List.count_eq_zero.mpr z
      omega
  · simp only [List.mem_append] at ha
    rcases ha with q | q | q
    · rcases gn a z with w | w | w
      · exact g.off a (by simp [q]) w
      · exact nS a q w
      · exact dS a q w
    · exact (hT a q).1 z
    · rcases gn a z with w | w | w
      · exact g.off a (by simp [q]) w
      · exact nT a q w
      · exact dT a q w
  · simp only [List.mem_append] at ha
    rcases ha with q | q | q
    · exact g.av a (by simp [q])
    · exact av' a q
    · exact g.av a (by simp [q])
/-- an argument list as it was reckoned: what stands where -/
def ArgV (σ : L2.St) : List Arg → List (Sum Nat D) → List V → List (V × D) → Prop
  | [], [], vs, T => vs = [] ∧ T = []
  | .io i :: as, _ :: xs, vs, T => ∃ v r, vs = v :: r ∧ σ[i]? = some (some v) ∧ ArgV σ as xs r T
  | .vs i :: as, _ :: xs, vs, T => ∃ v r, vs = v :: r ∧ σ[i]? = some (some v) ∧ ArgV σ as xs r T
  | .ex _ :: as, .inr d :: xs, vs, T => ∃ v r T', vs = v :: r ∧ T = (v, d) :: T' ∧ ArgV σ as xs r T'
  | _, _, _, _ => False
def GdAr (cn : Cn) (t : TA) (as : List Arg) : Prop := ∀ (en : Ent) (G : Addr → Prop) (fr : List (V × D)) (ps : PS) (σ : L2.St) (H : Hp) (xs : List (Sum Nat D)) (ps' : PS) (Q : List V → Hp → Prop), RR cn en G fr ps σ H → aGo as ps = some (xs, ps') →
  (∀ vs H' G' T, ArgV σ as xs vs T → RR cn en G' (T ++ fr) ps' σ H' → Q vs H') → t σ H Q
theorem ar_nil : GdAr cn tNil [] := fun en G fr ps σ H xs ps' Q R e k => by
  cases e
  exact k [] H G [] ⟨rfl, rfl⟩ R
theorem ar_slot {t : TA} {as : List Arg} {i : Nat} {a : Arg} (ha : a = .io i ∨ a = .vs i) (h : GdAr cn t as) : GdAr cn (tCons (tVar i) t) (a :: as) := fun en G fr ps σ H xs ps' Q R e k => by
  have e' : (Pv.rd ps i).bind (fun _ => (aGo as ps).bind fun xs => some (Sum.inl i :: xs.1, xs.2)) = some (xs, ps') := by
    rcases ha with z | z <;> subst z <;> exact e
  cases er : Pv.rd ps i with
  | none => rw [er] at e'; cases e'
  | some d =>
    rw [er] at e'
    simp only [Option.bind_some] at e'
    cases eg : aGo as ps with
    | none => rw [eg] at e'; cases e'
    | some r =>
      rw [eg] at e'
      cases e'
      obtain ⟨v, U, hv, _⟩ := R.rd er
      refine ⟨v, hv, ?_⟩
      refine h en G fr ps σ H r.1 r.2 _ R eg fun vs H' G' T hT R' => k (v :: vs) H' G' T ?_ R'
      rcases ha with z | z <;> subst z <;> exact ⟨v, vs, rfl, hv, hT⟩
theorem ar_ex {te : TE} {t : TA} {as : List Arg} {f : GE} (h1 : GdG cn te f) (h : GdAr cn t as) : GdAr cn (tCons te t) (.ex f :: as) := fun en G fr ps σ H xs ps' Q R e k => by
  simp only [aGo] at e
  cases ef : f ps with
  | none => rw [ef] at e; cases e
  | some x =>
    rw [ef] at e
    simp only [Option.bind_some] at e
    cases eg : aGo as x.2 with
    | none => rw [eg] at e; cases e
    | some r =>
      rw [eg] at e
      cases e
      refine h1 en G fr ps σ H x.1 x.2 _ R ef fun v H1 G1 R1 => ?_
      refine h en G1 _ x.2 σ H1 r.1 r.2 _ R1 eg fun vs H' G' T hT R' => k (v :: vs) H' G' ((v, x.1) :: T) ⟨v, vs, T, rfl, rfl, hT⟩ (RR.perm List.perm_middle R')
def arM : List Arg → List Bool
  | [] => []
  | .io _ :: as => true :: arM as
  | .vs _ :: as => false :: arM as
  | .ex _ :: as => false :: arM as
/-- the slots emptied: their contents are temporaries -/
theorem aTk_ok {σ0 : PS} : ∀ {as : List Arg} {xs : List (Sum Nat D)} {vs : List V} {T : List (V × D)} {ps τ : PS} {fr : List (V × D)} {τ' : PS} {ds : List D}, ArgV σ as xs vs T → RR cn en G fr ps σ H → aTk as ps = some τ → (∀ i, rdM ps i ≠ none → rdM σ0 i = rdM ps i) → aDs as xs σ0 τ' = some ds →
    RR cn en G (ioF (arM as) vs ds ++ fr) τ σ H
  | [], xs, vs, T, ps, τ, fr, τ', ds, hA, R, e, ho, ed => by
    cases e
    simp only [arM, ioF, List.nil_append]
    exact R
  | .io i :: as, [], vs, T, ps, τ, fr, τ', ds, hA, R, e, ho, ed => by cases ed
  | .io i :: as, x :: xs, vs, T, ps, τ, fr, τ', ds, hA, R, e, ho, ed => by
    obtain ⟨v, r, ev, hv, hA⟩ := hA
    subst ev
    simp only [aTk] at e
    cases er : rdM ps i with
    | none => rw [er] at e; cases e
    | some d =>
      rw [er] at e
      simp only [Option.bind_some] at e
      simp only [aDs] at ed
      have eo := ho i (by rw [er]; exact fun q => nomatch q)
      rw [er] at eo
      rw [eo] at ed
      simp only [Option.bind_some] at ed
      cases ed2 : aDs as xs σ0 τ' with
      | none => rw [ed2] at ed; cases ed
      | some ds' =>
        rw [ed2] at ed
        cases ed
        obtain ⟨v', hv', R2, _⟩ := R.lend er
        rw [hv] at hv'
        cases hv'
        have ih := aTk_ok (σ0 := σ0) hA R2 e (fun j hj => ?_) ed2
        · simp only [arM, ioF]
          exact RR.perm List.perm_middle ih
        · by_cases ej : j = i
          · subst ej
            exfalso
            apply hj
            unfold rdM
            by_cases hl : j < ps.length
            · rw [List.getElem?_set_self hl]
            · rw [List.getElem?_eq_none (by simp; omega)]
          · have e1 : rdM (ps.set i .no) j = rdM ps j := by
              unfold rdM
              rw [List.getElem?_set_ne (fun z => ej z.symm)]
            rw [e1] at hj ⊢
            exact ho j hj
  | .vs i :: as, [], vs, T, ps, τ, fr, τ', ds, hA, R, e, ho, ed => by cases ed
  | .vs i :: as, x :: xs, vs, T, ps, τ, fr, τ', ds, hA, R, e, ho, ed => by
    obtain ⟨v, r, ev, hv, hA⟩ := hA
    subst ev
    simp only [aTk] at e
    simp only [aDs] at ed
    cases er : Pv.rd τ' i with
    | none => rw [er] at ed; cases ed
    | some d =>
      rw [er] at ed
      simp only [Option.bind_some] at ed
      cases ed2 : aDs as xs σ0 τ' with
      | none => rw [ed2] at ed; cases ed
      | some ds' =>
        rw [ed2] at ed
        cases ed
        simp only [arM, ioF]
        exact aTk_ok hA R e ho ed2
  | .ex f :: as, [], vs, T, ps, τ, fr, τ', ds, hA, R, e, ho, ed => by cases ed
  | .ex f :: as, .inl j :: xs, vs, T, ps, τ, fr, τ', ds, hA, R, e, ho, ed => by cases ed
  | .ex f :: as, .inr d :: xs, vs, T, ps, τ, fr, τ', ds, hA, R, e, ho, ed => by
    obtain ⟨v, r, T', ev, eT, hA⟩ := hA
    subst ev
    simp only [aTk] at e
    simp only [aDs] at ed
    split at ed
    · cases ed2 : aDs as xs σ0 τ' with
      | none => rw [ed2] at ed; cases ed
      | some ds' =>
        rw [ed2] at ed
        cases ed
        simp only [arM, ioF]
        exact aTk_ok hA R e ho ed2
    · cases ed
/-- a slot's content is apart from the temporaries -/
theorem rd_apart {i : Nat} {d : D} {S T : List Addr} (hS : RepS cn en G H ps σ 0 S) (g : Gk en G H (S ++ T)) (e : Pv.rd ps i = some d) : ∃ v U, σ[i]? = some (some v) ∧ Rep cn G H d v U ∧ ∀ a ∈ U, a ∉ T := by
  unfold Pv.rd at e
  split at e
  · rename_i s hs
    obtain ⟨o, S1, Si, S2, q1, q2, q3, q4⟩ := hS.take hs
    have own : ∀ a ∈ Si, a ∉ T := fun a z w => by
      have c := g.cnt a
      have c1 := cnt_mem.mp z
      have c2 := cnt_mem.mp w
      subst q2
      simp only [List.count_append] at c
      omega
    cases s with
    | no => cases e
    | ow d' => cases e; obtain ⟨v, e1, r⟩ := q3; subst e1; exact ⟨v, Si, q1, r, own⟩
    | io d' => cases e; obtain ⟨v, e1, _, r⟩ := q3; subst e1; exact ⟨v, Si, q1, r, own⟩
    | vw d' =>
      cases e
      obtain ⟨v, U, e1, r, hU, _⟩ := q3
      subst e1
      refine ⟨v, U, q1, r, fun a z w => ?_⟩
      rcases g.av a (by simp [w]) with q | q
      · exact (hU a z).2 q
      · exact (hU a z).1 q
  · cases e
theorem aDs_vw {σ0 : PS} {τ : PS} {S Sx T0 : List Addr} (hS : RepS cn en G H τ σ 0 S) (g : Gk en G H (S ++ (Sx ++ T0))) : ∀ {as : List Arg} {xs : List (Sum Nat D)} {vs : List V} {T : List (V × D)} {ds : List D}, ArgV σ as xs vs T → (∀ c ∈ T, ∃ U, Rep cn G H c.2 c.1 U) → aDs as xs σ0 τ = some ds → VwA cn G H Sx (arM as) vs ds
  | [], [], vs, T, ds, hA, hT, ed => by
    cases ed
    have ev : vs = [] := hA.1
    subst ev
    trivial
  | [], _ :: _, vs, T, ds, hA, hT, ed => by cases ed
  | .io i :: as, [], vs, T, ds, hA, hT, ed => by cases ed
  | .io i :: as, x :: xs, vs, T, ds, hA, hT, ed => by
    obtain ⟨v, r, ev, hv, hA⟩ := hA
    subst ev
    simp only [aDs] at ed
    cases er : rdM σ0 i with
    | none => rw [er] at ed; cases ed
    | some d =>
      rw [er] at ed
      simp only [Option.bind_some] at ed
      cases ed2 : aDs as xs σ0 τ with
      | none => rw [ed2] at ed; cases ed
      | some ds' =>
        rw [ed2] at ed
        cases ed
        simp only [arM, VwA]
        exact aDs_vw hS g hA hT ed2
  | .vs i :: as, [], vs, T, ds, hA, hT, ed => by cases ed
  | .vs i :: as, x :: xs, vs, T, ds, hA, hT, ed => by
    obtain ⟨v, r, ev, hv, hA⟩ := hA
    subst ev
    simp only [aDs] at ed
    cases er : Pv.rd τ i with
    | none => rw [er] at ed; cases ed
    | some d =>
      rw [er] at ed
      simp only [Option.bind_some] at ed
      cases ed2 : aDs as xs σ0 τ with
      | none => rw [ed2] at ed; cases ed
      | some ds' =>
        rw [ed2] at ed
        cases ed
        simp only [arM, VwA]
        obtain ⟨v', U, hv', r', hU⟩ := rd_apart hS g er
        rw [hv] at hv'
        cases hv'
        exact ⟨⟨U, r', fun a z w => hU a z (by simp [w])⟩, aDs_vw hS g hA hT ed2⟩
  | .ex f :: as, [], vs, T, ds, hA, hT, ed => by cases ed
  | .ex f :: as, .inl j :: xs, vs, T, ds, hA, hT, ed => by cases ed
  | .ex f :: as, .inr d :: xs, vs, T, ds, hA, hT, ed => by
    obtain ⟨v, r, T', ev, eT, hA⟩ := hA
    subst ev eT
    simp only [aDs] at ed
    split at ed
    · rename_i hf
      cases ed2 : aDs as xs σ0 τ with
      | none => rw [ed2] at ed; cases ed
      | some ds' =>
        rw [ed2] at ed
        cases ed
        simp only [arM, VwA]
        obtain ⟨U, r'⟩ := hT (v, d) List.mem_cons_self
        have eU := Rep.nil _ _ _ hf r'
        subst eU
        exact ⟨⟨[], r', fun a z => nomatch z⟩, aDs_vw hS g hA (fun c hc => hT c (List.mem_cons_of_mem _ hc)) ed2⟩
    · cases ed
/-- an empty slot filled from a temporary, with the standing that it had -/
theorem RR.giveB {i : Nat} {v : V} {d : D} {s : Sl} (R : RR cn en G ((v, d) :: fr) ps σ H) (hn : ps[i]? = some .no) (hv : σ[i]? = some (some v)) (hs : ∀ d0, s = .io d0 → en.vs[i]? = some v) : RR cn en G fr (ps.set i (s.put d)) σ H := by
  obtain ⟨S, T, hS, hT, g⟩ := R
  simp only [RepF] at hT
  obtain ⟨Sd, T2, eT, r, hf⟩ := hT
  subst eT
  have ok : SlOk cn en G H (s.put d) (some v) (0 + i) Sd := by
    cases s with
    | io d0 => rw [Nat.zero_add]; exact ⟨v, rfl, hs d0 rfl, r⟩
    | no => exact ⟨v, rfl, r⟩
    | ow d0 => exact ⟨v, rfl, r⟩
    | vw d0 => exact ⟨v, rfl, r⟩
  obtain ⟨S3, S4, e3, hS3⟩ := hS.give (s := s.put d) (o := some v) (Si := Sd) hn ok
  have eσ : σ.set i (some v) = σ := by
    refine List.ext_getElem? fun j => ?_
    by_cases hj : j = i
    · subst hj; rw [List.getElem?_set_self (List.getElem?_eq_some_iff.mp hv).1, hv]
    · rw [List.getElem?_set_ne (Ne.symm hj)]
  rw [eσ] at hS3
  subst e3
  have pm : ∀ a, a ∈ (S3 ++ (Sd ++ S4)) ++ T2 → a ∈ (S3 ++ S4) ++ (Sd ++ T2) := fun a ha => by
    rw [cnt_mem] at ha ⊢
    simp only [List.count_append] at *
    omega
  refine ⟨_, T2, hS3, hf, g.dom, g.keep, g.gIn, g.gOut, fun a => ?_, fun a ha => g.off a (pm a ha), fun a ha => g.av a (pm a ha), g.grow⟩
  have c1 := g.cnt a
  simp only [List.count_append] at *
  omega
theorem RR.ioVs {i : Nat} {d0 : D} (R : RR cn en G fr ps σ H) (h : ps[i]? = some (.io d0)) : ∃ v, σ[i]? = some (some v) ∧ en.vs[i]? = some v := by
  obtain ⟨S, T, hS, hT, g⟩ := R
  obtain ⟨o, S1, Si, S2, q1, q2, q3, q4⟩ := hS.take h
  obtain ⟨v, e1, e2, _⟩ := q3
  subst e1
  rw [Nat.zero_add] at e2
  exact ⟨v, q1, e2⟩
/-- handed back -/
theorem aBk_ok {σ0 : PS} (hio : ∀ (i : Nat) (d0 : D) (v : V), σ0[i]? = some (Sl.io d0) → σ[i]? = some (some v) → en.vs[i]? = some v) : ∀ {as : List Arg} {xs : List (Sum Nat D)} {vs : List V} {T : List (V × D)} {os : List D} {τ ps' : PS}, ArgV σ as xs vs T → RR cn en G (ioO (arM as) vs os ++ fr) τ σ H → aBk as os σ0 τ = some ps' → RR cn en G fr ps' σ H
  | [], [], vs, T, [], τ, ps', hA, R, e => by
    cases e
    simpa only [arM, ioO, List.nil_append] using R
  | [], xs, vs, T, o :: os, τ, ps', hA, R, e => by cases e
  | [], _ :: _, vs, T, [], τ, ps', hA, R, e => by cases hA
  | .io i :: as, [], vs, T, os, τ, ps', hA, R, e => by cases hA
  | .io i :: as, x :: xs, vs, T, [], τ, ps', hA, R, e => by cases e
  | .io i :: as, x :: xs, vs, T, o :: os, τ, ps', hA, R, e => by
    obtain ⟨v, r, ev, hv, hA⟩ := hA
    subst ev
    simp only [aBk] at e
    split at e
    · rename_i s h1 h2
      simp only [arM, ioO, List.cons_append] at R
      exact aBk_ok hio hA (R.giveB h2 hv fun d0 es => hio i d0 v (by rw [h1, es]) hv) e
    · cases e
  | .vs i :: as, [], vs, T, os, τ, ps', hA, R, e => by cases hA
  | .vs i :: as, x :: xs, vs, T, os, τ, ps', hA, R, e => by
    obtain ⟨v, r, ev, hv, hA⟩ := hA
    subst ev
    simp only [aBk] at e
    simp only [arM, ioO] at R
    exact aBk_ok hio hA R e
  | .ex f :: as, [], vs, T, os, τ, ps', hA, R, e => by cases hA
  | .ex f :: as, .inl j :: xs, vs, T, os, τ, ps', hA, R, e => by cases hA
  | .ex f :: as, .inr d :: xs, vs, T, os, τ, ps', hA, R, e => by
    obtain ⟨v, r, T', ev, eT, hA⟩ := hA
    subst ev eT
    simp only [aBk] at e
    simp only [arM, ioO] at R
    exact aBk_ok hio hA R e
theorem RepF.each : ∀ {cs : List (V × D)} {T : List Addr}, RepF cn G H cs T → ∀ c ∈ cs, ∃ U, Rep cn G H c.2 c.1 U
  | [], T, h, c, hc => by cases hc
  | c0 :: cs, T, h, c, hc => by
    simp only [RepF] at h
    obtain ⟨T1, T2, _, h1, h2⟩ := h
    rcases List.mem_cons.mp hc with z | z
    · subst z; exact ⟨T1, h1⟩
    · exact RepF.each h2 c z
/-- what a call of such a def is worth: q is what its promise is asked with -/
theorem gcall_core {f : List D → Option (D × List D)} {as : List Arg} {xs : List (Sum Nat D)} {vs : List V} {T : List (V × D)} {ps' τ ps2 : PS} {ds os : List D} {d : D} {Q : VK} {E : XK} (hA : ArgV σ as xs vs T) (R : RR cn en G (T ++ fr) ps' σ H)
    (e1 : aTk as ps' = some τ) (e2 : aDs as xs ps' τ = some ds) (e3 : f ds = some (d, os)) (e4 : aBk as os ps' τ = some ps2) (k : ∀ v H' G', RR cn en G' ((v, d) :: fr) ps2 σ H' → Q v H') : SpG cn (arM as) f vs H Q E := by
  have R1 := aTk_ok hA R e1 (fun _ _ => rfl) e2
  obtain ⟨S, T1, hS, hT, g⟩ := id R1
  obtain ⟨Sx, T0, eT, hx, h0⟩ := RepF.append.mp hT
  subst eT
  have hTv : ∀ c ∈ T, ∃ U, Rep cn G H c.2 c.1 U := by
    obtain ⟨Ta, Tb, _, ha, _⟩ := RepF.append.mp h0
    exact RepF.each ha
  have hio : ∀ (i : Nat) (d0 : D) (v : V), ps'[i]? = some (Sl.io d0) → σ[i]? = some (some v) → en.vs[i]? = some v := fun i d0 v h hv => by
    obtain ⟨v', hv', q⟩ := R.ioVs h
    rw [hv] at hv'
    cases hv'
    exact q
  refine ⟨G, ds, Sx, d, os, g.dom, hx, aDs_vw hS g hA hTv e2, fun a => ?_, fun a ha => g.off a (by simp [ha]), e3, fun v H' G' T' k1 k2 k3 k4 k5 k6 k7 k8 => ?_⟩
  · have := g.cnt a
    simp only [List.count_append] at this
    omega
  · have R2 : RR cn en G' (((v, d) :: ioO (arM as) vs os) ++ (T ++ fr)) τ σ H' := RR.called (ios := []) hS h0 g k1 k2 k3 k4 k5 k6 k7 k8
    refine k v H' G' ?_
    have R3 : RR cn en G' (ioO (arM as) vs os ++ ((v, d) :: (T ++ fr))) τ σ H' := RR.perm List.perm_middle.symm R2
    have R4 := aBk_ok hio hA R3 e4
    exact RR.dropL (cs := T) (RR.perm List.perm_middle.symm R4)
/-- the call -/
theorem gd_gfn {t : TA} {E : XK} {f : List D → Option (D × List D)} {as : List Arg} (ha : GdAr cn t as) : GdG cn (tCall (SpG cn (arM as) f) [] E t) (gCall f as) := fun en G fr ps σ H d ps2 Q R e k => by
  unfold gCall at e
  cases e0 : aGo as ps with
  | none => rw [e0] at e; cases e
  | some x =>
    rw [e0] at e
    obtain ⟨xs, ps'⟩ := x
    simp only [Option.bind_some] at e
    cases e1 : aTk as ps' with
    | none => rw [e1] at e; cases e
    | some τ =>
      rw [e1] at e
      simp only [Option.bind_some] at e
      cases e2 : aDs as xs ps' τ with
      | none => rw [e2] at e; cases e
      | some ds =>
        rw [e2] at e
        simp only [Option.bind_some] at e
        cases e3 : f ds with
        | none => rw [e3] at e; cases e
        | some r =>
          rw [e3] at e
          obtain ⟨d', os⟩ := r
          simp only [Option.bind_some] at e
          cases e4 : aBk as os ps' τ with
          | none => rw [e4] at e; cases e
          | some psz =>
            rw [e4] at e
            cases e
            refine ha en G fr ps σ H xs ps' _ R e0 fun vs H1 G1 T hA R1 => ?_
            rw [List.append_nil]
            exact gcall_core hA R1 e1 e2 e3 e4 k
/-! ### such a def by its body -/
theorem RepS.iniG : ∀ {ms : List Bool} {ds : List D} {vs : List V} {k n m : Nat} {en : Ent} {S : List Addr}, (∀ a, en.H a = H a) → (∀ j, vs[j]? = en.vs[k + j]?) → VwA cn G H en.S ms vs ds → RepF cn G H (ioF ms vs ds) S → n = m →
    RepS cn en G H (Pv.ini ms ds ++ List.replicate n .no) (vs.map some ++ List.replicate m none) k S
  | [], [], [], k, n, m, en, S, h2, h3, hw, hr, hn => by
    subst hn
    simp only [ioF, RepF] at hr
    subst hr
    simp only [Pv.ini, List.map_nil, List.nil_append]
    clear h3 hw
    induction n generalizing k with
    | zero => simp only [List.replicate_zero, RepS]; exact ⟨trivial, trivial⟩
    | succ n ih =>
      simp only [List.replicate_succ, RepS]
      exact ⟨none, _, [], [], rfl, rfl, rfl, ih _⟩
  | true :: ms, d :: ds, v :: vs, k, n, m, en, S, h2, h3, hw, hr, hn => by
    simp only [VwA] at hw
    simp only [ioF, RepF] at hr
    obtain ⟨S1, S2, eS, r1, r2⟩ := hr
    subst eS
    simp only [Pv.ini, List.map_cons, List.cons_append, RepS]
    refine ⟨some v, _, S1, S2, rfl, rfl, ⟨v, rfl, ?_, r1⟩, RepS.iniG h2 (fun j => ?_) hw r2 hn⟩
    · have := h3 0; simpa using this.symm
    · have := h3 (j + 1); rw [show k + 1 + j = k + (j + 1) by omega]; simpa using this
  | false :: ms, d :: ds, v :: vs, k, n, m, en, S, h2, h3, hw, hr, hn => by
    simp only [VwA] at hw
    obtain ⟨⟨U, r, hU⟩, hw⟩ := hw
    simp only [ioF] at hr
    simp only [Pv.ini, List.map_cons, List.cons_append, RepS]
    refine ⟨some v, _, [], S, rfl, rfl, ⟨v, U, rfl, r, fun a ha => ⟨by rw [h2]; exact Rep.dom _ _ _ r a ha, hU a ha⟩, rfl⟩, RepS.iniG h2 (fun j => ?_) hw hr hn⟩
    have := h3 (j + 1); rw [show k + 1 + j = k + (j + 1) by omega]; simpa using this
  | [], _ :: _, vs, k, n, m, en, S, h2, h3, hw, hr, hn => by cases vs <;> cases hw
  | [], [], _ :: _, k, n, m, en, S, h2, h3, hw, hr, hn => by cases hw
  | true :: ms, [], vs, k, n, m, en, S, h2, h3, hw, hr, hn => by cases vs <;> cases hw
  | false :: ms, [], vs, k, n, m, en, S, h2, h3, hw, hr, hn => by cases vs <;> cases hw
  | true :: ms, _ :: _, [], k, n, m, en, S, h2, h3, hw, hr, hn => by cases hw
  | false :: ms, _ :: _, [], k, n, m, en, S, h2, h3, hw, hr, hn => by cases hw
/-- at the end: what was handed in and out -/
theorem outs_ok : ∀ {ms : List Bool} {vs : List V} {ps : PS} {σ : L2.St} {k : Nat} {en : Ent} {S : List Addr} {os : List D}, RepS cn en G H ps σ k S → (∀ j, vs[j]? = en.vs[k + j]?) → ms.length = vs.length → outs ms ps = some os → ∃ S', RepF cn G H (ioO ms vs os) S' ∧ ∀ a, S'.count a ≤ S.count a
  | [], [], ps, σ, k, en, S, os, hS, hv, hl, e => ⟨[], by simp only [ioO, RepF], fun a => by simp⟩
  | [], _ :: _, ps, σ, k, en, S, os, hS, hv, hl, e => by simp at hl
  | m :: ms, [], ps, σ, k, en, S, os, hS, hv, hl, e => by simp at hl
  | true :: ms, v :: vs, [], σ, k, en, S, os, hS, hv, hl, e => by simp [outs] at e
  | false :: ms, v :: vs, [], σ, k, en, S, os, hS, hv, hl, e => by simp [outs] at e
  | true :: ms, v :: vs, s :: ps, σ, k, en, S, os, hS, hv, hl, e => by
    simp only [RepS] at hS
    obtain ⟨o, r, S1, S2, e1, e2, h1, h2⟩ := hS
    subst e1 e2
    cases s with
    | io d =>
      simp only [outs] at e
      cases eo : outs ms ps with
      | none => rw [eo] at e; cases e
      | some os' =>
        rw [eo] at e
        cases e
        obtain ⟨v', ev, hvs, hr⟩ := h1
        have e0 := hv 0
        simp only [List.getElem?_cons_zero, Nat.add_zero] at e0
        rw [← e0] at hvs
        cases hvs
        obtain ⟨S', q1, q2⟩ := outs_ok (vs := vs) (k := k + 1) h2 (fun j => by have := hv (j + 1); rw [show k + 1 + j = k + (j + 1) by omega]; simpa using this) (by simpa using hl) eo
        refine ⟨S1 ++ S', ?_, fun a => by have := q2 a; rw [List.count_append, List.count_append]; omega⟩
        simp only [ioO, RepF]
        exact ⟨S1, S', rfl, hr, q1⟩
    | no => simp [outs] at e
    | ow d => simp [outs] at e
    | vw d => simp [outs] at e
  | false :: ms, v :: vs, s :: ps, σ, k, en, S, os, hS, hv, hl, e => by
    simp only [RepS] at hS
    obtain ⟨o, r, S1, S2, e1, e2, h1, h2⟩ := hS
    subst e1 e2
    simp only [outs] at e
    obtain ⟨S', q1, q2⟩ := outs_ok (vs := vs) (k := k + 1) h2 (fun j => by have := hv (j + 1); rw [show k + 1 + j = k + (j + 1) by omega]; simpa using this) (by simpa using hl) e
    refine ⟨S', by simpa only [ioO] using q1, fun a => by have := q2 a; rw [List.count_append]; omega⟩
theorem VwA.len : ∀ {ms : List Bool} {vs : List V} {ds : List D} {S : List Addr}, VwA cn G H S ms vs ds → ms.length = vs.length ∧ ds.length = vs.length
  | [], [], [], S, h => ⟨rfl, rfl⟩
  | [], [], _ :: _, S, h => by cases h
  | [], _ :: _, ds, S, h => by cases ds <;> cases h
  | true :: ms, v :: vs, d :: ds, S, h => by have := VwA.len (ms := ms) (vs := vs) (ds := ds) h; simp [this]
  | false :: ms, v :: vs, d :: ds, S, h => by
    simp only [VwA] at h
    have := VwA.len h.2
    simp [this]
  | true :: ms, [], ds, S, h => by cases ds <;> cases h
  | false :: ms, [], ds, S, h => by cases ds <;> cases h
  | true :: ms, _ :: _, [], S, h => by cases h
  | false :: ms, _ :: _, [], S, h => by cases h
theorem run_g {ms : List Bool} {n : Nat} {body : S} {t : TS} {vs : List V} {Q : VK} {E : XK} (hb : GdS cn t body) (h : SpG cn ms (runG ms n body) vs H Q E) (N : List Str) (hN : N.length = ms.length + n) :
    t { nx := fun _ H' => Q .non H', rt := Q } (L2.start N vs) H := by
  obtain ⟨G, ds, S, d, os, dG, hr, hw, hc, ho, e, k⟩ := h
  obtain ⟨l1, l2⟩ := hw.len
  unfold runG at e
  split at e
  · rename_i hm
    cases eb : body (ini ms ds ++ List.replicate n .no) with
    | none => rw [eb] at e; cases e
    | some r =>
      rw [eb] at e
      obtain ⟨c, psf⟩ := r
      have R0 : RR cn ⟨H, S, G, vs⟩ G [] (ini ms ds ++ List.replicate n .no) (L2.start N vs) H := by
        refine ⟨S, [], ?_, rfl, dG, fun b x e _ => e, fun _ z => z, fun _ z => .inl z, fun a => by simpa using hc a, fun a ha => ho a (by simpa using ha), fun a ha => .inl (by simpa using ha), fun _ z => z⟩
        unfold L2.start
        exact RepS.iniG (en := ⟨H, S, G, vs⟩) (fun _ => rfl) (fun j => by simp) hw hr (by omega)
      have fin : ∀ {v : V} {σ' : L2.St} {H' : Hp} {G' : Addr → Prop} {d : D} {psf : PS} {os : List D}, RR cn ⟨H, S, G, vs⟩ G' [(v, d)] psf σ' H' → outs ms psf = some os → ∃ T', (∀ b o, H b = some o → b ∉ S → H' b = some o) ∧ (∀ a, G a → G' a) ∧ (∀ a, G' a → H' a ≠ none) ∧ (∀ a, G' a → G a ∨ a ∈ S ∨ H a = none) ∧ (∀ b, H b ≠ none → H' b ≠ none) ∧ RepF cn G' H' ((v, d) :: ioO ms vs os) T' ∧ (∀ a, T'.count a ≤ 1) ∧ (∀ a ∈ T', ¬ G' a ∧ (a ∈ S ∨ H a = none)) := by
        intro v σ' H' G' d psf os R eo
        obtain ⟨Sf, T, hS, hT, g⟩ := R
        simp only [RepF] at hT
        obtain ⟨T1, T2, eT, r, e2⟩ := hT
        subst eT e2
        obtain ⟨S', q1, q2⟩ := outs_ok (en := ⟨H, S, G, vs⟩) (k := 0) hS (fun j => by simp) l1 eo
        have sub : ∀ a ∈ T1 ++ S', a ∈ Sf ++ (T1 ++ []) := fun a ha => by
          have := q2 a
          rw [cnt_mem] at ha ⊢
          simp only [List.count_append] at *
          omega
        refine ⟨T1 ++ S', fun b x e hb => g.keep b x e hb, g.gIn, g.dom, g.gOut, g.grow, ?_, fun a => ?_, fun a ha => ⟨g.off a (sub a ha), g.av a (sub a ha)⟩⟩
        · simp only [RepF]; exact ⟨T1, S', rfl, r, q1⟩
        · have c1 := g.cnt a
          have := q2 a
          simp only [List.count_append] at *
          omega
      refine hb ⟨H, S, G, vs⟩ G [] _ _ H _ c psf R0 eb ?_
      cases c with
      | rt x =>
        simp only [Option.bind_some] at e
        cases eo : outs ms psf with
        | none => rw [eo] at e; cases e
        | some os' =>
          rw [eo] at e
          cases e
          intro v σ' H' G' R'
          obtain ⟨T', p1, p2, p3, p4, p5, p6, p7, p8⟩ := fin R' eo
          exact k v H' G' T' p1 p2 p3 p4 p5 p6 p7 p8
      | nx =>
        simp only [Option.bind_some] at e
        cases eo : outs ms psf with
        | none => rw [eo] at e; cases e
        | some os' =>
          rw [eo] at e
          cases e
          intro σ' H' G' R'
          obtain ⟨T', p1, p2, p3, p4, p5, p6, p7, p8⟩ := fin (R'.push (v := .non) (d := .non) rfl (atV_rep rfl)) eo
          exact k .non H' G' T' p1 p2 p3 p4 p5 p6 p7 p8
      | bk => cases e
      | ct => cases e
  · cases e
end
end Pv

/-! Snd8: operators and built-ins by plain values; dicts, fields, new instances, methods. -/
namespace Pv
open PySem L2

/-! ### numbers -/
section
variable {cn : Cn} {en : Ent} {G G' : Addr → Prop} {H H' : Hp} {fr fr' : List (V × D)} {ps : PS} {σ : L2.St}
theorem o2_sub : Op2 cn (rI0 fun i j => .int (i - j)) dSub := op2_I fun i j d e => by
  cases e; exact ⟨_, rfl, fun H Q q => ⟨i, j, rfl, rfl, q⟩⟩
theorem o2_lt : Op2 cn (rI0 fun i j => .bl (decide (i < j))) dLt := op2_I fun i j d e => by
  cases e; exact ⟨_, rfl, fun H Q q => ⟨i, j, rfl, rfl, q⟩⟩
theorem o2_le : Op2 cn (rI0 fun i j => .bl (decide (i ≤ j))) dLe := op2_I fun i j d e => by
  cases e; exact ⟨_, rfl, fun H Q q => ⟨i, j, rfl, rfl, q⟩⟩
theorem o2_gt : Op2 cn (rI0 fun i j => .bl (decide (j < i))) dGt := op2_I fun i j d e => by
  cases e; exact ⟨_, rfl, fun H Q q => ⟨i, j, rfl, rfl, q⟩⟩
theorem o2_ge : Op2 cn (rI0 fun i j => .bl (decide (j ≤ i))) dGe := op2_I fun i j d e => by
  cases e; exact ⟨_, rfl, fun H Q q => ⟨i, j, rfl, rfl, q⟩⟩
theorem o2_mul : Op2 cn (rI CMul fun i j => .int (i * j)) dMul := op2_I fun i j d e => by
  split at e
  · rename_i h
    cases e
    refine ⟨_, rfl, fun H Q q => ⟨i, j, rfl, rfl, ?_, q⟩⟩
    unfold CMul
    omega
  · cases e
theorem o2_mod : Op2 cn (rI (fun _ j => 0 < j) fun i j => .int (i % j)) dMod := op2_I fun i j d e => by
  split at e
  · rename_i h
    cases e
    exact ⟨_, rfl, fun H Q q => ⟨i, j, rfl, rfl, h, q⟩⟩
  · cases e
theorem o2_div : Op2 cn (rI CDiv fun i j => .int (i / j)) dDiv := op2_I fun i j d e => by
  split at e
  · rename_i h
    cases e
    exact ⟨_, rfl, fun H Q q => ⟨i, j, rfl, rfl, h, q⟩⟩
  · cases e
theorem o2_pow : Op2 cn (rI CPow fun i j => .int (i ^ j.toNat)) dPow := op2_I fun i j d e => by
  split at e
  · rename_i h
    cases e
    exact ⟨_, rfl, fun H Q q => ⟨i, j, rfl, rfl, h, q⟩⟩
  · cases e
theorem o1_neg : Op1 cn (rU fun i => .int (-i)) dNeg := fun en G fr ps σ H x a U d Q R r e k => by
  unfold dNeg at e
  split at e
  · rename_i i
    cases e
    exact ⟨i, rep_int r, k _ H G (Same.refl H) (fun _ z => z) (R.push (v := .int (-i)) rfl (atV_rep rfl))⟩
  · cases e
/-! + of ints, texts, lists, tuples -/
abbrev rAddA (K : PySem.W.Frag) : R2 := fun x y H Q => (rI0 fun i j => V.int (i + j)) x y H Q ∨ ((∃ i j, x = .str i ∧ y = .str j ∧ i.length + j.length ≤ sizeLine ∧ Q (.str (i ++ j)) H) ∨ (rCat x y H Q ∨ rCatT K x y H Q))
theorem op_addA {X : Cx} : OpR X (binaryOp .Add) (rAddA X.K) := op_add.or (op_add_str.or (op_cat.or op_catT))
theorem RepL.nilAll {ds : List D} {vs : List V} {S : List Addr} (f : isFL ds = true) (r : RepL cn G H ds vs S) : RepL cn G H ds vs [] := by
  have := RepL.nil _ _ _ f r
  subst this
  exact r
/-- + on lists and tuples whose items are not owned -/
@[simp] def dAddF (x y : D) : Option D := match x, y with
  | .int i, .int j => some (.int (i + j))
  | .str a, .str b => if a.length + b.length < cap then some (.str (a ++ b)) else none
  | .lst _ xs, .lst _ ys => if isFL xs ∧ isFL ys ∧ xs.length + ys.length < cap then some (.lst false (xs ++ ys)) else none
  | .tup xs, .tup ys => if isFL xs ∧ isFL ys ∧ xs.length + ys.length < cap ∧ xs ≠ [] ∧ ys ≠ [] then some (.tup (xs ++ ys)) else none
  | _, _ => none
theorem o2_add : Op2 cn (rAddA cn.K) dAddF := fun en G fr ps σ H x y a b U W d Q R r1 r2 e k => by
  unfold dAddF at e
  split at e
  · rename_i i j
    cases e
    exact .inl ⟨i, j, rep_int r1, rep_int r2, k _ H G (Same.refl H) (fun _ z => z) (R.push (v := .int (i + j)) rfl (atV_rep rfl))⟩
  · rename_i i j
    split at e
    · rename_i h
      cases e
      exact .inr (.inl ⟨i, j, rep_str r1, rep_str r2, Nat.le_trans (Nat.le_of_lt h) cap_le, k _ H G (Same.refl H) (fun _ z => z) (R.push (v := .str (i ++ j)) rfl (atV_rep rfl))⟩)
    · cases e
  · rename_i o1 xs o2 ys
    split at e
    · rename_i h
      cases e
      simp only [Rep] at r1 r2
      obtain ⟨l, vs, T1, e1, h1, l1, _⟩ := r1
      obtain ⟨m, ws, T2, e2, h2, l2, _⟩ := r2
      subst e1 e2
      refine .inr (.inr (.inl ⟨l, m, vs, ws, rfl, rfl, h1, h2, ?_, fun p hp => ?_⟩))
      · rw [← l1.length, ← l2.length]; exact Nat.le_trans (Nat.le_of_lt h.2.2) cap_le
      · obtain ⟨G', g', R'⟩ := R.newLst false hp (RepL.append (l1.nilAll h.1) (l2.nilAll h.2.1))
        exact k _ _ G' (fun b x e => by rw [upd_ne (ne_of_none e hp)]; exact e) g' R'
    · cases e
  · rename_i xs ys
    split at e
    · rename_i h
      cases e
      simp only [Rep] at r1 r2
      obtain ⟨l, vs, e1, g1, h1, l1⟩ := r1
      obtain ⟨m, ws, e2, g2, h2, l2⟩ := r2
      subst e1 e2
      have n1 : vs ≠ [] := fun z => h.2.2.2.1 (List.eq_nil_of_length_eq_zero (by rw [l1.length, z] <;> rfl))
      have n2 : ws ≠ [] := fun z => h.2.2.2.2 (List.eq_nil_of_length_eq_zero (by rw [l2.length, z] <;> rfl))
      refine .inr (.inr (.inr ⟨l, m, vs, ws, rfl, rfl, .inl (.inl h1), .inl (.inl h2), n1, ?_, fun z => absurd z n2, fun _ p hp => ?_⟩))
      · rw [← l1.length, ← l2.length]; exact Nat.le_trans (Nat.le_of_lt h.2.2.1) cap_le
      · obtain ⟨G', g', R'⟩ := R.newTup hp (RepL.append (l1.nilAll h.1) (l2.nilAll h.2.1))
        exact k _ _ G' (fun b x e => by rw [upd_ne (ne_of_none e hp)]; exact e) g' R'
    · cases e
  · cases e
/-! ### == and != of plain data -/
mutual
def toPy : D → PyData
  | .non => .none
  | .bl b => .bool b
  | .int i => .int i
  | .str s => .str s
  | .tup ds => .tuple (toPyL ds)
  | .xt ds => .tuple (toPyL ds)
  | .lst _ ds => .list (toPyL ds)
  | .xl ds => .list (toPyL ds)
  | .dic _ _ _ _ => .none
  | .ins _ _ _ _ => .none
def toPyL : List D → List PyData
  | [] => []
  | d :: ds => toPy d :: toPyL ds
end
mutual
theorem py_dp : ∀ (d : D) (v : V) (U : List Addr), d.pl = true → Rep cn G H d v U → Dp cn.K H v (toPy d)
  | .non, _, _, _, r => by rw [rep_non r]; exact .non
  | .bl b, _, _, _, r => by rw [rep_bl r]; exact .bl b
  | .int i, _, _, _, r => by rw [rep_int r]; exact .int i
  | .str s, _, _, _, r => by rw [rep_str r]; exact .str s
  | .tup ds, v, U, f, r => by
    simp only [Rep] at r
    obtain ⟨a, vs, e, g, h, l⟩ := r
    subst e
    exact .tup (.inl (.inl h)) (py_dpL ds vs U (by simpa only [D.pl] using f) l)
  | .xt ds, v, U, f, r => by
    simp only [Rep] at r
    obtain ⟨a, vs, e, g, l, _⟩ := r
    subst e
    exact .tup (g H fun _ _ => rfl) (py_dpL ds vs [] (by simpa only [D.pl] using f) l)
  | .lst o ds, v, U, f, r => by
    simp only [Rep] at r
    obtain ⟨a, vs, T, e, h, l, _⟩ := r
    subst e
    exact .lst (.inl (.inl h)) (py_dpL ds vs T (by simpa only [D.pl] using f) l)
  | .xl ds, v, U, f, r => by
    simp only [Rep] at r
    obtain ⟨a, vs, e, g, l, _⟩ := r
    subst e
    exact .lst (g H fun _ _ => rfl) (py_dpL ds vs [] (by simpa only [D.pl] using f) l)
  | .dic _ _ _ _, _, _, f, _ => by simp [D.pl] at f
  | .ins _ _ _ _, _, _, f, _ => by simp [D.pl] at f
theorem py_dpL : ∀ (ds : List D) (vs : List V) (U : List Addr), plL ds = true → RepL cn G H ds vs U → DpAll cn.K H vs (toPyL ds)
  | [], vs, U, _, r => by simp only [RepL] at r; rw [r.1]; exact .nil
  | d :: ds, vs, U, f, r => by
    simp only [RepL] at r
    obtain ⟨v, rr, S1, S2, e1, e2, h1, h2⟩ := r
    simp only [plL, Bool.and_eq_true] at f
    rw [e1]
    exact .cons (py_dp d v S1 f.1 h1) (py_dpL ds rr S2 f.2 h2)
end
mutual
theorem py_plain : ∀ d : D, (toPy d).plain = true
  | .non => by simp [toPy, PyData.plain]
  | .bl b => by simp [toPy, PyData.plain]
  | .int i => by simp [toPy, PyData.plain]
  | .str s => by simp [toPy, PyData.plain]
  | .tup ds => by simp only [toPy, PyData.plain]; exact py_plainL ds
  | .xt ds => by simp only [toPy, PyData.plain]; exact py_plainL ds
  | .lst _ ds => by simp only [toPy, PyData.plain]; exact py_plainL ds
  | .xl ds => by simp only [toPy, PyData.plain]; exact py_plainL ds
  | .dic _ _ _ _ => by simp [toPy, PyData.plain]
  | .ins _ _ _ _ => by simp [toPy, PyData.plain]
theorem py_plainL : ∀ ds : List D, PyData.plainAll (toPyL ds) = true
  | [] => by simp [toPyL, PyData.plainAll]
  | d :: ds => by simp only [toPyL, PyData.plainAll, Bool.and_eq_true]; exact ⟨py_plain d, py_plainL ds⟩
end
mutual
theorem py_dep : ∀ d : D, (toPy d).depth = d.dep
  | .non => by simp [toPy, PyData.depth, D.dep]
  | .bl b => by simp [toPy, PyData.depth, D.dep]
  | .int i => by simp [toPy, PyData.depth, D.dep]
  | .str s => by simp [toPy, PyData.depth, D.dep]
  | .tup ds => by simp only [toPy, PyData.depth, D.dep]; rw [py_depL ds]
  | .xt ds => by simp only [toPy, PyData.depth, D.dep]; rw [py_depL ds]
  | .lst _ ds => by simp only [toPy, PyData.depth, D.dep]; rw [py_depL ds]
  | .xl ds => by simp only [toPy, PyData.depth, D.dep]; rw [py_depL ds]
  | .dic _ _ _ _ => by simp [toPy, PyData.depth, D.dep]
  | .ins _ _ _ _ => by simp [toPy, PyData.depth, D.dep]
theorem py_depL : ∀ ds : List D, PyData.depthAll (toPyL ds) = depL ds
  | [] => by simp [toPyL, PyData.depthAll, depL]
  | d :: ds => by simp only [toPyL, PyData.depthAll, depL]; rw [py_dep d, py_depL ds]
end
mutual
theorem py_eqv : ∀ (a b : D), a.pl = true → b.pl = true → PyData.eqv (toPy a) (toPy b) = eqv a b
  | .non, b, _, hb => by cases b <;> simp [toPy, PyData.eqv, eqv, D.pl] at hb ⊢
  | .bl x, b, _, hb => by cases b <;> simp [toPy, PyData.eqv, eqv, D.pl] at hb ⊢
  | .int x, b, _, hb => by cases b <;> simp [toPy, PyData.eqv, eqv, D.pl] at hb ⊢
  | .str x, b, _, hb => by cases b <;> simp [toPy, PyData.eqv, eqv, D.pl] at hb ⊢
  | .tup xs, b, ha, hb => by
    cases b <;> simp only [toPy, PyData.eqv, eqv, D.pl] at ha hb ⊢ <;> first | exact py_eqvL xs _ ha hb | exact Bool.noConfusion hb
  | .xt xs, b, ha, hb => by
    cases b <;> simp only [toPy, PyData.eqv, eqv, D.pl] at ha hb ⊢ <;> first | exact py_eqvL xs _ ha hb | exact Bool.noConfusion hb
  | .lst _ xs, b, ha, hb => by
    cases b <;> simp only [toPy, PyData.eqv, eqv, D.pl] at ha hb ⊢ <;> first | exact py_eqvL xs _ ha hb | exact Bool.noConfusion hb
  | .xl xs, b, ha, hb => by
    cases b <;> simp only [toPy, PyData.eqv, eqv, D.pl] at ha hb ⊢ <;> first | exact py_eqvL xs _ ha hb | exact Bool.noConfusion hb
  | .dic _ _ _ _, b, ha, hb => by simp [D.pl] at ha
  | .ins _ _ _ _, b, ha, hb => by simp [D.pl] at ha
theorem py_eqvL : ∀ (xs ys : List D), plL xs = true → plL ys = true → PyData.eqvAll (toPyL xs) (toPyL ys) = eqvL xs ys
  | [], [], _, _ => by simp [toPyL, PyData.eqvAll, eqvL]
  | [], _ :: _, _, _ => by simp [toPyL, PyData.eqvAll, eqvL]
  | _ :: _, [], _, _ => by simp [toPyL, PyData.eqvAll, eqvL]
  | x :: xs, y :: ys, ha, hb => by
    simp only [plL, Bool.and_eq_true] at ha hb
    simp only [toPyL, PyData.eqvAll, eqvL]
    rw [py_eqv x y ha.1 hb.1, py_eqvL xs ys ha.2 hb.2]
end
def rEqP (K : PySem.W.Frag) : R2 := fun x y H Q => ∃ d e, Dp K H x d ∧ Dp K H y e ∧ d.plain = true ∧ e.plain = true ∧ d.depth ≤ 60 ∧ Q (.bl (PyData.eqv d e)) H
def rNeP (K : PySem.W.Frag) : R2 := fun x y H Q => ∃ d e, Dp K H x d ∧ Dp K H y e ∧ d.plain = true ∧ e.plain = true ∧ d.depth ≤ 60 ∧ Q (.bl (!PyData.eqv d e)) H
theorem op_eqP {X : Cx} (hu : X.A.units + 64 < cLine) : OpR X (compareOp .Eq) (rEqP X.K) := by
  intro pins s σ H x y v u Q I rx ry h
  obtain ⟨d, e, hd, he, sd, se, hz, q⟩ := h
  obtain ⟨as, r1⟩ := Dp.reads I d x v hd rx
  obtain ⟨bs, r2⟩ := Dp.reads I e y u he ry
  exact PySem.SeqAt.eq_plain r1 r2 sd se (by omega) ⟨.bl _, H, I, rfl, q⟩
theorem op_neP {X : Cx} (hu : X.A.units + 64 < cLine) : OpR X (compareOp .NotEq) (rNeP X.K) := by
  intro pins s σ H x y v u Q I rx ry h
  obtain ⟨d, e, hd, he, sd, se, hz, q⟩ := h
  obtain ⟨as, r1⟩ := Dp.reads I d x v hd rx
  obtain ⟨bs, r2⟩ := Dp.reads I e y u he ry
  exact PySem.SeqAt.ne_plain r1 r2 sd se (by omega) ⟨.bl _, H, I, rfl, q⟩
theorem o2_eq : Op2 cn (rEqP cn.K) dEq := fun en G fr ps σ H x y a b U W d Q R r1 r2 e k => by
  unfold dEq at e
  split at e
  · rename_i h
    cases e
    refine ⟨toPy a, toPy b, py_dp a x U h.1 r1, py_dp b y W h.2.1 r2, py_plain a, py_plain b, by rw [py_dep]; omega, ?_⟩
    rw [py_eqv a b h.1 h.2.1]
    exact k _ H G (Same.refl H) (fun _ z => z) (R.push (v := .bl _) rfl (atV_rep rfl))
  · cases e
theorem o2_ne : Op2 cn (rNeP cn.K) dNe := fun en G fr ps σ H x y a b U W d Q R r1 r2 e k => by
  unfold dNe at e
  split at e
  · rename_i h
    cases e
    refine ⟨toPy a, toPy b, py_dp a x U h.1 r1, py_dp b y W h.2.1 r2, py_plain a, py_plain b, by rw [py_dep]; omega, ?_⟩
    rw [py_eqv a b h.1 h.2.1]
    exact k _ H G (Same.refl H) (fun _ z => z) (R.push (v := .bl _) rfl (atV_rep rfl))
  · cases e
/-! is None -/
theorem rep_nonN {d : D} {v : V} {U : List Addr} (r : Rep cn G H d v U) : decide (v = .non) = isNonD d := by
  cases d with
  | non => rw [rep_non r]; rfl
  | bl b => rw [rep_bl r]; rfl
  | int i => rw [rep_int r]; rfl
  | str s => rw [rep_str r]; rfl
  | tup ds => simp only [Rep] at r; obtain ⟨a, vs, e, _⟩ := r; rw [e]; rfl
  | lst o ds => simp only [Rep] at r; obtain ⟨a, vs, T, e, _⟩ := r; rw [e]; rfl
  | xt ds => simp only [Rep] at r; obtain ⟨a, vs, e, _⟩ := r; rw [e]; rfl
  | xl ds => simp only [Rep] at r; obtain ⟨a, vs, e, _⟩ := r; rw [e]; rfl
  | dic o t ks ds => simp only [Rep] at r; obtain ⟨a, vs, T, e, _⟩ := r; rw [e]; rfl
  | ins o c fs ds => simp only [Rep] at r; obtain ⟨a, C, dx, vs, T, e, _⟩ := r; rw [e]; rfl
theorem gd_isN {ta : TE} {fa : QE} (ha : GdV cn ta fa) : GdQ cn (tIsN ta) (q1 dIsN fa) := fun en G fr ps σ H d Q R e k => by
  unfold q1 at e
  cases ea : fa ps with
  | none => rw [ea] at e; cases e
  | some x =>
    rw [ea] at e
    cases e
    refine ha en G fr ps σ H x _ R ea fun v H1 G1 U s1 g1 R1 r1 => ?_
    rw [rep_nonN r1]
    exact k _ H1 G1 s1 g1 (R1.push (v := .bl _) rfl (atV_rep rfl))
theorem gd_notN {ta : TE} {fa : QE} (ha : GdV cn ta fa) : GdQ cn (tNotN ta) (q1 dNotN fa) := fun en G fr ps σ H d Q R e k => by
  unfold q1 at e
  cases ea : fa ps with
  | none => rw [ea] at e; cases e
  | some x =>
    rw [ea] at e
    cases e
    refine ha en G fr ps σ H x _ R ea fun v H1 G1 U s1 g1 R1 r1 => ?_
    rw [rep_nonN r1]
    exact k _ H1 G1 s1 g1 (R1.push (v := .bl _) rfl (atV_rep rfl))
/-! ### x[i] -/
theorem atP_I {α : Type} {xs : List α} {i : Int} : atP xs i = atI xs i := rfl
theorem atI_i {α : Type} {xs : List α} {i : Int} {x : α} (h : atI xs i = some x) : ∃ j, ixN xs.length i = some j ∧ xs[j]? = some x := by
  unfold atI at h
  cases e : ixN xs.length i with
  | none => rw [e] at h; cases h
  | some j => rw [e] at h; exact ⟨j, rfl, h⟩
theorem RepL.at {ds : List D} {vs : List V} {S : List Addr} {i : Int} {d : D} (r : RepL cn G H ds vs S) (h : atP ds i = some d) : ∃ v U, atI vs i = some v ∧ Rep cn G H d v U ∧ ∀ b ∈ U, b ∈ S := by
  rw [atP_I] at h
  obtain ⟨j, h1, h2⟩ := atI_i h
  obtain ⟨v, U, q1, q2, q3⟩ := r.get h2
  refine ⟨v, U, ?_, q2, q3⟩
  unfold atI
  rw [← r.length, h1]
  exact q1
theorem o2_ix : Op2V cn (rIx cn.K) dIx := fun G H x y a b U W d Q r1 r2 e k => by
  unfold dIx at e
  split at e
  · rename_i o xs i
    simp only [Rep] at r1
    obtain ⟨p, vs, T, e1, h1, l1, _⟩ := r1
    obtain ⟨v, U', q1, q2, _⟩ := l1.at e
    exact .inl ⟨p, vs, i, v, e1, rep_int r2, .inl (.inl h1), q1, k v U' q2⟩
  · rename_i xs i
    simp only [Rep] at r1
    obtain ⟨p, vs, e1, h1, l1, _⟩ := r1
    obtain ⟨v, U', q1, q2, _⟩ := l1.at e
    exact .inl ⟨p, vs, i, v, e1, rep_int r2, h1 H fun _ _ => rfl, q1, k v U' q2⟩
  · rename_i xs i
    simp only [Rep] at r1
    obtain ⟨p, vs, e1, g1, h1, l1⟩ := r1
    obtain ⟨v, U', q1, q2, _⟩ := l1.at e
    exact .inr (.inl ⟨p, vs, i, v, e1, rep_int r2, .inl (.inl h1), q1, k v U' q2⟩)
  · rename_i xs i
    simp only [Rep] at r1
    obtain ⟨p, vs, e1, h1, l1, _⟩ := r1
    obtain ⟨v, U', q1, q2, _⟩ := l1.at e
    exact .inr (.inl ⟨p, vs, i, v, e1, rep_int r2, h1 H fun _ _ => rfl, q1, k v U' q2⟩)
  · rename_i s i
    split at e
    · rename_i hl
      cases ec : atP s.cps.toList i with
      | none => rw [ec] at e; cases e
      | some c =>
        rw [ec] at e
        cases e
        exact .inr (.inr ⟨s, i, c, rep_str r1, rep_int r2, Nat.le_trans (Nat.le_of_lt hl) cap_le, ec, k _ [] (atV_rep rfl)⟩)
    · cases e
  · cases e
/-- .. the item as a temporary -/
@[simp] def dIxF (x y : D) : Option D := (dIx x y).bind fun d => if d.isF then some d else none
theorem o2_ixF : Op2 cn (rIx cn.K) dIxF := fun en G fr ps σ H x y a b U W d Q R r1 r2 e k => by
  unfold dIxF at e
  cases e1 : dIx a b with
  | none => rw [e1] at e; cases e
  | some z =>
    rw [e1] at e
    simp only [Option.bind_some] at e
    split at e
    · rename_i hf
      cases e
      exact o2_ix G H x y a b U W _ Q r1 r2 e1 fun v U' r' => k v H G (Same.refl H) (fun _ z => z) (R.push hf r')
    · cases e
/-! ### slices -/
def GdO (cn : Cn) (t : TO) (f : PS → Option (Option Int)) : Prop := ∀ (en : Ent) (G : Addr → Prop) (fr : List (V × D)) (ps : PS) (σ : L2.St) (H : Hp) (o : Option Int) (Q : Option Int → Hp → Prop), RR cn en G fr ps σ H → f ps = some o →
  (∀ H' G', Same H H' → (∀ a, G a → G' a) → RR cn en G' fr ps σ H' → Q o H') → t σ H Q
theorem gd_po0 : GdO cn tNoPart (qPo none) := fun en G fr ps σ H o Q R e k => by
  cases e
  exact k H G (Same.refl H) (fun _ z => z) R
theorem gd_po1 {te : TE} {f : QE} (h : GdV cn te f) : GdO cn (tPart te) (qPo (some f)) := fun en G fr ps σ H o Q R e k => by
  simp only [qPo] at e
  cases ef : f ps with
  | none => rw [ef] at e; cases e
  | some x =>
    rw [ef] at e
    cases x <;> simp only [Option.bind_some] at e <;> cases e
    exact h en G fr ps σ H _ _ R ef fun v H1 G1 U s1 g1 R1 r1 => ⟨_, rep_int r1, k H1 G1 s1 g1 R1⟩
theorem slB_H {n d : Nat} {o : Option Int} (hd : d ≤ n) : slB n d o = HT.sIx n d o := by
  unfold slB HT.sIx
  cases o with
  | none => rfl
  | some v => rfl
theorem cutP_V {ds : List D} {vs : List V} (h : ds.length = vs.length) (r : RepL cn G H ds vs []) (lo hi : Option Int) : RepL cn G H (cutP ds lo hi) (cutV vs lo hi) [] := by
  unfold cutP cutV
  rw [slB_H (Nat.zero_le _), slB_H (Nat.le_refl _), h]
  have dr : ∀ {ds : List D} {vs : List V} (n : Nat), RepL cn G H ds vs [] → RepL cn G H (ds.drop n) (vs.drop n) [] := by
    intro ds
    induction ds with
    | nil => intro vs n r; simp only [RepL] at r; rw [r.1]; simp only [List.drop_nil, RepL]; exact ⟨trivial, trivial⟩
    | cons d ds ih =>
      intro vs n r
      cases n with
      | zero => exact r
      | succ n =>
        simp only [RepL] at r
        obtain ⟨v, rr, S1, S2, e1, e2, h1, h2⟩ := r
        have e3 : S1 = [] ∧ S2 = [] := by simpa using e2.symm
        rw [e1]
        show RepL cn G H (ds.drop n) (rr.drop n) []
        exact ih n (by rw [e3.2] at h2; exact h2)
  have tk : ∀ {ds : List D} {vs : List V} (n : Nat), RepL cn G H ds vs [] → RepL cn G H (ds.take n) (vs.take n) [] := by
    intro ds
    induction ds with
    | nil => intro vs n r; simp only [RepL] at r; rw [r.1]; simp only [List.take_nil, RepL]; exact ⟨trivial, trivial⟩
    | cons d ds ih =>
      intro vs n r
      cases n with
      | zero => simp only [List.take_zero, RepL]; exact ⟨trivial, trivial⟩
      | succ n =>
        simp only [RepL] at r
        obtain ⟨v, rr, S1, S2, e1, e2, h1, h2⟩ := r
        have e3 : S1 = [] ∧ S2 = [] := by simpa using e2.symm
        rw [e1]
        show RepL cn G H (d :: ds.take n) (v :: rr.take n) []
        simp only [RepL]
        exact ⟨v, rr.take n, [], [], rfl, rfl, by rw [e3.1] at h1; exact h1, ih n (by rw [e3.2] at h2; exact h2)⟩
  exact tk _ (dr _ r)
abbrev rSlA (K : PySem.W.Frag) : V → Option Int → Option Int → Hp → VK → Prop := fun x lo hi H Q => rSlL K x lo hi H Q ∨ rSlT K x lo hi H Q
theorem sl_any {X : Cx} : SlR X (rSlA X.K) := sl_list.or sl_tup
theorem gd_sl {te : TE} {tl th : TO} {a : QE} {lo hi : Option QE} (ha : GdV cn te a) (hl : GdO cn tl (qPo lo)) (hh : GdO cn th (qPo hi)) : GdQ cn (tSl (rSlA cn.K) te tl th) (qSl a lo hi) := fun en G fr ps σ H d Q R e k => by
  unfold qSl at e
  cases ea : a ps with
  | none => rw [ea] at e; cases e
  | some x =>
    rw [ea] at e
    simp only [Option.bind_some] at e
    cases el : qPo lo ps with
    | none => rw [el] at e; cases e
    | some l =>
      rw [el] at e
      simp only [Option.bind_some] at e
      cases eh : qPo hi ps with
      | none => rw [eh] at e; cases e
      | some h =>
        rw [eh] at e
        simp only [Option.bind_some] at e
        refine ha en G fr ps σ H x _ R ea fun v H1 G1 U s1 g1 R1 r1 => ?_
        refine hl en G1 fr ps σ H1 l _ R1 el fun H2 G2 s2 g2 R2 => ?_
        refine hh en G2 fr ps σ H2 h _ R2 eh fun H3 G3 s3 g3 R3 => ?_
        have r3 := (r1.same R1.dom s2 g2).same R2.dom s3 g3
        unfold dSl at e
        split at e
        · rename_i o xs
          split at e
          · rename_i hf
            cases e
            simp only [Rep] at r3
            obtain ⟨p, vs, T, e1, h1, l1, _⟩ := r3
            refine .inl ⟨p, vs, e1, .inl (.inl h1), fun q hq => ?_⟩
            obtain ⟨G4, g4, R4⟩ := R3.newLst false hq (cutP_V l1.length (l1.nilAll hf) l h)
            exact k _ _ G4 ((s1.trans (s2.trans s3)).trans fun b x e => by rw [upd_ne (ne_of_none e hq)]; exact e) (fun a q => g4 a (g3 a (g2 a (g1 a q)))) R4
          · cases e
        · rename_i xs
          split at e
          · rename_i hf
            cases e
            simp only [Rep] at r3
            obtain ⟨p, vs, e1, h1, l1, _⟩ := r3
            refine .inl ⟨p, vs, e1, h1 H3 fun _ _ => rfl, fun q hq => ?_⟩
            obtain ⟨G4, g4, R4⟩ := R3.newLst false hq (cutP_V l1.length l1 l h)
            exact k _ _ G4 ((s1.trans (s2.trans s3)).trans fun b x e => by rw [upd_ne (ne_of_none e hq)]; exact e) (fun a q => g4 a (g3 a (g2 a (g1 a q)))) R4
          · cases e
        · rename_i xs
          split at e
          · rename_i hf
            cases e
            simp only [Rep] at r3
            obtain ⟨p, vs, e1, gp, h1, l1⟩ := r3
            refine .inr ⟨p, vs, e1, .inl (.inl h1), fun z => ?_, fun q hq => ?_⟩
            · have hlt := hf.2
              have : (cutP xs l h).length = xs.length := by
                unfold cutP
                rw [slB_H (Nat.zero_le _), slB_H (Nat.le_refl _), l1.length, z.1, z.2, List.drop_zero, Nat.sub_zero, ← l1.length, List.take_length]
              omega
            · obtain ⟨G4, g4, R4⟩ := R3.newTup hq (cutP_V l1.length (l1.nilAll hf.1) l h)
              exact k _ _ G4 ((s1.trans (s2.trans s3)).trans fun b x e => by rw [upd_ne (ne_of_none e hq)]; exact e) (fun a q => g4 a (g3 a (g2 a (g1 a q)))) R4
          · cases e
        · cases e
/-! ### built-ins -/
/-- of one argument, of two -/
@[simp] def l1 (g : D → Option D) (ds : List D) : Option D := match ds with | [x] => g x | _ => none
@[simp] def l2 (g : D → D → Option D) (ds : List D) : Option D := match ds with | [x, y] => g x y | _ => none
theorem caN1 {r : List V → Hp → VK → Prop} {g : D → Option D} (h : Op1 cn (fun x H Q => r [x] H Q) g) : CaN cn r (l1 g) := fun en G fr ps σ H vs ds d Q R rw e k => by
  unfold l1 at e
  split at e
  · rename_i x
    simp only [RepW] at rw
    obtain ⟨v, rr, U, e1, h1, e2⟩ := rw
    subst e2 e1
    exact h en G fr ps σ H v x U d Q R h1 e k
  · cases e
theorem caN2 {r : List V → Hp → VK → Prop} {g : D → D → Option D} (h : Op2 cn (fun x y H Q => r [x, y] H Q) g) : CaN cn r (l2 g) := fun en G fr ps σ H vs ds d Q R rw e k => by
  unfold l2 at e
  split at e
  · rename_i x y
    simp only [RepW] at rw
    obtain ⟨v, rr, U, e1, h1, w, rr2, W, e2, h2, e3⟩ := rw
    subst e3 e2 e1
    exact h en G fr ps σ H v w x y U W d Q R h1 h2 e k
  · cases e
abbrev rLenA (K : PySem.W.Frag) : List V → Hp → VK → Prop := fun xs H Q => (∃ x n, xs = [x] ∧ LenV K x H n ∧ Q (.int n) H) ∨ ((∃ a kvs, xs = [V.ref a] ∧ H a = some (.dK kvs) ∧ Q (.int kvs.length) H) ∨ rLenT xs H Q)
theorem call_lenA {X : Cx} : CallR X (.builtin "len") (rLenA X.K) := call_len.or (call_lenD.or call_len_dT)
theorem DicAt.len {a : Addr} {t : Bool} {ks : List Ky} {vs : List V} (h : DicAt H a t ks vs) : ks.length = vs.length := by
  unfold DicAt at h
  split at h
  · obtain ⟨kvs, _, e1, e2⟩ := h; rw [e1, e2, List.length_map, List.length_map]
  · obtain ⟨kvs, _, e1, e2⟩ := h; rw [e1, e2, List.length_map, List.length_map]
theorem c_len : CaN cn (rLenA cn.K) (l1 dLen) := caN1 fun en G fr ps σ H x a U d Q R r e k => by
  have fin : ∀ n : Nat, d = .int n → Q (.int n) H := fun n ed => by
    subst ed
    exact k _ H G (Same.refl H) (fun _ z => z) (R.push (v := .int n) rfl (atV_rep rfl))
  unfold dLen at e
  split at e
  · cases e
    simp only [Rep] at r
    obtain ⟨p, vs, T, e1, h1, l1, _⟩ := r
    subst e1
    exact .inl ⟨_, _, rfl, .inl ⟨vs, .inl (.inl h1), l1.length⟩, fin _ rfl⟩
  · cases e
    simp only [Rep] at r
    obtain ⟨p, vs, e1, h1, l1, _⟩ := r
    subst e1
    exact .inl ⟨_, _, rfl, .inl ⟨vs, h1 H fun _ _ => rfl, l1.length⟩, fin _ rfl⟩
  · cases e
    simp only [Rep] at r
    obtain ⟨p, vs, e1, g1, h1, l1⟩ := r
    subst e1
    exact .inl ⟨_, _, rfl, .inr ⟨vs, .inl (.inl h1), l1.length⟩, fin _ rfl⟩
  · cases e
    simp only [Rep] at r
    obtain ⟨p, vs, e1, h1, l1, _⟩ := r
    subst e1
    exact .inl ⟨_, _, rfl, .inr ⟨vs, h1 H fun _ _ => rfl, l1.length⟩, fin _ rfl⟩
  · rename_i s
    split at e
    · rename_i hl
      cases e
      rw [rep_str r]
      exact .inl ⟨_, _, rfl, ⟨Nat.le_trans (Nat.le_of_lt hl) cap_le, rfl⟩, fin _ rfl⟩
    · cases e
  · rename_i o t ks ds
    cases e
    simp only [Rep] at r
    obtain ⟨p, vs, T, e1, h1, l1, _⟩ := r
    subst e1
    unfold DicAt at h1
    split at h1
    · obtain ⟨kvs, q1, q2, q3⟩ := h1
      have hl : ks.length = kvs.length := by rw [q2, List.length_map]
      exact .inr (.inr ⟨p, kvs, rfl, q1, by rw [← hl]; exact fin _ rfl⟩)
    · obtain ⟨kvs, q1, q2, q3⟩ := h1
      have hl : ks.length = kvs.length := by rw [q2, List.length_map]
      exact .inr (.inl ⟨p, kvs, rfl, q1, by rw [← hl]; exact fin _ rfl⟩)
  · cases e
theorem c_abs : CaN cn (fun xs H Q => ∃ i, xs = [.int i] ∧ Q (.int (if i < 0 then -i else i)) H) (l1 dAbs) := caN1 fun en G fr ps σ H x a U d Q R r e k => by
  unfold dAbs at e
  split at e
  · rename_i i
    cases e
    exact ⟨i, by rw [rep_int r], k _ H G (Same.refl H) (fun _ z => z) (R.push (v := .int _) rfl (atV_rep rfl))⟩
  · cases e
theorem c_int : CaN cn (fun xs H Q => (∃ i, xs = [.int i] ∧ Q (.int i) H) ∨ ∃ k, xs = [.bl k] ∧ Q (.int (if k then 1 else 0)) H) (l1 dInt) := caN1 fun en G fr ps σ H x a U d Q R r e k => by
  unfold dInt at e
  split at e
  · rename_i i
    cases e
    exact .inl ⟨i, by rw [rep_int r], k _ H G (Same.refl H) (fun _ z => z) (R.push (v := .int _) rfl (atV_rep rfl))⟩
  · rename_i b
    cases e
    exact .inr ⟨b, by rw [rep_bl r], k _ H G (Same.refl H) (fun _ z => z) (R.push (v := .int _) rfl (atV_rep rfl))⟩
  · cases e
theorem c_min2 : CaN cn (fun xs H Q => ∃ i j, xs = [.int i, .int j] ∧ Q (.int (if j < i then j else i)) H) (l2 dMin2) := caN2 (op2_I fun i j d e => by
  cases e; exact ⟨_, rfl, fun H Q q => ⟨i, j, rfl, q⟩⟩)
theorem c_max2 : CaN cn (fun xs H Q => ∃ i j, xs = [.int i, .int j] ∧ Q (.int (if j > i then j else i)) H) (l2 dMax2) := caN2 (op2_I fun i j d e => by
  cases e; exact ⟨_, rfl, fun H Q q => ⟨i, j, rfl, q⟩⟩)
theorem ints_vs : ∀ {ds : List D} {vs : List V} {S : List Addr} {ns : List Int}, RepL cn G H ds vs S → intsD ds = some ns → vs = ns.map V.int
  | [], vs, S, ns, r, e => by cases e; simp only [RepL] at r; exact r.1
  | d :: ds, vs, S, ns, r, e => by
    simp only [RepL] at r
    obtain ⟨v, rr, S1, S2, e1, e2, h1, h2⟩ := r
    cases d <;> simp only [intsD] at e <;> try (cases e; done)
    rename_i i
    cases e3 : intsD ds with
    | none => rw [e3] at e; cases e
    | some ms =>
      rw [e3] at e
      cases e
      rw [e1, rep_int h1, ints_vs h2 e3]
      rfl
theorem c_sum : CaN cn (rSum cn.K) (l1 dSum) := caN1 fun en G fr ps σ H x a U d Q R r e k => by
  unfold dSum at e
  split at e
  · rename_i o xs
    cases e1 : intsD xs with
    | none => rw [e1] at e; cases e
    | some ns =>
      rw [e1] at e
      cases e
      simp only [Rep] at r
      obtain ⟨p, vs, T, e2, h1, l1, _⟩ := r
      subst e2
      refine ⟨p, ns, rfl, .inl (.inl ?_), k _ H G (Same.refl H) (fun _ z => z) (R.push (v := .int _) rfl (atV_rep rfl))⟩
      rw [← ints_vs l1 e1]
      exact h1
  · cases e
theorem c_list {o : Bool} : CaN cn (fun xs H Q => ∃ p ys, xs = [.ref p] ∧ (SqL cn.K H p ys ∨ SqT cn.K H p ys) ∧ ∀ l, H l = none → Q (.ref l) (upd H l (.lst ys))) (l1 (dList o)) := caN1 fun en G fr ps σ H x a U d Q R r e k => by
  have fin : ∀ {xs : List D} {vs : List V} {T : List Addr}, isFL xs = true → RepL cn G H xs vs T → d = .lst o xs → ∀ l, H l = none → Q (.ref l) (upd H l (.lst vs)) := fun hf l1 ed l hl => by
    subst ed
    obtain ⟨G', g', R'⟩ := R.newLst o hl (l1.nilAll hf)
    exact k _ _ G' (fun b x e => by rw [upd_ne (ne_of_none e hl)]; exact e) g' R'
  unfold dList at e
  split at e
  · split at e
    · rename_i hf
      cases e
      simp only [Rep] at r
      obtain ⟨p, vs, T, e2, h1, l1, _⟩ := r
      subst e2
      exact ⟨p, vs, rfl, .inl (.inl (.inl h1)), fin hf l1 rfl⟩
    · cases e
  · split at e
    · rename_i hf
      cases e
      simp only [Rep] at r
      obtain ⟨p, vs, e2, h1, l1, _⟩ := r
      subst e2
      exact ⟨p, vs, rfl, .inl (h1 H fun _ _ => rfl), fin hf l1 rfl⟩
    · cases e
  · split at e
    · rename_i hf
      cases e
      simp only [Rep] at r
      obtain ⟨p, vs, e2, g1, h1, l1⟩ := r
      subst e2
      exact ⟨p, vs, rfl, .inr (.inl (.inl h1)), fin hf l1 rfl⟩
    · cases e
  · split at e
    · rename_i hf
      cases e
      simp only [Rep] at r
      obtain ⟨p, vs, e2, h1, l1, _⟩ := r
      subst e2
      exact ⟨p, vs, rfl, .inr (h1 H fun _ _ => rfl), fin hf l1 rfl⟩
    · cases e
  · cases e
theorem rng_rep : ∀ (n : Nat) (a : Int) (s : Nat), RepL cn G H ((List.range' s n).map fun (k : Nat) => D.int (a + k)) ((List.range' s n).map fun (k : Nat) => V.int (a + k)) []
  | 0, a, s => by simp only [List.range'_zero, List.map_nil, RepL]; exact ⟨trivial, trivial⟩
  | n + 1, a, s => by
    simp only [List.range'_succ, List.map_cons, RepL]
    exact ⟨_, _, [], [], rfl, rfl, atV_rep rfl, rng_rep n a (s + 1)⟩
/-- list(range(n)) -/
theorem gd_listR {o : Bool} {ta : TE} {fa : QE} (ha : GdV cn ta fa) : GdQ cn (tLstRg (tRg1 ta)) (q1 (dRng1 o) fa) := fun en G fr ps σ H d Q R e k => by
  unfold q1 at e
  cases ea : fa ps with
  | none => rw [ea] at e; cases e
  | some x =>
    rw [ea] at e
    cases x <;> simp only [Option.bind_some, dRng1] at e <;> try (cases e; done)
    rename_i n
    split at e
    · rename_i hs
      cases e
      refine ha en G fr ps σ H _ _ R ea fun v H1 G1 U s1 g1 R1 r1 => ⟨n, rep_int r1, ?_, fun q hq => ?_⟩
      · unfold small at hs
        refine ⟨?_, ?_, ?_, ?_, ?_⟩ <;> omega
      · have rl : RepL cn G1 H1 (rng 0 n) (rgV 0 n) [] := by
          unfold rng rgV
          rw [List.range_eq_range']
          exact rng_rep _ _ _
        obtain ⟨G', g', R'⟩ := R1.newLst o hq rl
        exact k _ _ G' (s1.trans fun b x e => by rw [upd_ne (ne_of_none e hq)]; exact e) (fun a z => g' a (g1 a z)) R'
    · cases e
end
end Pv

/-! Snd9: dicts, fields, new instances, methods, isinstance, slices stored. -/
namespace Pv
open PySem L2
section
variable {cn : Cn} {en : Ent} {G G' : Addr → Prop} {H H' : Hp} {fr fr' : List (V × D)} {ps : PS} {σ : L2.St}
/-! ### dicts -/
theorem atm_kV {d : D} {k : Sum Int Str} {v : V} {U : List Addr} (e : atm d = some k) (r : Rep cn G H d v U) : v = L2.kV k := by
  cases d <;> simp only [atm] at e <;> try (cases e; done)
  · cases e; exact rep_int r
  · cases e; exact rep_str r
theorem atms_kV : ∀ {ds : List D} {ks : List (Sum Int Str)} {vs : List V} {U : List Addr}, atms ds = some ks → RepL cn G H ds vs U → vs = ks.map L2.kV
  | [], ks, vs, U, e, r => by cases e; simp only [RepL] at r; exact r.1
  | d :: ds, ks, vs, U, e, r => by
    simp only [RepL] at r
    obtain ⟨v, rr, S1, S2, e1, e2, h1, h2⟩ := r
    simp only [atms] at e
    cases ea : atm d with
    | none => rw [ea] at e; cases e
    | some k =>
      rw [ea] at e
      simp only [Option.bind_some] at e
      cases es : atms ds with
      | none => rw [es] at e; cases e
      | some ks' =>
        rw [es] at e
        cases e
        rw [e1, atm_kV ea h1, atms_kV es h2]
        rfl
theorem lk_valK {q : Sum Int Str} : ∀ {kvs : List (Key × V)} {ds : List D} {S : List Addr}, RepL cn G H ds (kvs.map (·.2)) S →
    (∀ d, lkD (kvs.map fun p => [p.1]) ds [q] = some d → ∃ v U, valV kvs q = some v ∧ Rep cn G H d v U) ∧ (lkD (kvs.map fun p => [p.1]) ds [q] = none → valV kvs q = none)
  | [], ds, S, r => ⟨fun d e => by simp [lkD] at e, fun _ => rfl⟩
  | p :: kvs, [], S, r => by simp only [List.map_cons, RepL] at r; cases r.1
  | p :: kvs, d0 :: ds, S, r => by
    simp only [List.map_cons, RepL] at r
    obtain ⟨v, rr, S1, S2, e1, e2, h1, h2⟩ := r
    injection e1 with e1 e3
    subst e3
    obtain ⟨i1, i2⟩ := lk_valK (q := q) h2
    by_cases h : p.1 = q
    · have hk : ([p.1] : List (Sum Int Str)) = [q] := by rw [h]
      refine ⟨fun d e => ?_, fun e => ?_⟩
      · simp only [List.map_cons, lkD, if_pos hk] at e
        cases e
        exact ⟨p.2, S1, valV_pos h, by rw [e1]; exact h1⟩
      · simp only [List.map_cons, lkD, if_pos hk] at e
        cases e
    · have hk : ¬ ([p.1] : List (Sum Int Str)) = [q] := fun z => h (by simpa using z)
      refine ⟨fun d e => ?_, fun e => ?_⟩
      · simp only [List.map_cons, lkD, if_neg hk] at e
        rw [valV_neg h]
        exact i1 d e
      · simp only [List.map_cons, lkD, if_neg hk] at e
        rw [valV_neg h]
        exact i2 e
theorem lk_valT {q : List (Sum Int Str)} : ∀ {kvs : List (List Key × V)} {ds : List D} {S : List Addr}, RepL cn G H ds (kvs.map (·.2)) S →
    (∀ d, lkD (kvs.map (·.1)) ds q = some d → ∃ v U, valV kvs q = some v ∧ Rep cn G H d v U) ∧ (lkD (kvs.map (·.1)) ds q = none → valV kvs q = none)
  | [], ds, S, r => ⟨fun d e => by simp [lkD] at e, fun _ => rfl⟩
  | p :: kvs, [], S, r => by simp only [List.map_cons, RepL] at r; cases r.1
  | p :: kvs, d0 :: ds, S, r => by
    simp only [List.map_cons, RepL] at r
    obtain ⟨v, rr, S1, S2, e1, e2, h1, h2⟩ := r
    injection e1 with e1 e3
    subst e3
    obtain ⟨i1, i2⟩ := lk_valT (q := q) h2
    by_cases h : p.1 = q
    · refine ⟨fun d e => ?_, fun e => ?_⟩
      · simp only [List.map_cons, lkD, if_pos h] at e
        cases e
        exact ⟨p.2, S1, valV_pos h, by rw [e1]; exact h1⟩
      · simp only [List.map_cons, lkD, if_pos h] at e
        cases e
    · refine ⟨fun d e => ?_, fun e => ?_⟩
      · simp only [List.map_cons, lkD, if_neg h] at e
        rw [valV_neg h]
        exact i1 d e
      · simp only [List.map_cons, lkD, if_neg h] at e
        rw [valV_neg h]
        exact i2 e
theorem dic_get {a : Addr} {t : Bool} {ks : List Ky} {ds : List D} {vs : List V} {T W : List Addr} {y : D} {w : V} {q : Ky} (h : DicAt H a t ks vs) (r : RepL cn G H ds vs T) (e : keyD t y = some q) (ry : Rep cn G H y w W) :
    (∀ d, lkD ks ds q = some d → ∃ v U, DGet H a w (some v) ∧ Rep cn G H d v U) ∧ (lkD ks ds q = none → DGet H a w none) := by
  unfold DicAt at h
  cases t with
  | true =>
    rw [if_pos rfl] at h
    obtain ⟨kvs, h1, h2, h3⟩ := h
    subst h2 h3
    unfold keyD at e
    rw [if_pos rfl] at e
    split at e
    · rename_i es
      obtain ⟨b, ws, eb, gb, hb, rl⟩ := tup_rep ry
      subst eb
      have ew := atms_kV e rl
      rw [ew] at hb
      obtain ⟨i1, i2⟩ := lk_valT (q := q) r
      refine ⟨fun d ed => ?_, fun en => ?_⟩
      · obtain ⟨v, U, q1, q2⟩ := i1 d ed
        exact ⟨v, U, by rw [← q1]; exact DGet.t h1 hb, q2⟩
      · have := DGet.t (k := q) h1 hb
        rw [i2 en] at this
        exact this
    · cases e
  | false =>
    rw [if_neg (by decide)] at h
    obtain ⟨kvs, h1, h2, h3⟩ := h
    subst h2 h3
    unfold keyD at e
    rw [if_neg (by decide)] at e
    cases ea : atm y with
    | none => rw [ea] at e; cases e
    | some k =>
      rw [ea] at e
      cases e
      have ew := atm_kV ea ry
      subst ew
      obtain ⟨i1, i2⟩ := lk_valK (q := k) r
      refine ⟨fun d ed => ?_, fun en => ?_⟩
      · obtain ⟨v, U, q1, q2⟩ := i1 d ed
        exact ⟨v, U, by rw [← q1]; exact DGet.k h1, q2⟩
      · have := DGet.k (k := k) h1
        rw [i2 en] at this
        exact this
theorem dic_rep {o t : Bool} {ks : List Ky} {ds : List D} {v : V} {U : List Addr} (r : Rep cn G H (.dic o t ks ds) v U) : ∃ a vs T, v = .ref a ∧ DicAt H a t ks vs ∧ RepL cn G H ds vs T ∧ Own o G a T U := by
  simp only [Rep] at r
  exact r
theorem gd_dget {td ty : TE} {f g : QE} (h1 : GdV cn td f) (h2 : GdV cn ty g) : GdV cn (tDGet td ty) (q2 dGet f g) := fun en G fr ps σ H d Q R e k => by
  unfold q2 at e
  cases ef : f ps with
  | none => rw [ef] at e; cases e
  | some x =>
    cases eg : g ps with
    | none => rw [ef, eg] at e; cases e
    | some y =>
      rw [ef, eg] at e
      simp only [Option.bind_some, dGet] at e
      split at e
      · rename_i o t ks ds
        cases eq : keyD t y with
        | none => rw [eq] at e; cases e
        | some q =>
          rw [eq] at e
          refine h1 en G fr ps σ H _ _ R ef fun v H1 G1 U s1 g1 R1 r1 => ?_
          refine h2 en G1 fr ps σ H1 _ _ R1 eg fun w H2 G2 W s2 g2 R2 r2 => ?_
          obtain ⟨a, vs, T, ev, hd, rl, ow⟩ := dic_rep (r1.same R1.dom s2 g2)
          obtain ⟨i1, _⟩ := dic_get hd rl eq r2
          obtain ⟨z, Z, q1, q2⟩ := i1 d e
          exact ⟨a, z, ev, q1, k z H2 G2 Z (s1.trans s2) (fun a q => g2 a (g1 a q)) R2 q2⟩
      · cases e
theorem gd_din {td ty : TE} {f g : QE} (h2 : GdV cn ty g) (h1 : GdV cn td f) : GdQ cn (tDIn ty td) (q2 dIn g f) := fun en G fr ps σ H d Q R e k => by
  unfold q2 at e
  cases eg : g ps with
  | none => rw [eg] at e; cases e
  | some y =>
    cases ef : f ps with
    | none => rw [eg, ef] at e; cases e
    | some x =>
      rw [ef, eg] at e
      simp only [Option.bind_some, dIn] at e
      split at e
      · rename_i o t ks ds
        cases eq : keyD t y with
        | none => rw [eq] at e; cases e
        | some q =>
          rw [eq] at e
          cases e
          refine h2 en G fr ps σ H _ _ R eg fun w H1 G1 W s1 g1 R1 r1 => ?_
          refine h1 en G1 fr ps σ H1 _ _ R1 ef fun v H2 G2 U s2 g2 R2 r2 => ?_
          obtain ⟨a, vs, T, ev, hd, rl, ow⟩ := dic_rep r2
          obtain ⟨i1, i2⟩ := dic_get hd rl eq (r1.same R1.dom s2 g2)
          cases el : lkD ks ds q with
          | none => exact ⟨a, none, ev, i2 el, k _ H2 G2 (s1.trans s2) (fun a q => g2 a (g1 a q)) (R2.push (v := .bl _) rfl (by dsimp only; rw [el]; exact atV_rep rfl))⟩
          | some d =>
            obtain ⟨z, Z, q1, q2⟩ := i1 d el
            exact ⟨a, some z, ev, q1, k _ H2 G2 (s1.trans s2) (fun a q => g2 a (g1 a q)) (R2.push (v := .bl _) rfl (by dsimp only; rw [el]; exact atV_rep rfl))⟩
      · cases e
theorem gd_dnotin {td ty : TE} {f g : QE} (h2 : GdV cn ty g) (h1 : GdV cn td f) : GdQ cn (tDNotIn ty td) (q2 dNotIn g f) := fun en G fr ps σ H d Q R e k => by
  unfold q2 at e
  cases eg : g ps with
  | none => rw [eg] at e; cases e
  | some y =>
    cases ef : f ps with
    | none => rw [eg, ef] at e; cases e
    | some x =>
      rw [ef, eg] at e
      simp only [Option.bind_some, dNotIn] at e
      split at e
      · rename_i o t ks ds
        cases eq : keyD t y with
        | none => rw [eq] at e; cases e
        | some q =>
          rw [eq] at e
          cases e
          refine h2 en G fr ps σ H _ _ R eg fun w H1 G1 W s1 g1 R1 r1 => ?_
          refine h1 en G1 fr ps σ H1 _ _ R1 ef fun v H2 G2 U s2 g2 R2 r2 => ?_
          obtain ⟨a, vs, T, ev, hd, rl, ow⟩ := dic_rep r2
          obtain ⟨i1, i2⟩ := dic_get hd rl eq (r1.same R1.dom s2 g2)
          cases el : lkD ks ds q with
          | none => exact ⟨a, none, ev, i2 el, k _ H2 G2 (s1.trans s2) (fun a q => g2 a (g1 a q)) (R2.push (v := .bl _) rfl (by dsimp only; rw [el]; exact atV_rep rfl))⟩
          | some d =>
            obtain ⟨z, Z, q1, q2⟩ := i1 d el
            exact ⟨a, some z, ev, q1, k _ H2 G2 (s1.trans s2) (fun a q => g2 a (g1 a q)) (R2.push (v := .bl _) rfl (by dsimp only; rw [el]; exact atV_rep rfl))⟩
      · cases e
/-- an owned thing's address is not frozen -/
theorem RR.ownG {a : Addr} {d : D} (R : RR cn en G ((.ref a, d) :: fr) ps σ H) (k : ∀ U, Rep cn G H d (.ref a) U → a ∈ U) : ¬ G a := by
  obtain ⟨S, T0, hS, hT, g⟩ := R
  simp only [RepF] at hT
  obtain ⟨T3, T4, e3, r3, _⟩ := hT
  subst e3
  exact g.off a (by simp [k T3 r3])
/-- an owned object written whose parts are some Reps: the general form -/
theorem RR.wrO {a : Addr} {d0 d1 : D} {ob : HO} (R : RR cn en G ((.ref a, d0) :: fr) ps σ H)
    (k : ∀ U, Rep cn G H d0 (.ref a) U → ∃ T, U = a :: T ∧ ∀ H', (∀ b, b ≠ a → H' b = H b) → H' a = some ob → a ∉ T → ¬ G a → ∃ T', Rep cn G H' d1 (.ref a) (a :: T') ∧ ∀ b, T'.count b ≤ T.count b) : RR cn en G ((.ref a, d1) :: fr) ps σ (upd H a ob) := by
  have nG : ¬ G a := R.ownG fun U r => by obtain ⟨T, e, _⟩ := k U r; rw [e]; simp
  refine RR.xwr (cs := [(.ref a, d0)]) (cs' := [(.ref a, d1)]) R fun Sc hc h1 => ?_
  simp only [RepF] at hc
  obtain ⟨T1, T2, eT, r, e2⟩ := hc
  subst eT e2
  obtain ⟨T, e, q⟩ := k T1 r
  subst e
  have na : a ∉ T := by
    have := h1 a
    simp only [List.append_nil, List.count_cons, beq_self_eq_true, if_true] at this
    exact fun z => by have := cnt_mem.mp z; omega
  obtain ⟨T', r', le⟩ := q (upd H a ob) (fun b hb => upd_ne hb) upd_same na nG
  refine ⟨by simp, a :: T', ?_, fun b => ?_⟩
  · simp only [RepF]
    exact ⟨a :: T', [], by simp, r', rfl⟩
  · have := le b
    simp only [List.count_append, List.count_cons, List.count_nil]
    omega
theorem RepL.off {ds : List D} {vs : List V} {T : List Addr} {a : Addr} (r : RepL cn G H ds vs T) (h : ∀ b, b ≠ a → H' b = H b) (n : a ∉ T) (nG : ¬ G a) : RepL cn G H' ds vs T :=
  RepL.frame (fun _ z => z) (fun b gb => h b fun e => nG (e ▸ gb)) ds vs T (fun b hb => h b fun e => n (e ▸ hb)) r
theorem Rep.off0 {d : D} {v : V} {a : Addr} (r : Rep cn G H d v []) (h : ∀ b, b ≠ a → H' b = H b) (nG : ¬ G a) : Rep cn G H' d v [] :=
  Rep.frame (fun _ z => z) (fun b gb => h b fun e => nG (e ▸ gb)) d v [] (fun b hb => nomatch hb) r
theorem repl_K {q : Sum Int Str} {x : D} {v : V} (rx : Rep cn G H x v []) : ∀ {kvs : List (Key × V)} {ds : List D} {T : List Addr}, RepL cn G H ds (kvs.map (·.2)) T →
    ∃ T', RepL cn G H (rpD (kvs.map fun p => [p.1]) ds [q] x) ((kvs.map fun kv => if kv.1 = q then (kv.1, v) else kv).map (·.2)) T' ∧ ∀ b, T'.count b ≤ T.count b
  | [], ds, T, r => by
    simp only [List.map_nil, RepL] at r ⊢
    cases ds with
    | nil => exact ⟨[], by simp only [rpD, RepL]; exact ⟨trivial, trivial⟩, fun b => by simp⟩
    | cons d ds => simp only [List.map_nil, RepL] at r; obtain ⟨_, _, _, _, e, _⟩ := r; cases e
  | p :: kvs, [], T, r => by simp only [List.map_cons, RepL] at r; cases r.1
  | p :: kvs, d0 :: ds, T, r => by
    simp only [List.map_cons, RepL] at r
    obtain ⟨w, rr, S1, S2, e1, e2, h1, h2⟩ := r
    injection e1 with e1 e3
    subst e3 e2
    obtain ⟨T', q1, q2⟩ := repl_K (q := q) rx h2
    by_cases h : p.1 = q
    · refine ⟨T', ?_, fun b => by have := q2 b; rw [List.count_append]; omega⟩
      simp only [List.map_cons, rpD]
      rw [if_pos (show ([p.1] : List (Sum Int Str)) = [q] by rw [h]), if_pos h]
      simp only [RepL]
      exact ⟨v, _, [], T', rfl, rfl, rx, q1⟩
    · refine ⟨S1 ++ T', ?_, fun b => by have := q2 b; rw [List.count_append, List.count_append]; omega⟩
      simp only [List.map_cons, rpD]
      rw [if_neg (show ¬ ([p.1] : List (Sum Int Str)) = [q] from fun z => h (by simpa using z)), if_neg h]
      simp only [RepL]
      exact ⟨p.2, _, S1, T', rfl, rfl, by rw [e1]; exact h1, q1⟩
theorem repl_T {q : List (Sum Int Str)} {x : D} {v : V} (rx : Rep cn G H x v []) : ∀ {kvs : List (List Key × V)} {ds : List D} {T : List Addr}, RepL cn G H ds (kvs.map (·.2)) T →
    ∃ T', RepL cn G H (rpD (kvs.map (·.1)) ds q x) ((kvs.map fun kv => if kv.1 = q then (kv.1, v) else kv).map (·.2)) T' ∧ ∀ b, T'.count b ≤ T.count b
  | [], ds, T, r => by
    simp only [List.map_nil, RepL] at r ⊢
    cases ds with
    | nil => exact ⟨[], by simp only [rpD, RepL]; exact ⟨trivial, trivial⟩, fun b => by simp⟩
    | cons d ds => simp only [List.map_nil, RepL] at r; obtain ⟨_, _, _, _, e, _⟩ := r; cases e
  | p :: kvs, [], T, r => by simp only [List.map_cons, RepL] at r; cases r.1
  | p :: kvs, d0 :: ds, T, r => by
    simp only [List.map_cons, RepL] at r
    obtain ⟨w, rr, S1, S2, e1, e2, h1, h2⟩ := r
    injection e1 with e1 e3
    subst e3 e2
    obtain ⟨T', q1, q2⟩ := repl_T (q := q) rx h2
    by_cases h : p.1 = q
    · refine ⟨T', ?_, fun b => by have := q2 b; rw [List.count_append]; omega⟩
      simp only [List.map_cons, rpD]
      rw [if_pos h, if_pos h]
      simp only [RepL]
      exact ⟨v, _, [], T', rfl, rfl, rx, q1⟩
    · refine ⟨S1 ++ T', ?_, fun b => by have := q2 b; rw [List.count_append, List.count_append]; omega⟩
      simp only [List.map_cons, rpD]
      rw [if_neg h, if_neg h]
      simp only [RepL]
      exact ⟨p.2, _, S1, T', rfl, rfl, by rw [e1]; exact h1, q1⟩
theorem any_K {q : Sum Int Str} : ∀ {kvs : List (Key × V)}, ((kvs.map fun p => [p.1]).any fun k => decide (k = [q])) = (kvs.any fun kv => decide (kv.1 = q))
  | [] => rfl
  | p :: kvs => by
    simp only [List.map_cons, List.any_cons]
    rw [any_K]
    have : decide (([p.1] : List (Sum Int Str)) = [q]) = decide (p.1 = q) := by
      by_cases h : p.1 = q
      · rw [h, decide_eq_true rfl, decide_eq_true rfl]
      · rw [decide_eq_false h, decide_eq_false fun z => h (by simpa using z)]
    rw [this]
theorem any_T {q : List (Sum Int Str)} : ∀ {kvs : List (List Key × V)}, ((kvs.map (·.1)).any fun k => decide (k = q)) = (kvs.any fun kv => decide (kv.1 = q))
  | [] => rfl
  | p :: kvs => by
    simp only [List.map_cons, List.any_cons]
    rw [any_T]
theorem keys_map {κ : Type} [DecidableEq κ] {q : κ} {v : V} : ∀ {kvs : List (κ × V)}, (kvs.map fun kv => if kv.1 = q then (kv.1, v) else kv).map (·.1) = kvs.map (·.1)
  | [] => rfl
  | p :: kvs => by
    simp only [List.map_cons]
    rw [keys_map]
    by_cases h : p.1 = q
    · rw [if_pos h]
    · rw [if_neg h]
/-- d[k] = e -/
theorem gd_dput {i : Nat} {ty tv : TE} {g : QE} {f : GE} (hk : GdV cn ty g) (hv : GdG cn tv f) : GdS cn (sDPut (tVar i) ty tv) (sPutD i g f) := fun en G fr ps σ H D' c ps' R e k => by
  unfold sPutD at e
  cases ef : f ps with
  | none => rw [ef] at e; cases e
  | some x =>
    rw [ef] at e
    obtain ⟨x1, x2⟩ := x
    simp only [Option.bind_some] at e
    cases eg : g x2 with
    | none => rw [eg] at e; cases e
    | some y =>
      rw [eg] at e
      simp only [Option.bind_some] at e
      cases e1 : rdM x2 i with
      | none => rw [e1] at e; cases e
      | some d1 =>
        rw [e1] at e
        simp only [Option.bind_some] at e
        split at e
        · rename_i t ks ds
          cases eq : keyD t y with
          | none => rw [eq] at e; cases e
          | some q =>
            rw [eq] at e
            simp only [Option.bind_some] at e
            split at e
            · rename_i hc
              cases e
              refine hv en G fr ps σ H x1 x2 _ R ef fun w H1 G1 R1 => ?_
              obtain ⟨v0, hv0, _, _⟩ := R1.lend e1
              refine ⟨v0, hv0, ?_⟩
              refine hk en G1 _ x2 σ H1 _ _ R1 eg fun u H2 G2 U2 s2 g2 R2 r2 => ?_
              obtain ⟨v, hv1, R3, back⟩ := R2.lend e1
              rw [hv0] at hv1
              cases hv1
              obtain ⟨U1, r1⟩ := R3.view
              obtain ⟨a, vs, T, ev, hd, rl, ow⟩ := dic_rep r1
              subst ev
              obtain ⟨W, rw_⟩ := R3.drop.view
              have eW := Rep.nil _ _ _ hc.1 rw_
              subst eW
              have hl : ks.length = vs.length := hd.len
              cases t with
              | true =>
                have hd' := hd
                unfold DicAt at hd'
                rw [if_pos rfl] at hd'
                obtain ⟨kvs, p1, p2, p3⟩ := hd'
                unfold keyD at eq
                rw [if_pos rfl] at eq
                split at eq
                · rename_i es
                  obtain ⟨b, ws, eb, gb, hb, rlb⟩ := tup_rep r2
                  subst eb
                  have ew := atms_kV eq rlb
                  rw [ew] at hb
                  refine ⟨a, _, rfl, DPut.t (k := q) p1 hb ?_, ?_⟩
                  · rw [p2, List.length_map] at hc; exact Nat.lt_of_lt_of_le hc.2 cap_le
                  · refine k _ _ G2 (RR.drop (back _ _ _ _ (RR.wrO R3 fun U rU => ?_)))
                    obtain ⟨a', vs', T', ev', hd', rl', ow'⟩ := dic_rep rU
                    cases ev'
                    unfold DicAt at hd'
                    rw [if_pos rfl] at hd'
                    obtain ⟨kvs', p1', p2', p3'⟩ := hd'
                    rw [p1] at p1'
                    cases p1'
                    subst p3'
                    refine ⟨T', ow'.t, fun H4 hne ha nT nG => ?_⟩
                    have rl4 := rl'.off hne nT nG
                    have rx4 := rw_.off0 hne nG
                    unfold putD putK at *
                    rw [p2', any_T]
                    split
                    · rename_i hany
                      rw [if_pos hany] at ha
                      obtain ⟨T5, q5, le⟩ := repl_T (q := q) rx4 rl4
                      refine ⟨T5, ?_, le⟩
                      simp only [Rep]
                      refine ⟨a, _, T5, rfl, ?_, q5, Own.mkT⟩
                      unfold DicAt
                      rw [if_pos rfl]
                      exact ⟨_, ha, keys_map.symm, rfl⟩
                    · rename_i hany
                      rw [if_neg hany] at ha
                      refine ⟨T' ++ [], ?_, fun b => by simp⟩
                      simp only [Rep]
                      refine ⟨a, kvs.map (·.2) ++ [w], T' ++ [], rfl, ?_, rl4.append (RepL.one rx4), Own.mkT⟩
                      unfold DicAt
                      rw [if_pos rfl]
                      exact ⟨_, ha, by simp, by simp⟩
                · cases eq
              | false =>
                have hd' := hd
                unfold DicAt at hd'
                rw [if_neg (by decide)] at hd'
                obtain ⟨kvs, p1, p2, p3⟩ := hd'
                unfold keyD at eq
                rw [if_neg (by decide)] at eq
                cases ea : atm y with
                | none => rw [ea] at eq; cases eq
                | some k0 =>
                  rw [ea] at eq
                  cases eq
                  have ew := atm_kV ea r2
                  subst ew
                  refine ⟨a, _, rfl, DPut.k (k := k0) p1 ?_, ?_⟩
                  · rw [p2, List.length_map] at hc; exact Nat.lt_of_lt_of_le hc.2 cap_le
                  · refine k _ _ G2 (RR.drop (back _ _ _ _ (RR.wrO R3 fun U rU => ?_)))
                    obtain ⟨a', vs', T', ev', hd', rl', ow'⟩ := dic_rep rU
                    cases ev'
                    unfold DicAt at hd'
                    rw [if_neg (by decide)] at hd'
                    obtain ⟨kvs', p1', p2', p3'⟩ := hd'
                    rw [p1] at p1'
                    cases p1'
                    subst p3'
                    refine ⟨T', ow'.t, fun H4 hne ha nT nG => ?_⟩
                    have rl4 := rl'.off hne nT nG
                    have rx4 := rw_.off0 hne nG
                    unfold putD putK at *
                    rw [p2', any_K]
                    split
                    · rename_i hany
                      rw [if_pos hany] at ha
                      obtain ⟨T5, q5, le⟩ := repl_K (q := k0) rx4 rl4
                      refine ⟨T5, ?_, le⟩
                      simp only [Rep]
                      refine ⟨a, _, T5, rfl, ?_, q5, Own.mkT⟩
                      unfold DicAt
                      rw [if_neg (by decide)]
                      refine ⟨_, ha, ?_, rfl⟩
                      have := keys_map (q := k0) (v := w) (kvs := kvs)
                      have h2 := congrArg (List.map fun z : Key => [z]) this
                      simpa [List.map_map, Function.comp_def] using h2.symm
                    · rename_i hany
                      rw [if_neg hany] at ha
                      refine ⟨T' ++ [], ?_, fun b => by simp⟩
                      simp only [Rep]
                      refine ⟨a, kvs.map (·.2) ++ [w], T' ++ [], rfl, ?_, rl4.append (RepL.one rx4), Own.mkT⟩
                      unfold DicAt
                      rw [if_neg (by decide)]
                      exact ⟨_, ha, by simp, by simp⟩
            · cases e
        · cases e
/-- {} -/
theorem gd_dnew (t : Bool) {te : TE} (h : ∀ σ H Q, (∀ p, H p = none → Q (.ref p) (upd H p (if t then .dT [] else .dK []))) → te σ H Q) : GdQ cn te (qC (.dic true t [] [])) := fun en G fr ps σ H d Q R e k => by
  cases e
  exact h σ H Q fun p hp => k _ _ G (fun b x e => by rw [upd_ne (ne_of_none e hp)]; exact e) (fun _ z => z) (R.newDic t hp)
/-! ### fields -/
/-- what a field's name must be for the classes at hand -/
def ClsF (cn : Cn) (f : Str) : Prop := ∀ c C, cn.ct c = some C → Cls cn.K C ∧ NoAttr cn.K C f
theorem ins_rep {o : Bool} {c : Nat} {fs : List Str} {ds : List D} {v : V} {U : List Addr} (r : Rep cn G H (.ins o c fs ds) v U) : ∃ a C dx vs T, v = .ref a ∧ cn.ct c = some C ∧ H a = some (.ins C dx (fs.zip vs)) ∧ fs.length = vs.length ∧ RepL cn G H ds vs T ∧ Own o G a T U := by
  simp only [Rep] at r
  exact r
theorem lk_fld {f : Str} : ∀ {fs : List Str} {ds : List D} {vs : List V} {T : List Addr} {d : D}, RepL cn G H ds vs T → lkF f fs ds = some d → ∃ v U, (fs.zip vs).lookup f = some v ∧ Rep cn G H d v U
  | [], ds, vs, T, d, r, e => by simp [lkF] at e
  | g :: fs, [], vs, T, d, r, e => by simp [lkF] at e
  | g :: fs, d0 :: ds, vs, T, d, r, e => by
    simp only [RepL] at r
    obtain ⟨v, rr, S1, S2, e1, e2, h1, h2⟩ := r
    subst e1
    simp only [lkF] at e
    simp only [List.zip_cons_cons, List.lookup_cons]
    by_cases h : f = g
    · rw [if_pos h] at e
      cases e
      have : (f == g) = true := by simp [h]
      rw [this]
      exact ⟨v, S1, rfl, h1⟩
    · rw [if_neg h] at e
      have : (f == g) = false := by simp [h]
      rw [this]
      exact lk_fld h2 e
theorem gd_fld {ta : TE} {fa : QE} {f : Str} (hc : ClsF cn f) (ha : GdV cn ta fa) : GdV cn (tFld cn.K ta f) (q1 (dFld f) fa) := fun en G fr ps σ H d Q R e k => by
  unfold q1 at e
  cases ea : fa ps with
  | none => rw [ea] at e; cases e
  | some x =>
    rw [ea] at e
    simp only [Option.bind_some, dFld] at e
    split at e
    · rename_i o c fs ds
      refine ha en G fr ps σ H _ _ R ea fun v H1 G1 U s1 g1 R1 r1 => ?_
      obtain ⟨a, C, dx, vs, T, ev, hC, hH, hl, rl, ow⟩ := ins_rep r1
      obtain ⟨z, Z, q1, q2⟩ := lk_fld rl e
      exact ⟨a, C, dx, _, z, ev, hH, (hc c C hC).1, (hc c C hC).2, q1, k z H1 G1 Z s1 g1 R1 q2⟩
    · cases e
theorem putFd_fst {f : Str} {x x' : D} : ∀ {fs : List Str} {ds ds' : List D}, ds.length = fs.length → ds'.length = fs.length → (putFd f x fs ds).1 = (putFd f x' fs ds').1
  | [], [], [], _, _ => rfl
  | g :: fs, d :: ds, d' :: ds', h, h' => by
    simp only [putFd]
    split
    · rfl
    · simp only [List.cons.injEq, true_and]
      exact putFd_fst (by simpa using h) (by simpa using h')
  | [], _ :: _, _, h, _ => by simp at h
  | [], [], _ :: _, _, h => by simp at h
  | _ :: _, [], _, h, _ => by simp at h
  | _ :: _, _ :: _, [], _, h => by simp at h
theorem put_fld {f : Str} {x : D} {v : V} {Tx : List Addr} (rx : Rep cn G H x v Tx) : ∀ {fs : List Str} {ds : List D} {vs : List V} {T : List Addr}, RepL cn G H ds vs T → fs.length = vs.length →
    ∃ ws T', putF f v (fs.zip vs) = ((putFd f x fs ds).1).zip ws ∧ ((putFd f x fs ds).1).length = ws.length ∧ RepL cn G H (putFd f x fs ds).2 ws T' ∧ ∀ b, T'.count b ≤ T.count b + Tx.count b
  | [], ds, vs, T, r, hl => by
    have ev : vs = [] := List.eq_nil_of_length_eq_zero (by simpa using hl.symm)
    subst ev
    have ed : ds = [] := List.eq_nil_of_length_eq_zero (by rw [r.length] <;> rfl)
    subst ed
    refine ⟨[v], Tx, by simp [putF, putFd], by simp [putFd], ?_, fun b => by omega⟩
    simp only [putFd]
    exact RepL.one rx
  | g :: fs, [], vs, T, r, hl => by
    have := r.length
    simp at this
    rw [← this] at hl
    simp at hl
  | g :: fs, d0 :: ds, vs, T, r, hl => by
    simp only [RepL] at r
    obtain ⟨w, rr, S1, S2, e1, e2, h1, h2⟩ := r
    subst e1 e2
    simp only [putFd, List.zip_cons_cons, putF]
    by_cases h : g = f
    · rw [if_pos h, if_pos h]
      refine ⟨v :: rr, Tx ++ S2, rfl, by simpa using hl, ?_, fun b => by rw [List.count_append, List.count_append]; omega⟩
      simp only [RepL]
      exact ⟨v, rr, Tx, S2, rfl, rfl, rx, h2⟩
    · rw [if_neg h, if_neg h]
      obtain ⟨ws, T', q1, q2, q3, q4⟩ := put_fld (f := f) rx h2 (by simpa using hl)
      refine ⟨w :: ws, S1 ++ T', by rw [q1]; rfl, by simpa using q2, ?_, fun b => by have := q4 b; rw [List.count_append, List.count_append]; omega⟩
      simp only [RepL]
      exact ⟨w, ws, S1, T', rfl, rfl, h1, q3⟩
theorem gd_sfld {i : Nat} {tv : TE} {f : Str} {e0 : GE} (hc : ClsF cn f) (hv : GdG cn tv e0) : GdS cn (L2.sFld cn.K (tVar i) tv f) (Pv.sFld i f e0) := fun en G fr ps σ H D' c ps' R e k => by
  unfold Pv.sFld at e
  cases ef : e0 ps with
  | none => rw [ef] at e; cases e
  | some x =>
    rw [ef] at e
    obtain ⟨x1, x2⟩ := x
    simp only [Option.bind_some] at e
    cases e1 : rdM x2 i with
    | none => rw [e1] at e; cases e
    | some d1 =>
      rw [e1] at e
      simp only [Option.bind_some] at e
      split at e
      · rename_i cc fs ds
        split at e
        · rename_i hlim
          cases e
          refine hv en G fr ps σ H x1 x2 _ R ef fun w H1 G1 R1 => ?_
          obtain ⟨v, hv0, R3, back⟩ := R1.lend e1
          refine ⟨v, hv0, ?_⟩
          obtain ⟨U1, r1⟩ := R3.view
          obtain ⟨a, C, dx, vs, T, ev, hC, hH, hl, rl, ow⟩ := ins_rep r1
          subst ev
          refine ⟨a, C, dx, _, rfl, hH, (hc cc C hC).1, (hc cc C hC).2, by rw [List.length_zip, ← hl, Nat.min_self]; omega, ?_⟩
          refine k _ _ G1 (back _ _ _ _ ?_)
          have nG : ¬ G1 a := R3.ownG fun U r => by
            obtain ⟨a', C', dx', vs', T', ev', _, _, _, _, ow'⟩ := ins_rep r
            cases ev'
            rw [ow'.t]; simp
          refine RR.xwr (cs := [(.ref a, .ins true cc fs ds), (w, x1)]) (cs' := [(.ref a, _)]) R3 fun Sc hcS h1 => ?_
          simp only [RepF] at hcS
          obtain ⟨T1, T2, eT, r, T3, T4, eT2, rw_, eT4⟩ := hcS
          subst eT eT2 eT4
          obtain ⟨a', C', dx', vs', T', ev', hC', hH', hl', rl', ow'⟩ := ins_rep r
          cases ev'
          rw [hH] at hH'
          injection hH' with hH'
          injection hH' with hCC hdx hz
          subst hCC hdx
          have evs : vs = vs' := by
            have h3 := congrArg (List.map Prod.snd) hz
            rwa [List.map_snd_zip (by omega), List.map_snd_zip (by omega)] at h3
          subst evs
          rw [ow'.t] at h1 ⊢
          have n1 : a ∉ T' ∧ a ∉ T3 := by
            have := h1 a
            simp only [List.count_append, List.count_cons, List.count_nil, beq_self_eq_true, if_true] at this
            constructor
            · intro z; have := cnt_mem.mp z; omega
            · intro z; have := cnt_mem.mp z; omega
          have hne : ∀ b, b ≠ a → (upd H1 a (.ins C dx (putF f w (fs.zip vs)))) b = H1 b := fun b hb => upd_ne hb
          have rl4 := rl'.off hne n1.1 nG
          have rx4 : Rep cn G1 (upd H1 a (.ins C dx (putF f w (fs.zip vs)))) x1 w T3 := Rep.frame (fun _ z => z) (fun b gb => hne b fun e => nG (e ▸ gb)) _ _ _ (fun b hb => hne b fun e => n1.2 (e ▸ hb)) rw_
          obtain ⟨ws, T5, q1, q2, q3, q4⟩ := put_fld (f := f) rx4 rl4 hl
          refine ⟨by simp, a :: T5, ?_, fun b => ?_⟩
          · simp only [RepF, Rep]
            exact ⟨a :: T5, [], by simp, ⟨a, C, dx, ws, T5, rfl, hC, by rw [← q1]; exact upd_same, q2, q3, Own.mkT⟩, rfl⟩
          · have := q4 b
            simp only [List.count_append, List.count_cons, List.count_nil]
            omega
        · cases e
      · cases e
/-! ### new instances -/
@[simp] def qMk (c : Nat) (f : List D → Option (D × List D)) (as : List QE) : QE := fun σ => (qAs as σ).bind (mkI c f)
theorem vwA_w {S : List Addr} {H H' : Hp} (hS : ∀ a ∈ S, H a = none) (s : Same H H') (dG : ∀ a, G a → H a ≠ none) : ∀ (ds : List D) (vs : List V), RepW cn G H ds vs → VwA cn G H' S (List.replicate ds.length false) vs ds
  | [], vs, h => by rw [show vs = [] from h]; trivial
  | d :: ds, vs, h => by
    simp only [RepW] at h
    obtain ⟨v, r, U, e, h1, h2⟩ := h
    subst e
    simp only [List.length_cons, List.replicate_succ, VwA]
    exact ⟨⟨U, h1.same dG s (fun _ z => z), fun a ha z => Rep.dom _ _ _ h1 a ha (hS a z)⟩, vwA_w hS s dG ds r h2⟩
theorem ioF_false : ∀ {n : Nat} {vs : List V} {ds : List D}, ioF (List.replicate n false) vs ds = []
  | 0, _, _ => rfl
  | n + 1, [], _ => by simp [List.replicate_succ, ioF]
  | n + 1, _ :: _, [] => by simp [List.replicate_succ, ioF]
  | n + 1, v :: vs, d :: ds => by simp only [List.replicate_succ, ioF]; exact ioF_false
theorem ioO_false : ∀ {n : Nat} {vs : List V} {ds : List D}, ioO (List.replicate n false) vs ds = []
  | 0, _, _ => rfl
  | n + 1, [], _ => by simp [List.replicate_succ, ioO]
  | n + 1, v :: vs, ds => by simp only [List.replicate_succ, ioO]; exact ioO_false
theorem gd_mk {c n : Nat} {C : Addr} {t : TA} {E : XK} {f : List D → Option (D × List D)} {as : List QE} (hC : cn.ct c = some C) (ha : GdA cn t (qAs as)) (hn : n = as.length) : GdQ cn (tMake C (SpG cn (true :: List.replicate n false) f) [] E t) (qMk c f as) := fun en G fr ps σ H d Q R e k => by
  unfold qMk at e
  cases ea : qAs as ps with
  | none => rw [ea] at e; cases e
  | some xs =>
    rw [ea] at e
    simp only [Option.bind_some, mkI] at e
    cases ef : f (.ins true c [] [] :: xs) with
    | none => rw [ef] at e; cases e
    | some r =>
      rw [ef] at e
      obtain ⟨r1, os⟩ := r
      simp only [Option.bind_some] at e
      split at e
      · rename_i z he
        cases e
        cases he
        refine ha en G fr ps σ H xs _ R ea fun vs H1 G1 s1 g1 R1 w1 => fun x dx hx hdx hne => ?_
        have hlen : xs.length = n := by
          rw [hn]
          have : ∀ {as : List QE} {xs : List D}, qAs as ps = some xs → xs.length = as.length := by
            intro as
            induction as with
            | nil => intro xs e; cases e; rfl
            | cons a as ih =>
              intro xs e
              simp only [qAs] at e
              cases e1 : a ps with
              | none => rw [e1] at e; cases e
              | some y =>
                rw [e1] at e
                simp only [Option.bind_some] at e
                cases e2 : qAs as ps with
                | none => rw [e2] at e; cases e
                | some ys => rw [e2] at e; cases e; rw [List.length_cons, List.length_cons, ih e2]
          exact this ea
        have hxd : (upd H1 dx (.own x)) x = none := by rw [upd_ne (Ne.symm hne)]; exact hx
        have sA : Same H1 (upd H1 dx (.own x)) := fun b o e => by rw [upd_ne (ne_of_none e hdx)]; exact e
        have sB : Same (upd H1 dx (.own x)) (upd (upd H1 dx (.own x)) x (.ins C dx [])) := fun b o e => by rw [upd_ne (ne_of_none e hxd)]; exact e
        have RA : RR cn en G1 fr ps σ (upd H1 dx (.own x)) := RR.xnew (N := []) (cs := []) (cs' := []) R1 hdx (fun _ z => z) (fun _ z => .inl z) (fun _ z => nomatch z) (by simp) fun Sc hc => ⟨[], rfl, fun b => by simp⟩
        have RB : RR cn en G1 ((.ref x, .ins true c [] []) :: fr) ps σ (upd (upd H1 dx (.own x)) x (.ins C dx [])) := by
          refine RR.xnew (N := [x]) (cs := []) (cs' := [(.ref x, .ins true c [] [])]) RA hxd (fun _ z => z) (fun b z => .inl z) (fun b z => ?_) (by simp) fun Sc hc => ?_
          · have e : b = x := by simpa using z
            exact ⟨e, fun q => RA.dom b q (by rw [e]; exact hxd)⟩
          · refine ⟨[x], ?_, fun b => by simp⟩
            simp only [RepF, Rep, RepL]
            exact ⟨[x], [], rfl, ⟨x, C, dx, [], [], rfl, hC, upd_same, rfl, ⟨rfl, rfl⟩, Own.mkT⟩, rfl⟩
        obtain ⟨S0, T0, hS, hT, g⟩ := RB
        obtain ⟨Sx, T2, eT, hx1, h0⟩ := RepF.append (cs := [(.ref x, .ins true c [] [])]) |>.mp hT
        subst eT
        have eSx : Sx = [x] := by
          simp only [RepF] at hx1
          obtain ⟨T3, T4, e3, r3, e4⟩ := hx1
          obtain ⟨a', C', dx', vs', T', ev', _, hH', _, rl', ow'⟩ := ins_rep r3
          cases ev'
          simp only [RepL] at rl'
          rw [e3, ow'.t, rl'.2, e4]
          rfl
        subst eSx
        rw [List.append_nil]
        refine ⟨G1, .ins true c [] [] :: xs, [x], .non, [d], g.dom, ?_, ?_, fun a => by simp [List.count_cons]; split <;> omega, fun a ha => g.off a (by simp at ha; simp [ha]), ef, fun v H3 G3 T' k1 k2 k3 k4 k5 k6 k7 k8 => ?_⟩
        · simp only [ioF, ioF_false]; exact hx1
        · simp only [VwA]
          rw [← hlen]
          exact vwA_w (fun a ha => by simp at ha; rw [ha]; exact hx) (sA.trans sB) R1.dom _ _ w1
        · simp only [ioO, ioO_false] at k6
          have R3 : RR cn en G3 ([(v, .non), (.ref x, d)] ++ fr) ps σ H3 := RR.called (ios := []) hS h0 g k1 k2 k3 k4 k5 k6 k7 k8
          have ev : v = .non := by
            have R4 : RR cn en G3 ((v, .non) :: (.ref x, d) :: fr) ps σ H3 := R3
            obtain ⟨U, r⟩ := R4.view
            exact rep_non r
          refine ⟨ev, k _ H3 G3 (s1.trans fun b o e => ?_) (fun a z => k2 a (g1 a z)) (RR.drop R3)⟩
          refine k1 b o (sB _ _ (sA _ _ e)) fun z => ?_
          simp at z
          rw [z, hx] at e
          cases e
      · cases e
/-! ### methods of what is only looked at -/
@[simp] def qMet (c0 : Nat) (m : Str) (f : List D → Option D) (a : QE) (as : List QE) : QE := fun σ => (a σ).bind fun x => (qAs as σ).bind fun xs =>
  match x with
  | .ins _ c fs _ => if c = c0 ∧ fs.contains m = false then f (x :: xs) else none
  | _ => none
theorem lookup_zip_none {m : Str} : ∀ {fs : List Str} {vs : List V}, fs.contains m = false → (fs.zip vs).lookup m = none
  | [], vs, _ => rfl
  | g :: fs, [], _ => rfl
  | g :: fs, v :: vs, h => by
    simp only [List.contains_cons, Bool.or_eq_false_iff] at h
    simp only [List.zip_cons_cons, List.lookup_cons, h.1]
    exact lookup_zip_none h.2
theorem gd_met {c0 : Nat} {C : Addr} {m : Str} {ta : TE} {t : TA} {E : XK} {f : List D → Option D} {a : QE} {as : List QE} (hC : cn.ct c0 = some C) (h1 : GdV cn ta a) (h2 : GdA cn t (qAs as)) : GdQ cn (tMeth C m (SpQ cn f) [] E ta t) (qMet c0 m f a as) := fun en G fr ps σ H d Q R e k => by
  unfold qMet at e
  cases ea : a ps with
  | none => rw [ea] at e; cases e
  | some x =>
    rw [ea] at e
    simp only [Option.bind_some] at e
    cases es : qAs as ps with
    | none => rw [es] at e; cases e
    | some xs =>
      rw [es] at e
      simp only [Option.bind_some] at e
      split at e
      · rename_i o c fs ds
        split at e
        · rename_i hcc
          refine h1 en G fr ps σ H _ _ R ea fun v H1 G1 U s1 g1 R1 r1 => ?_
          obtain ⟨b, C', dx, vs, T, ev, hC', hH, hl, rl, ow⟩ := ins_rep r1
          rw [hcc.1, hC] at hC'
          cases hC'
          refine ⟨b, dx, _, ev, hH, lookup_zip_none hcc.2, ?_⟩
          refine h2 en G1 fr ps σ H1 xs _ R1 es fun ws H2 G2 s2 g2 R2 w2 => ?_
          rw [List.append_nil]
          refine ⟨G2, _, d, R2.dom, ?_, e, fun v H3 G3 U3 s3 g3 d3 n3 r3 u3 c3 => k v H3 G3 ((s1.trans s2).trans s3) (fun a q => g3 a (g2 a (g1 a q))) (R2.grown s3 g3 d3 n3 r3 u3 c3)⟩
          simp only [RepW]
          exact ⟨v, ws, U, rfl, r1.same R1.dom s2 g2, w2⟩
        · cases e
      · cases e
end
end Pv

/-! Snd10: slices stored, op=, isinstance. -/
namespace Pv
open PySem PySem.Spec PyProof.Rows L2
/-! ### o[a:b] = list -/
def gSlc (to : TE) (tl th : TO) : TG := fun v σ H Q => to σ H fun o H1 => tl σ H1 fun l H2 => th σ H2 fun u H3 => ∃ p xs b ys a c, o = .ref p ∧ v = .ref b ∧ l = some a ∧ u = some c ∧ H3 p = some (.lst xs) ∧ H3 b = some (.lst ys) ∧ p ≠ b ∧ 0 ≤ a ∧ a ≤ c ∧ c ≤ (xs.length : Int) ∧ xs.length + ys.length ≤ sizeLine ∧ Q σ (upd H3 p (.lst (xs.take a.toNat ++ ys ++ xs.drop c.toNat)))
theorem pg_slc {X : Cx} {o : Expr} {lo hi : Option Expr} {p2 pos : Pos} {to : TE} {tl th : TO} (ho : PE X o to) (hl : PO X lo tl) (hu : PO X hi th) : PG X (.Subscript o (.Slice lo hi none p2) pos) (gSlc to tl th) := by
  refine ⟨fun pins s σ H v u Q I r h => ?_⟩
  rw [assign_Subscript]
  refine wpAny_bind (wpAny_holding (thn (ho.run pins s σ H _ I h) fun ov s1 ⟨x, H1, I1, r1, q1⟩ => ?_))
  refine wpAny_bind (wpAny_holding (wpAny_Slice (thn (hl.run pins s1 σ H1 _ I1 q1) fun vl s2 ⟨l, H2, I2, pl, q2⟩ => thn (hu.run pins s2 σ H2 _ I2 q2) fun vu s3 ⟨uu, H3, I3, pu, q3⟩ => ?_)))
  rw [evalPart_none]
  refine wpAny_pure ?_
  have I4 : Inv X pins σ H3 { s3 with heap := s3.heap.push { cls := .type "slice", data := .fields #[vl, vu, .none] } } := I3.kept (t' := s3.toks) fun b ob q => Heap.get?_push_of_some _ q
  obtain ⟨p, xs, b, ys, a, c, e1, e2, e3, e4, hp, hb, hne, h0, hac, hc, hz, q⟩ := q3
  subst e1 e2 e3 e4
  cases (show ov = Value.ref p from r1)
  cases (show u = Value.ref b from r)
  have ra : RelV (.int a) vl := by cases pl with | int i t => exact ⟨t, rfl⟩
  have rc : RelV (.int c) vu := by cases pu with | int i t => exact ⟨t, rfl⟩
  refine wpAny_bind (wpAny_standAt (wpAny_bind (wpAny_holding (set_slice I4 hp hb hne (Heap.IsSliceOf.new ..) ra rc h0 hac hc hz fun s' I' => ?_))))
  exact wpAny_release ⟨σ, _, I', q⟩
/-! ### o[i], a list, by values -/
theorem get_list {X : Cx} : PGet X (rIxL X.K) := by
  intro pins s σ H x y v u Q I rx ry h
  obtain ⟨p, xs, i, z, rfl, rfl, hq, he, q⟩ := h
  cases rx
  obtain ⟨t, rfl⟩ := ry
  obtain ⟨its, r, pl, hz⟩ := I.list hq
  obtain ⟨j, h1, h2, h3, h4, h5⟩ := atI_get he
  obtain ⟨w, ew, rw'⟩ := r.get h2
  have hl := r.length
  have hn := line63
  have fin : EP X pins σ Q w s := ⟨z, H, I, rw', q⟩
  by_cases h0 : 0 ≤ i
  · have hj : i.toNat = j := by
      rw [seqIndex_of h0 h5] at h1
      exact Option.some.inj h1
    exact wpAny_getItem_list pl.isList h0 (by omega) (by rw [hj]; simpa using ew) fin
  · have hj : (i + (its.toArray.size : Int)).toNat = j := by
      rw [seqIndex_neg (by omega) h4] at h1
      rw [List.size_toArray, ← hl]
      exact Option.some.inj h1
    exact wpAny_getItem_list_neg pl.isList (by omega) (by rw [List.size_toArray] <;> omega) (by omega) (by rw [hj]; simpa using ew) fin
section
variable {cn : Cn} {en : Ent} {G G' : Addr → Prop} {H H' : Hp} {fr fr' : List (V × D)} {ps : PS} {σ : L2.St}
theorem RepL.split : ∀ {ds : List D} {vs : List V} {T : List Addr} (n : Nat), RepL cn G H ds vs T → ∃ T1 T2, T = T1 ++ T2 ∧ RepL cn G H (ds.take n) (vs.take n) T1 ∧ RepL cn G H (ds.drop n) (vs.drop n) T2
  | ds, vs, T, 0, r => ⟨[], T, rfl, by simp only [List.take_zero, RepL]; trivial, r⟩
  | [], vs, T, n + 1, r => by
    simp only [RepL] at r
    obtain ⟨e1, e2⟩ := r
    subst e1 e2
    exact ⟨[], [], rfl, by simp only [List.take_nil, RepL]; trivial, by simp only [List.drop_nil, RepL]; trivial⟩
  | d :: ds, vs, T, n + 1, r => by
    simp only [RepL] at r
    obtain ⟨v, rr, S1, S2, e1, e2, h1, h2⟩ := r
    subst e1 e2
    obtain ⟨T1, T2, q1, q2, q3⟩ := RepL.split n h2
    subst q1
    refine ⟨S1 ++ T1, T2, by rw [List.append_assoc], ?_, q3⟩
    simp only [List.take_succ_cons, RepL]
    exact ⟨v, _, S1, T1, rfl, rfl, h1, q2⟩
theorem RepL.cut3 {ds : List D} {vs : List V} {T : List Addr} (r : RepL cn G H ds vs T) (a c : Nat) (h : a ≤ c) : ∃ T1 T2, RepL cn G H (ds.take a) (vs.take a) T1 ∧ RepL cn G H (ds.drop c) (vs.drop c) T2 ∧ ∀ b, T1.count b + T2.count b ≤ T.count b := by
  obtain ⟨T1, T2, e, r1, r2⟩ := r.split a
  obtain ⟨T3, T4, e', r3, r4⟩ := r2.split (c - a)
  rw [List.drop_drop, List.drop_drop, Nat.add_sub_cancel' h] at r4
  exact ⟨T1, T4, r1, r4, fun b => by rw [e, e', List.count_append, List.count_append]; omega⟩
theorem gd_setSl {i : Nat} {te : TE} {tl th : TO} {qa qb : QE} {f : GE} (h : GdG cn te f) (ha : GdO cn tl (qPo (some qa))) (hb : GdO cn th (qPo (some qb))) : GdS cn (tAsg te (gSlc (tVar i) tl th)) (sSetSl i qa qb f) := fun en G fr ps σ H D' c ps' R e k => by
  unfold sSetSl at e
  cases ef : f ps with
  | none => rw [ef] at e; cases e
  | some x =>
    rw [ef] at e
    obtain ⟨x1, x2⟩ := x
    simp only [Option.bind_some] at e
    cases eqa : qa x2 with
    | none => rw [eqa] at e; cases e
    | some y =>
      rw [eqa] at e
      simp only [Option.bind_some] at e
      cases eqb : qb x2 with
      | none => rw [eqb] at e; cases e
      | some z =>
        rw [eqb] at e
        simp only [Option.bind_some] at e
        cases e1 : rdM x2 i with
        | none => rw [e1] at e; cases e
        | some d1 =>
          rw [e1] at e
          simp only [Option.bind_some] at e
          split at e
          · rename_i ds y z o es
            split at e
            · rename_i hc
              cases e
              obtain ⟨hf, c0, c1, c2, c3⟩ := hc
              refine h en G fr ps σ H _ x2 _ R ef fun w H1 G1 R1 => ?_
              obtain ⟨v0, hv0, _, _⟩ := R1.lend e1
              refine ⟨v0, hv0, ?_⟩
              refine ha en G1 _ x2 σ H1 (some y) _ R1 (by simp only [qPo, eqa, Option.bind_some]) fun H2 G2 s2 g2 R2 => ?_
              refine hb en G2 _ x2 σ H2 (some z) _ R2 (by simp only [qPo, eqb, Option.bind_some]) fun H3 G3 s3 g3 R3 => ?_
              obtain ⟨G4, g4, R4⟩ := R3.fz
              obtain ⟨v, hv, R5, back⟩ := R4.lend e1
              rw [hv0] at hv
              cases hv
              obtain ⟨U1, r1⟩ := R5.view
              obtain ⟨a1, vs, T1, ev1, ha1, rl1, _⟩ := lst_own r1
              subst ev1
              obtain ⟨W, rw_⟩ := R5.drop.view
              simp only [D.frz, frzL_id _ hf] at rw_
              obtain ⟨b1, ws, ev2, gb, hb1, rl2, _⟩ := lstF_rep rw_
              subst ev2
              have nG : ¬ G4 a1 := R5.ownG fun U r => by
                obtain ⟨a2, vs2, T2, q1, q2, q3, q4⟩ := lst_own r
                cases q1
                rw [q4]; simp
              refine ⟨a1, vs, b1, ws, y, z, rfl, rfl, rfl, rfl, ha1, hb1, fun q => nG (q ▸ gb), c0, c1, by rw [← rl1.length]; exact c2, ?_, ?_⟩
              · rw [← rl1.length, ← rl2.length]
                exact Nat.le_trans (Nat.le_of_lt c3) cap_le
              · refine k _ _ G4 (RR.drop (back _ _ _ _ (R5.wrL (ds' := ds.take y.toNat ++ es ++ ds.drop z.toNat) ha1 fun T rl => ?_)))
                obtain ⟨t1, d1, q1, q2, q3⟩ := rl.cut3 y.toNat z.toNat (by omega)
                exact ⟨t1 ++ [] ++ d1, (q1.append rl2).append q2, fun b => by have := q3 b; simp only [List.append_nil, List.count_append]; exact this⟩
            · cases e
          · cases e
/-- x op= e of an int -/
@[simp] def sAug (i : Nat) (g : Int → Int → Int) (e : GE) : S := fun σ => (rd σ i).bind fun d => match d with
  | .int a => (e σ).bind fun x => match x.1 with
    | .int b => some (.nx, x.2.set i (.ow (.int (g a b))))
    | _ => none
  | _ => none
theorem gd_aug {i : Nat} {te : TE} {g : Int → Int → Int} {f : GE} (h : GdG cn te f) : GdS cn (tAug i te (ipI g)) (sAug i g f) := fun en G fr ps σ H D' c ps' R e k => by
  unfold sAug at e
  cases e0 : rd ps i with
  | none => rw [e0] at e; cases e
  | some d0 =>
    rw [e0] at e
    simp only [Option.bind_some] at e
    split at e
    · rename_i a
      cases ef : f ps with
      | none => rw [ef] at e; cases e
      | some x =>
        rw [ef] at e
        obtain ⟨x1, x2⟩ := x
        simp only [Option.bind_some] at e
        split at e
        · rename_i b
          cases e
          obtain ⟨v, U, hv, r⟩ := R.rd e0
          rw [rep_int r] at hv
          refine ⟨_, hv, h en G fr ps σ H _ x2 _ R ef fun w H1 G1 R1 => ?_⟩
          obtain ⟨W, rw_⟩ := R1.view
          refine ⟨a, b, rfl, rep_int rw_, ?_⟩
          exact k _ H1 G1 (RR.store' (R1.drop.push (v := .int _) rfl (atV_rep rfl)))
        · cases e
    · cases e
/-- x[k] op= e, ints in a list in a slot -/
@[simp] def sAugI (i : Nat) (q : QE) (g : Int → Int → Int) (e : GE) : S := fun σ => (q σ).bind fun y => (rdM σ i).bind fun d => match d, y with
  | .lst true ds, .int z => (atP ds z).bind fun old => match old with
    | .int a => (e σ).bind fun x => match x.1 with
      | .int b => (rdM x.2 i).bind fun d2 => match d2 with
        | .lst true ds2 => (ixP ds2.length z).bind fun j => some (.nx, wr x.2 i (.lst true (ds2.set j (.int (g a b)))))
        | _ => none
      | _ => none
    | _ => none
  | _, _ => none
theorem gd_augI {i : Nat} {tk te : TE} {g : Int → Int → Int} {q : QE} {f : GE} (hk : GdV cn tk q) (h : GdG cn te f) : GdS cn (tAugS (tVar i) tk te (rIxL cn.K) (ipI g) rSetL) (sAugI i q g f) := fun en G fr ps σ H D' c ps' R e k => by
  unfold sAugI at e
  cases eq : q ps with
  | none => rw [eq] at e; cases e
  | some y =>
    rw [eq] at e
    simp only [Option.bind_some] at e
    cases e0 : rdM ps i with
    | none => rw [e0] at e; cases e
    | some d0 =>
      rw [e0] at e
      simp only [Option.bind_some] at e
      split at e
      · rename_i ds z
        cases ea : atP ds z with
        | none => rw [ea] at e; cases e
        | some old =>
          rw [ea] at e
          simp only [Option.bind_some] at e
          split at e
          · rename_i a
            cases ef : f ps with
            | none => rw [ef] at e; cases e
            | some x =>
              rw [ef] at e
              obtain ⟨x1, x2⟩ := x
              simp only [Option.bind_some] at e
              split at e
              · rename_i b
                cases e1 : rdM x2 i with
                | none => rw [e1] at e; cases e
                | some d1 =>
                  rw [e1] at e
                  simp only [Option.bind_some] at e
                  split at e
                  · rename_i ds2
                    cases ej : ixP ds2.length z with
                    | none => rw [ej] at e; cases e
                    | some j =>
                      rw [ej] at e
                      cases e
                      obtain ⟨v0, hv0, R0, _⟩ := R.lend e0
                      refine ⟨v0, hv0, ?_⟩
                      refine hk en G fr ps σ H _ _ R eq fun u H1 G1 U1 s1 g1 R1 r1 => ?_
                      obtain ⟨v1, hv1, R2, _⟩ := R1.lend e0
                      rw [hv0] at hv1
                      cases hv1
                      obtain ⟨U2, r2⟩ := R2.view
                      obtain ⟨a1, vs, T1, ev1, ha1, rl1, _⟩ := lst_own r2
                      subst ev1
                      obtain ⟨w1, W1, hw1, rw1, _⟩ := rl1.at ea
                      rw [rep_int rw1] at hw1
                      refine ⟨a1, vs, z, _, rfl, rep_int r1, .inl (.inl ha1), hw1, ?_⟩
                      refine h en G1 fr ps σ H1 _ x2 _ R1 ef fun w H2 G2 R3 => ?_
                      obtain ⟨W2, rw2⟩ := R3.view
                      refine ⟨a, b, rfl, rep_int rw2, ?_⟩
                      obtain ⟨v3, hv3, R4, back⟩ := R3.drop.lend e1
                      rw [hv0] at hv3
                      cases hv3
                      obtain ⟨U4, r4⟩ := R4.view
                      obtain ⟨a2, vs2, T2, ev2, ha2, rl2, _⟩ := lst_own r4
                      cases ev2
                      refine ⟨a1, vs2, z, j, rfl, rep_int r1, ha2, by rw [← ixP_N, ← rl2.length]; exact ej, ?_⟩
                      exact k _ _ G2 (back _ _ _ _ (R4.wrL (ds' := ds2.set j (.int (g a b))) ha2 fun T rl => rl.setF (atV_rep rfl)))
                  · cases e
              · cases e
          · cases e
      · cases e
/-! ### isinstance -/
def tyD : D → Option String
  | .non => some "NoneType"
  | .bl _ => some "bool"
  | .int _ => some "int"
  | .str _ => some "str"
  | .tup _ => some "tuple"
  | .lst _ _ => some "list"
  | .dic _ _ _ _ => some "dict"
  | _ => none
def isiT (a b : String) : Option Bool := if b = "int" then some (a == "int" || a == "bool") else if b = "str" ∨ b = "list" ∨ b = "dict" ∨ b = "tuple" ∨ b = "bool" then some (a == b) else none
@[simp] def dIsi (T : String) (x : D) : Option D := (tyD x).bind fun a => (isiT a T).map .bl
theorem isi_kit {d : D} {a b : String} {r : Bool} (h : tyD d = some a) (hb : isiT a b = some r) : kitB a b = some r := by
  have ha : a = "NoneType" ∨ a = "bool" ∨ a = "int" ∨ a = "str" ∨ a = "tuple" ∨ a = "list" ∨ a = "dict" := by
    cases d <;> simp [tyD] at h <;> subst h <;> simp
  unfold isiT at hb
  split at hb
  · rename_i e
    subst e
    rcases ha with q | q | q | q | q | q | q <;> subst q <;> cases hb <;> decide +kernel
  · split at hb
    · rename_i e
      rcases e with e | e | e | e | e <;> subst e <;> rcases ha with q | q | q | q | q | q | q <;> subst q <;> cases hb <;> decide +kernel
    · cases hb
theorem rep_ty {d : D} {v : V} {U : List Addr} {a : String} (r : Rep cn G H d v U) (h : tyD d = some a) : TyX cn.K H v (.type a) := by
  cases d <;> simp only [tyD] at h <;> try (cases h; done)
  all_goals simp only [Option.some.injEq] at h; subst h
  · simp only [Rep] at r; rw [r.1]; exact .base .non
  · simp only [Rep] at r; rw [r.1]; exact .base (.bl _)
  · simp only [Rep] at r; rw [r.1]; exact .base (.int _)
  · simp only [Rep] at r; rw [r.1]; exact .base (.str _)
  · obtain ⟨b, ws, eb, gb, hb, rl⟩ := tup_rep r
    rw [eb]; exact .base (.tup hb)
  · simp only [Rep] at r
    obtain ⟨b, ws, T, eb, hb, rl, _⟩ := r
    rw [eb]; exact .base (.lst hb)
  · obtain ⟨b, vs, T, eb, hd, rl, _⟩ := dic_rep r
    rw [eb]
    unfold DicAt at hd
    split at hd
    · obtain ⟨kvs, h1, _⟩ := hd; exact .base (.dT h1)
    · obtain ⟨kvs, h1, _⟩ := hd; exact .base (.dK h1)
theorem gd_isi {T : String} {ta : TE} {fa : QE} (ha : GdV cn ta fa) : GdQ cn (tCB (rIsi cn.K) (tCons ta (tCons (tC (.ty T)) tNil))) (q1 (dIsi T) fa) := fun en G fr ps σ H d Q R e k => by
  unfold q1 at e
  cases ea : fa ps with
  | none => rw [ea] at e; cases e
  | some x =>
    rw [ea] at e
    simp only [Option.bind_some, dIsi] at e
    cases et : tyD x with
    | none => rw [et] at e; cases e
    | some a =>
      rw [et] at e
      simp only [Option.bind_some] at e
      cases ei : isiT a T with
      | none => rw [ei] at e; cases e
      | some b =>
        rw [ei] at e
        cases e
        refine ha en G fr ps σ H _ _ R ea fun v H1 G1 U s1 g1 R1 r1 => ?_
        refine ⟨v, .ty T, .type a, .type T, b, rfl, .ty T, rep_ty r1 et, kit_ty (isi_kit et ei), ?_⟩
        exact k _ H1 G1 s1 g1 (R1.push (v := .bl _) rfl (atV_rep rfl))
end
end Pv

/-! Snd11: leaves, shorter rules of the terms. -/
namespace Pv
open PySem L2
section
variable {cn : Cn}
theorem gd_var {i : Nat} : GdV cn (tVar i) (qVar i) := fun en G fr ps σ H d Q R e k => by
  obtain ⟨v, U, hv, r⟩ := R.rd e
  exact ⟨v, hv, k v H G U (Same.refl H) (fun _ z => z) R r⟩
theorem gd_c {d : D} {v : V} (h : atV d = some v) : GdQ cn (tC v) (qC d) := fun en G fr ps σ H d' Q R e k => by
  cases e
  exact k v H G (Same.refl H) (fun _ z => z) (R.push (atV_isF h) (atV_rep h))
theorem sl_op {en : Ent} {G : Addr → Prop} {fr : List (V × D)} {ps : PS} {σ : L2.St} {H : Hp} {x d : D} {v : V} {U : List Addr} {l h : Option Int} {Q : VK} (R3 : RR cn en G fr ps σ H) (r3 : Rep cn G H x v U) (e : dSl x l h = some d)
    (k : ∀ v H' G', Same H H' → (∀ a, G a → G' a) → RR cn en G' ((v, d) :: fr) ps σ H' → Q v H') : rSlA cn.K v l h H Q := by
  unfold dSl at e
  split at e
  · rename_i o xs
    split at e
    · rename_i hf
      cases e
      simp only [Rep] at r3
      obtain ⟨p, vs, T, e1, h1, l1, _⟩ := r3
      refine .inl ⟨p, vs, e1, .inl (.inl h1), fun q hq => ?_⟩
      obtain ⟨G4, g4, R4⟩ := R3.newLst false hq (cutP_V l1.length (l1.nilAll hf) l h)
      exact k _ _ G4 (fun b x e => by rw [upd_ne (ne_of_none e hq)]; exact e) g4 R4
    · cases e
  · rename_i xs
    split at e
    · rename_i hf
      cases e
      simp only [Rep] at r3
      obtain ⟨p, vs, e1, h1, l1, _⟩ := r3
      refine .inl ⟨p, vs, e1, h1 H fun _ _ => rfl, fun q hq => ?_⟩
      obtain ⟨G4, g4, R4⟩ := R3.newLst false hq (cutP_V l1.length l1 l h)
      exact k _ _ G4 (fun b x e => by rw [upd_ne (ne_of_none e hq)]; exact e) g4 R4
    · cases e
  · rename_i xs
    split at e
    · rename_i hf
      cases e
      simp only [Rep] at r3
      obtain ⟨p, vs, e1, gp, h1, l1⟩ := r3
      refine .inr ⟨p, vs, e1, .inl (.inl h1), fun z => ?_, fun q hq => ?_⟩
      · have hlt := hf.2
        have : (cutP xs l h).length = xs.length := by
          unfold cutP
          rw [slB_H (Nat.zero_le _), slB_H (Nat.le_refl _), l1.length, z.1, z.2, List.drop_zero, Nat.sub_zero, ← l1.length, List.take_length]
        omega
      · obtain ⟨G4, g4, R4⟩ := R3.newTup hq (cutP_V l1.length (l1.nilAll hf.1) l h)
        exact k _ _ G4 (fun b x e => by rw [upd_ne (ne_of_none e hq)]; exact e) g4 R4
    · cases e
  · cases e
/-- a slice of what changes the state -/
@[simp] def gSl (a : GE) (lo hi : Option QE) : GE := fun σ => (a σ).bind fun x => (qPo lo x.2).bind fun l => (qPo hi x.2).bind fun h => (dSl x.1 l h).map (·, x.2)
theorem gd_slG {te : TE} {tl th : TO} {a : GE} {lo hi : Option QE} (ha : GdG cn te a) (hl : GdO cn tl (qPo lo)) (hh : GdO cn th (qPo hi)) : GdG cn (tSl (rSlA cn.K) te tl th) (gSl a lo hi) := fun en G fr ps σ H d ps' Q R e k => by
  unfold gSl at e
  cases ea : a ps with
  | none => rw [ea] at e; cases e
  | some x =>
    rw [ea] at e
    obtain ⟨x1, x2⟩ := x
    simp only [Option.bind_some] at e
    cases e1 : qPo lo x2 with
    | none => rw [e1] at e; cases e
    | some l =>
      rw [e1] at e
      simp only [Option.bind_some] at e
      cases e2 : qPo hi x2 with
      | none => rw [e2] at e; cases e
      | some h =>
        rw [e2] at e
        simp only [Option.bind_some] at e
        cases e3 : dSl x1 l h with
        | none => rw [e3] at e; cases e
        | some y =>
          rw [e3] at e
          cases e
          refine ha en G fr ps σ H _ _ _ R ea fun v H1 G1 R1 => ?_
          refine hl en G1 _ _ σ H1 l _ R1 e1 fun H2 G2 s2 g2 R2 => ?_
          refine hh en G2 _ _ σ H2 h _ R2 e2 fun H3 G3 s3 g3 R3 => ?_
          obtain ⟨U, r⟩ := R3.view
          exact sl_op R3 r e3 fun w H' G' s4 g4 R4 => k w H' G' (RR.drop (R4.perm (List.Perm.swap _ _ _)))
theorem gd_dnewK : GdQ cn tDNewK (qC (.dic true false [] [])) := gd_dnew false fun σ H Q h => h
theorem gd_dnewT : GdQ cn tDNewT (qC (.dic true true [] [])) := gd_dnew true fun σ H Q h => h
/-- turns of a while, at most -/
def fuel : Nat := 1000000
theorem SpQ.len {m n : Nat} {body : S} {vs : List V} {H : Hp} {Q : VK} {E : XK} (h : SpQ cn (runQ m n body) vs H Q E) : vs.length = m := by
  obtain ⟨G, ds, d, dG, hw, e, k⟩ := h
  unfold runQ at e
  split at e
  · rename_i hm
    rw [← hw.length]; exact hm
  · cases e
theorem SpG.len {ms : List Bool} {n : Nat} {body : S} {vs : List V} {H : Hp} {Q : VK} {E : XK} (h : SpG cn ms (runG ms n body) vs H Q E) : vs.length = ms.length := by
  obtain ⟨G, ds, S, d, os, dG, hr, hw, hc, ho, e, k⟩ := h
  exact hw.len.1.symm
/-- the law's own promise -/
def spLaw (K : PySem.W.Frag) : Sp := fun vs H Q _ => ∃ (a : Addr) (ns : List Int), vs = [.ref a] ∧ SqL K H a (ns.map V.int) ∧ ns.length ≤ 63 ∧ ∀ H', Q (.bl true) H'
theorem repL_ints {G : Addr → Prop} {H : Hp} : ∀ {ns : List Int}, RepL cn G H (ns.map D.int) (ns.map V.int) []
  | [] => by simp only [List.map_nil, RepL]; trivial
  | n :: ns => by simp only [List.map_cons, RepL]; exact ⟨.int n, _, [], [], rfl, rfl, atV_rep rfl, repL_ints⟩
theorem spLaw_q {f : List D → Option D} (hf : ∀ ns : List Int, ns.length ≤ 63 → f [.xl (ns.map .int)] = some (.bl true)) {vs : List V} {H : Hp} {Q : VK} {E : XK} (h : spLaw cn.K vs H Q E) : SpQ cn f vs H Q E := by
  obtain ⟨a, ns, rfl, hS, hl, q⟩ := h
  refine ⟨fun b => H b ≠ none, [.xl (ns.map .int)], .bl true, fun _ z => z, ?_, hf ns hl, fun v H' G' U _ _ _ _ r _ _ => ?_⟩
  · simp only [RepW, Rep]
    refine ⟨.ref a, [], [], rfl, ⟨a, ns.map V.int, rfl, fun H' ag => ?_, repL_ints, rfl⟩, rfl⟩
    have s : Same H H' := fun b o e => by rw [ag b (show H b ≠ none by rw [e]; exact fun z => nomatch z)]; exact e
    exact s.seq hS
  · rw [rep_bl r]
    exact q H'
end
section
variable {X : Cx}
theorem pnm (i : Nat) (nd : X.N.Nodup) {x : Str} {pos : Pos} (hi : X.N[i]? = some x := by rfl) (hx : Loc X.env.scope x := by first | exact Or.inl rfl | exact Or.inr rfl)
    (hf : X.fn x = true ∨ X.env.scope.names.lookup x = some .local := by first | exact .inl rfl | exact .inr rfl) : PG X (.Name x pos) (gName i) := pg_name nd hi hx hf
theorem pst (i : Nat) (nd : X.N.Nodup) {x : Str} {e : Expr} {te : TE} {pos' pos : Pos} (he : PE X e te) (hi : X.N[i]? = some x := by rfl) (hx : Loc X.env.scope x := by first | exact Or.inl rfl | exact Or.inr rfl)
    (hs : swapsWith e (some (.Name x pos')) pos.line X.env = pure false := by rfl) (hf : X.fn x = true ∨ X.env.scope.names.lookup x = some .local := by first | exact .inl rfl | exact .inr rfl) :
    L2.PS X (.Assign [.Name x pos'] e pos) (tAsg te (gName i)) := ps_set nd hi hx he hs hf
/-! the same rules, the frame of the text named: within comprehensions -/
theorem ixK (K : PySem.W.Frag) (h : X.K = K := by rfl) : IxR X (rIx K) := h ▸ ix_seq
theorem slK (K : PySem.W.Frag) (h : X.K = K := by rfl) : SlR X (rSlA K) := h ▸ sl_any
theorem addK (K : PySem.W.Frag) (h : X.K = K := by rfl) : OpR X (binaryOp .Add) (rAddA K) := h ▸ op_addA
theorem eqK (K : PySem.W.Frag) (hu : X.A.units + 64 < cLine) (h : X.K = K := by rfl) : OpR X (compareOp .Eq) (rEqP K) := h ▸ op_eqP hu
theorem neK (K : PySem.W.Frag) (hu : X.A.units + 64 < cLine) (h : X.K = K := by rfl) : OpR X (compareOp .NotEq) (rNeP K) := h ▸ op_neP hu
theorem lenK (K : PySem.W.Frag) (h : X.K = K := by rfl) : CallR X (.builtin "len") (rLenA K) := h ▸ call_lenA
theorem sumK (K : PySem.W.Frag) (hc : X.calm = true := by rfl) (h : X.K = K := by rfl) : CallR X (.builtin "sum") (rSum K) := h ▸ cr_sum hc
theorem listK (K : PySem.W.Frag) (h : X.K = K := by rfl) : CallR X (.type "list") (fun xs H Q => ∃ p ys, xs = [.ref p] ∧ (SqL K H p ys ∨ SqT K H p ys) ∧ ∀ l, H l = none → Q (.ref l) (upd H l (.lst ys))) := h ▸ call_list_of
theorem isiK (K : PySem.W.Frag) (h : X.K = K := by rfl) : CallR X (.builtin "isinstance") (rIsi K) := h ▸ call_isi
theorem piL (K : PySem.W.Frag) {tg l : Expr} {tl : TE} (hl : PE X l tl) (h : X.K = K := by rfl) : PI X tg l (iList K tl) := h ▸ pi_list hl
theorem piT (K : PySem.W.Frag) {tg l : Expr} {tl : TE} (hl : PE X l tl) (h : X.K = K := by rfl) : PI X tg l (iTup K tl) := h ▸ pi_tup hl
theorem fldK (K : PySem.W.Frag) {e : Expr} {ta : TE} {f : Str} {pos : Pos} (he : PE X e ta) (hb : attributeBase e f X.env (eval e X.env) = eval e X.env := by rfl) (h : X.K = K := by rfl) : PE X (.Attribute e f pos) (tFld K ta f) := h ▸ pe_fld he hb
theorem ptup (K : PySem.W.Frag) (n : Nat) {es : List Expr} {k : Nat} {t : TGs} {pos : Pos} (h : PGs X es t) (hc : X.calm = true := by rfl) (hn : (assignEach es X.env).length = n := by rfl) (hst : (assignEach es X.env).findIdx? (·.1) = none := by rfl) (hk : X.K = K := by rfl) :
    PG X (.Tuple es k pos) (L2.gTup K n t) := hk ▸ pg_tup hc h hn hst
end
end Pv

namespace L2
open PySem PySem.Spec PyProof.Rows
theorem wp_forIn {prog : Program} {w : World} {A : Around} {E : Value → Shared → Prop} {α β : Type} (P : Nat → β → Shared → Prop) {body : α → β → Sem (ForInStep β)} : ∀ (l : List α) (k : Nat) (b : β) (s : Shared) {Q : β → Shared → Prop},
    (∀ j a b s, l[j]? = some a → P (k + j) b s → wpAny (model prog w) A (body a b) (fun r s' => ∃ b', r = .yield b' ∧ P (k + j + 1) b' s') E s) → P k b s → (∀ b' s', P (k + l.length) b' s' → Q b' s') → wpAny (model prog w) A (forIn l b body) Q E s
  | [], k, b, s, Q, h, h0, hQ => by
    rw [List.forIn_nil]
    exact wpAny_pure (hQ b s h0)
  | a :: l, k, b, s, Q, h, h0, hQ => by
    rw [List.forIn_cons]
    refine wpAny_bind (wpAny_mono (h 0 a b s rfl h0) (fun r s' ⟨b', e, p⟩ => ?_) fun e s' he => he)
    subst e
    refine wp_forIn P l (k + 1) b' s' (fun j a b s hj hp => ?_) p (fun b' s' hp => hQ b' s' (by rw [List.length_cons, show k + (l.length + 1) = k + 1 + l.length by omega]; exact hp))
    have := h (j + 1) a b s (by simpa using hj) (by rw [show k + (j + 1) = k + 1 + j by omega]; exact hp)
    rw [show k + 1 + j + 1 = k + (j + 1) + 1 by omega]
    exact this
abbrev IsTupL (h : Heap) (T : Addr) (vs : List Value) : Prop := h.get? T = some { cls := .type "tuple", data := .seq vs.toArray }
/-- the iterators of a zip over the lists ls (contents xss), made at N, N + 1, ..: those before k one further -/
structure ZIts (h : Heap) (N n : Nat) (ls : List Addr) (xss : List (List Value)) (i k : Nat) : Prop where
  ti : IsTupL h (N + n) ((List.range n).map fun j => Value.ref (N + j))
  it : ∀ (j : Nat) (l : Addr), ls[j]? = some l → h.IsListIter (N + j) l (if j < k then i + 1 else i)
  li : ∀ (j : Nat) (l : Addr) (xs : List Value), ls[j]? = some l → xss[j]? = some xs → h.IsList l xs.toArray
  lt : ∀ (j : Nat) (l : Addr), ls[j]? = some l → @LT.lt Nat instLTNat l N
  ln : ls.length = n
  lx : xss.length = n
theorem raw_inj {a b : Nat} (h : rawInt (a : Int) = rawInt (b : Int)) : a = b := by
  simp only [rawInt, Value.int.injEq] at h
  omega
theorem ad_ne {a b : Nat} (h : a < b ∨ b < a) : a ≠ b := by omega
theorem zidx_at {l : List Value} {j : Nat} {a : Value × Nat} (h : l.zipIdx[j]? = some a) : l[j]? = some a.1 ∧ a.2 = j := by
  rw [List.getElem?_zipIdx] at h
  cases e : l[j]? with
  | none => rw [e] at h; cases h
  | some v => rw [e] at h; cases h; exact ⟨rfl, by simp⟩
theorem zits_at {N n j : Nat} {v : Value} (h : ((List.range n).map fun j => Value.ref (N + j))[j]? = some v) : v = .ref (N + j) ∧ j < n := by
  rw [List.getElem?_map] at h
  cases e : (List.range n)[j]? with
  | none => rw [e] at h; cases h
  | some k =>
    rw [e] at h
    obtain ⟨h1, h2⟩ := List.getElem?_eq_some_iff.mp e
    rw [List.length_range] at h1
    rw [List.getElem_range] at h2
    cases h
    exact ⟨by rw [h2], h1⟩
section
variable {prog : Program} {w : World} {A : Around} {E : Value → Shared → Prop} {s : Shared}
/-- an iterator has gone one further -/
theorem ZIts.step {h h' : Heap} {N n : Nat} {ls : List Addr} {xss : List (List Value)} {i k : Nat} {l : Addr} (x : ZIts h N n ls xss i k) (hl : ls[k]? = some l) (h1 : h'.IsListIter (N + k) l (i + 1)) (e : Heap.ExtBut (N + k) h h') : ZIts h' N n ls xss i (k + 1) := by
  have hk : k < n := by rw [← x.ln]; exact (List.getElem?_eq_some_iff.mp hl).1
  refine ⟨e _ _ (ad_ne (by omega)) x.ti, fun j m hj => ?_, fun j m xs hj hx => (x.li j m xs hj hx).extBut e (ad_ne (by have := x.lt j m hj; omega)), x.lt, x.ln, x.lx⟩
  by_cases hjk : j = k
  · subst hjk
    rw [hl] at hj
    cases hj
    rw [if_pos (by omega)]
    exact h1
  · have := x.it j m hj
    have e1 : (if j < k + 1 then i + 1 else i) = (if j < k then i + 1 else i) := by
      by_cases q : j < k
      · rw [if_pos q, if_pos (by omega)]
      · rw [if_neg q, if_neg (by omega)]
    rw [e1]
    exact this.extBut e (ad_ne (by omega))
/-- what lies apart has changed -/
theorem ZIts.off {h h' : Heap} {N n : Nat} {ls : List Addr} {xss : List (List Value)} {i k : Nat} {b : Addr} (x : ZIts h N n ls xss i k) (e : Heap.ExtBut b h h') (hb : N + n < b) : ZIts h' N n ls xss i k := by
  refine ⟨e _ _ (ad_ne (by omega)) x.ti, fun j m hj => ?_, fun j m xs hj hx => (x.li j m xs hj hx).extBut e (ad_ne (by have := x.lt j m hj; omega)), x.lt, x.ln, x.lx⟩
  have hj2 : j < n := by rw [← x.ln]; exact (List.getElem?_eq_some_iff.mp hj).1
  exact (x.it j m hj).extBut e (ad_ne (by omega))
theorem ZIts.keep {h h' : Heap} {N n : Nat} {ls : List Addr} {xss : List (List Value)} {i k : Nat} (x : ZIts h N n ls xss i k) (e : ∀ b o, b ≤ N + n → h.get? b = some o → h'.get? b = some o) : ZIts h' N n ls xss i k := by
  refine ⟨e _ _ (by omega) x.ti, fun j m hj => ?_, fun j m xs hj hx => (x.li j m xs hj hx).at fun o q => e _ o (Nat.le_of_lt (by have := x.lt j m hj; omega)) q, x.lt, x.ln, x.lx⟩
  have hj2 : j < n := by rw [← x.ln]; exact (List.getElem?_eq_some_iff.mp hj).1
  exact (x.it j m hj).at fun o q => e _ o (by omega) q
theorem ZIts.next {h : Heap} {N n : Nat} {ls : List Addr} {xss : List (List Value)} {i : Nat} (x : ZIts h N n ls xss i n) : ZIts h N n ls xss (i + 1) 0 := by
  refine ⟨x.ti, fun j m hj => ?_, x.li, x.lt, x.ln, x.lx⟩
  have hj2 : j < n := by rw [← x.ln]; exact (List.getElem?_eq_some_iff.mp hj).1
  have := x.it j m hj
  rw [if_pos hj2] at this
  rw [if_neg (by omega)]
  exact this
theorem tn_ne {N n : Nat} (hn : 0 < n) : (((List.range n).map fun j => Value.ref (N + j)).toArray).isEmpty = false := by
  obtain ⟨m, rfl⟩ : ∃ m, n = m + 1 := ⟨n - 1, by omega⟩
  simp [List.range_succ_eq_map]
theorem take_set {α : Type} (row old : List α) (j : Nat) (x : α) (hx : row[j]? = some x) (hol : old.length = row.length) : (row.take j ++ old.drop j).set j x = row.take (j + 1) ++ old.drop (j + 1) := by
  have hj := (List.getElem?_eq_some_iff.mp hx).1
  have e1 : (row.take j).length = j := by rw [List.length_take]; omega
  have hj2 : j < old.length := by omega
  rw [List.drop_eq_getElem_cons hj2, List.set_append_right _ _ (by omega), e1, Nat.sub_self, List.set_cons_zero, List.take_add_one, hx]
  simp
theorem zl_free {N n i : Nat} {ls : List Addr} {xss : List (List Value)} {old : List Value} {Q : Value → Shared → Prop} (hn : 0 < n) (hnz : n ≤ 100)
    (hz : IsZip s.heap (N + n + 2) (N + n) (N + n + 1) .none) (hI : ZIts s.heap N n ls xss i 0) (hTO : IsTupL s.heap (N + n + 1) old) (hol : old.length = n) (row : List Value) (hr : row.length = n) (hrow : ∀ (j : Nat) (xs : List Value), xss[j]? = some xs → xs[i]? = row[j]?)
    (hQ : ∀ h', IsZip h' (N + n + 2) (N + n) (N + n + 1) (rawInt s.heap.objs.size) → ZIts h' N n ls xss (i + 1) 0 → IsTupL h' s.heap.objs.size row → h'.objs.size = s.heap.objs.size + 1 → (∀ c o, (c < N ∨ N + n + 2 < c) → s.heap.get? c = some o → h'.get? c = some o) → Q (.ref s.heap.objs.size) { s with heap := h' }) :
    wpAny (model prog w) A (Builtin.«zip.__next__» ⟨[.ref (N + n + 2)], []⟩) (fun fin s' => ∃ v, fin = .done (.ret v) ∧ Q v s') E s := by
  have hTI := hI.ti
  show wpAny _ _ (field (.ref (N + n + 2)) 2 >>= _) _ _ _
  refine wpAny_bind (wpAny_field hz rfl (x := .bool false) rfl ?_)
  show wpAny _ _ (field (.ref (N + n + 2)) 3 >>= _) _ _ _
  refine wpAny_bind (wpAny_field hz rfl (x := .ref (N + n)) rfl ?_)
  refine wpAny_bind (wpAny_seqItems hTI rfl ?_)
  have hne := tn_ne (N := N) hn
  simp only [hne]
  show wpAny _ _ (Builtin.SmallTypes.ownedTupleIsFree (.ref (N + n + 2)) >>= _) _ _ _
  refine wpAny_bind ?_
  unfold Builtin.SmallTypes.ownedTupleIsFree
  refine wpAny_bind (wpAny_field hz rfl (x := .none) rfl (wpAny_pure ?_))
  simp only [if_true]
  refine wpAny_bind (wpAny_rule ?_)
  refine wpAny_bind (wpAny_field hz rfl (x := .ref (N + n + 1)) rfl ?_)
  refine wpAny_bind (wpAny_setField_rec hz (by simp) fun h₁ hz₁ hs₁ => ?_)
  replace hz₁ : IsZip h₁ (N + n + 2) (N + n) (N + n + 1) .ellipsis := hz₁
  refine wpAny_bind (wp_forIn (fun k b s' => b = (none, ()) ∧ ∃ h, s' = { s with heap := h } ∧ IsZip h (N + n + 2) (N + n) (N + n + 1) .ellipsis ∧ ZIts h N n ls xss i k ∧ IsTupL h (N + n + 1) (row.take k ++ old.drop k) ∧
    h.objs.size = s.heap.objs.size ∧ ∀ c o, (c < N ∨ N + n + 2 < c) → s.heap.get? c = some o → h.get? c = some o) _ 0 (none, ()) { s with heap := h₁ } ?_ ?_ ?_)
  · rintro j ⟨it, k⟩ b s' hj ⟨rfl, h, rfl, z, I, T, hsz, kp⟩
    rw [Nat.zero_add] at I T ⊢
    obtain ⟨hj1, hj2⟩ := zidx_at hj
    obtain ⟨hj3, hj4⟩ := zits_at hj1
    simp only at hj2 hj3
    subst hj2 hj3
    obtain ⟨l, hl⟩ : ∃ l, ls[k]? = some l := ⟨_, List.getElem?_eq_getElem (by rw [I.ln]; exact hj4)⟩
    obtain ⟨xs, hxs⟩ : ∃ xs, xss[k]? = some xs := ⟨_, List.getElem?_eq_getElem (by rw [I.lx]; exact hj4)⟩
    obtain ⟨x, hx⟩ : ∃ x, row[k]? = some x := ⟨_, List.getElem?_eq_getElem (by rw [hr]; exact hj4)⟩
    have hit := I.it k l hl
    rw [if_neg (Nat.lt_irrefl k)] at hit
    refine wpAny_bind (wpAny_onRaise ?_)
    show wpAny _ _ (Builtin.SmallTypes.nextOf (.ref (N + k)) >>= _) _ _ _
    refine wpAny_bind (wpAny_nextOf_list_item hit (I.li k l xs hl hxs) (x := x) (by rw [← hx, ← hrow k xs hxs]; simp) fun h₂ h1₂ hs₂ => wpAny_pure ?_)
    have T2 : IsTupL h₂ (N + n + 1) (row.take k ++ old.drop k) := hs₂.extBut _ _ (ad_ne (by omega)) T
    have I2 := I.step hl h1₂ hs₂.extBut
    refine wpAny_bind (wpAny_seqItems T2 rfl ?_)
    refine wpAny_bind (wpAny_updateSeq T2 rfl ?_ ?_ ?_)
    · refine wpAny_bind (wpAny_letGo (wpAny_pure ⟨_, rfl, rfl, _, rfl, ?_, ?_, ?_, ?_, ?_⟩))
      · exact (Heap.get?_update_other _ _ (ad_ne (by omega))).trans (hs₂.extBut _ _ (ad_ne (by omega)) z)
      · exact I2.off (b := N + n + 1) (fun c o hc q => (Heap.get?_update_other _ _ (Ne.symm hc)).trans q) (by omega)
      · have := Heap.get?_update_self (Obj.mapSeq (·.setIfInBounds k x)) T2 rfl
        rw [IsTupL, this, ← take_set row old k x hx (by omega)]
        simp [Obj.mapSeq]
      · rw [← hsz, ← hs₂.1]; exact (Heap.SameBut.update ..).1
      · intro c o hc q
        exact (Heap.get?_update_other _ _ (ad_ne (by omega))).trans (hs₂.extBut _ _ (ad_ne (by omega)) (kp c o hc q))
    · rw [sizeLine_eq]; simp; omega
    · rw [sizeLine_eq]; simp; omega
  · refine ⟨rfl, h₁, rfl, hz₁, hI.off (b := N + n + 2) hs₁.extBut (by omega), ?_, hs₁.1, fun c o hc q => hs₁.extBut _ _ (ad_ne (by omega)) q⟩
    simpa using hs₁.extBut _ _ (ad_ne (by omega)) hTO
  · rintro b s' ⟨rfl, h, rfl, z, I, T, hsz, kp⟩
    have hlen : 0 + ((List.map (fun j => Value.ref (N + j)) (List.range n)).toArray.toList.zipIdx).length = n := by simp
    rw [hlen] at I T
    rw [List.take_of_length_le (by omega), List.drop_of_length_le (by omega), List.append_nil] at T
    refine wpAny_bind (wpAny_seqItems T rfl ?_)
    refine wpAny_bind (wpAny_newTuple ?_ (by rw [sizeLine_eq]; simp; omega))
    show wpAny _ _ (Builtin.SmallTypes.ownedTupleHandOut (.ref (N + n + 2)) (.ref h.objs.size) >>= _) _ _ _
    refine wpAny_bind ?_
    unfold Builtin.SmallTypes.ownedTupleHandOut
    have hzlt : N + n + 2 < h.objs.size := Heap.lt_size z
    have hz₆ : IsZip (h.push { cls := .type "tuple", data := .seq row.toArray }) (N + n + 2) (N + n) (N + n + 1) .ellipsis := Heap.get?_push_of_some _ z
    have et : (row.toArray.toList).toArray = row.toArray := by simp
    rw [et]
    refine wpAny_bind (wpAny_setField_rec hz₆ (by simp) fun h₇ hz₇ hs₇ => ?_)
    replace hz₇ : IsZip h₇ (N + n + 2) (N + n) (N + n + 1) (rawInt h.objs.size) := hz₇
    refine wpAny_setField_rec hz₇ (by simp) fun h₈ hz₈ hs₈ => ?_
    replace hz₈ : IsZip h₈ (N + n + 2) (N + n) (N + n + 1) (rawInt h.objs.size) := hz₈
    have up : ∀ c o, c ≠ N + n + 2 → h.get? c = some o → h₈.get? c = some o := fun c o c1 e => hs₈.extBut _ _ c1 (hs₇.extBut _ _ c1 (Heap.get?_push_of_some _ e))
    have hT₈ : IsTupL h₈ h.objs.size row := hs₈.extBut _ _ (Nat.ne_of_gt hzlt) (hs₇.extBut _ _ (Nat.ne_of_gt hzlt) (Heap.get?_push_size _ rfl))
    have hz8 : h₈.objs.size = h.objs.size + 1 := by rw [hs₈.1, hs₇.1, Heap.size_push]
    rw [hsz] at hz₈ hT₈ hz8
    refine wpAny_pure ⟨_, rfl, ?_⟩
    show Q (.ref h.objs.size) _
    rw [hsz]
    exact hQ h₈ hz₈ (I.next.keep fun b o hb q => up b o (ad_ne (by omega)) q) hT₈ hz8 fun c o hc q => up c o (ad_ne (by omega)) (kp c o hc q)

/-- the first list that ends: it stops the zip -/
theorem zl_free_end {N n i m : Nat} {ls : List Addr} {xss : List (List Value)} {old : List Value} {Q : Fin → Shared → Prop} (hh : A.handled = none) (hn : 0 < n) (hnz : n ≤ 100) (hm : m < n)
    (hz : IsZip s.heap (N + n + 2) (N + n) (N + n + 1) .none) (hI : ZIts s.heap N n ls xss i 0) (hTO : ∃ old : List Value, IsTupL s.heap (N + n + 1) old ∧ old.length = n) (hrow : ∀ (j : Nat) (xs : List Value), j < m → xss[j]? = some xs → i < xs.length) (hend : ∀ (xs : List Value), xss[m]? = some xs → xs.length ≤ i)
    (hE : ∀ h' e, (∀ c o, (c < N ∨ N + n + 2 < c) → s.heap.get? c = some o → h'.get? c = some o) → (∃ o, h'.get? e = some o ∧ o.cls = .type "StopIteration") → E (.ref e) { s with heap := h' }) :
    wpAny (model prog w) A (Builtin.«zip.__next__» ⟨[.ref (N + n + 2)], []⟩) Q E s := by
  have hTI := hI.ti
  show wpAny _ _ (field (.ref (N + n + 2)) 2 >>= _) _ _ _
  refine wpAny_bind (wpAny_field hz rfl (x := .bool false) rfl ?_)
  show wpAny _ _ (field (.ref (N + n + 2)) 3 >>= _) _ _ _
  refine wpAny_bind (wpAny_field hz rfl (x := .ref (N + n)) rfl ?_)
  refine wpAny_bind (wpAny_seqItems hTI rfl ?_)
  have hne := tn_ne (N := N) hn
  simp only [hne]
  show wpAny _ _ (Builtin.SmallTypes.ownedTupleIsFree (.ref (N + n + 2)) >>= _) _ _ _
  refine wpAny_bind ?_
  unfold Builtin.SmallTypes.ownedTupleIsFree
  refine wpAny_bind (wpAny_field hz rfl (x := .none) rfl (wpAny_pure ?_))
  simp only [if_true]
  refine wpAny_bind (wpAny_rule ?_)
  refine wpAny_bind (wpAny_field hz rfl (x := .ref (N + n + 1)) rfl ?_)
  refine wpAny_bind (wpAny_setField_rec hz (by simp) fun h₁ hz₁ hs₁ => ?_)
  replace hz₁ : IsZip h₁ (N + n + 2) (N + n) (N + n + 1) .ellipsis := hz₁
  refine wpAny_bind (wp_forIn (fun k b s' => k ≤ m ∧ b = (none, ()) ∧ ∃ h, s' = { s with heap := h } ∧ IsZip h (N + n + 2) (N + n) (N + n + 1) .ellipsis ∧ ZIts h N n ls xss i k ∧ (∃ old : List Value, IsTupL h (N + n + 1) old ∧ old.length = n) ∧
    ∀ c o, (c < N ∨ N + n + 2 < c) → s.heap.get? c = some o → h.get? c = some o) _ 0 (none, ()) { s with heap := h₁ } ?_ ?_ ?_)
  · rintro j ⟨it, k⟩ b s' hj ⟨hkm, rfl, h, rfl, z, I, ⟨old, T, hol⟩, kp⟩
    rw [Nat.zero_add] at I hkm ⊢
    obtain ⟨hj1, hj2⟩ := zidx_at hj
    obtain ⟨hj3, hj4⟩ := zits_at hj1
    simp only at hj2 hj3
    subst hj2 hj3
    obtain ⟨l, hl⟩ : ∃ l, ls[k]? = some l := ⟨_, List.getElem?_eq_getElem (by rw [I.ln]; exact hj4)⟩
    obtain ⟨xs, hxs⟩ : ∃ xs, xss[k]? = some xs := ⟨_, List.getElem?_eq_getElem (by rw [I.lx]; exact hj4)⟩
    have hit := I.it k l hl
    rw [if_neg (Nat.lt_irrefl k)] at hit
    refine wpAny_bind (wpAny_onRaise ?_)
    show wpAny _ _ (Builtin.SmallTypes.nextOf (.ref (N + k)) >>= _) _ _ _
    by_cases hk : k < m
    · have hlt := hrow k xs hk hxs
      refine wpAny_bind (wpAny_nextOf_list_item hit (I.li k l xs hl hxs) (x := xs[i]) (by simp [hlt]) fun h₂ h1₂ hs₂ => wpAny_pure ?_)
      have T2 : IsTupL h₂ (N + n + 1) old := hs₂.extBut _ _ (ad_ne (by omega)) T
      have I2 := I.step hl h1₂ hs₂.extBut
      refine wpAny_bind (wpAny_seqItems T2 rfl ?_)
      refine wpAny_bind (wpAny_updateSeq T2 rfl ?_ ?_ ?_)
      · refine wpAny_bind (wpAny_letGo (wpAny_pure ⟨_, rfl, hk, rfl, _, rfl, ?_, ?_, ⟨old.set k xs[i], ?_, by rw [List.length_set]; exact hol⟩, ?_⟩))
        · exact (Heap.get?_update_other _ _ (ad_ne (by omega))).trans (hs₂.extBut _ _ (ad_ne (by omega)) z)
        · exact I2.off (b := N + n + 1) (fun c o hc q => (Heap.get?_update_other _ _ (Ne.symm hc)).trans q) (by omega)
        · have := Heap.get?_update_self (Obj.mapSeq (·.setIfInBounds k xs[i])) T2 rfl
          rw [IsTupL, this]
          simp [Obj.mapSeq]
        · intro c o hc q
          exact (Heap.get?_update_other _ _ (ad_ne (by omega))).trans (hs₂.extBut _ _ (ad_ne (by omega)) (kp c o hc q))
      · rw [sizeLine_eq]; simp; omega
      · rw [sizeLine_eq]; simp; omega
    · have hk2 : k = m := by omega
      subst hk2
      have hle := hend xs hxs
      refine wpAny_bind (wpAny_nextOf_list_end hh hit (I.li k l xs hl hxs) (by simp; exact hle) fun h₂ e hs₂ he => ?_)
      obtain ⟨oe, hoe, hce⟩ := he
      have hz₂ : IsZip h₂ (N + n + 2) (N + n) (N + n + 1) .ellipsis := hs₂ _ _ (ad_ne (by omega)) z
      have hez : e ≠ N + n + 2 := fun x => by subst x; rw [hz₂] at hoe; cases hoe; simp at hce
      refine wpAny_setField_rec hz₂ (by simp) fun h₃ _ hs₃ => hE h₃ e (fun c o hc x => hs₃.extBut _ _ (ad_ne (by omega)) (hs₂ _ _ (ad_ne (by omega)) (kp c o hc x))) ⟨oe, hs₃.extBut _ _ hez hoe, hce⟩
  · obtain ⟨old, hTO, hol⟩ := hTO
    exact ⟨Nat.zero_le _, rfl, h₁, rfl, hz₁, hI.off (b := N + n + 2) hs₁.extBut (by omega), ⟨old, hs₁.extBut _ _ (ad_ne (by omega)) hTO, hol⟩, fun c o hc q => hs₁.extBut _ _ (ad_ne (by omega)) q⟩
  · rintro b s' ⟨hle, _⟩
    exfalso
    have hlen : 0 + ((List.map (fun j => Value.ref (N + j)) (List.range n)).toArray.toList.zipIdx).length = n := by simp
    rw [hlen] at hle
    omega
/-- a tuple T is still out -/
theorem zl_held {N n i T : Nat} {f : Bool} {oT : Obj} {ls : List Addr} {xss : List (List Value)} {Q : Value → Shared → Prop} (hn : 0 < n) (hnz : n ≤ 100)
    (hz : IsZipHeld s.heap (N + n + 2) (N + n) (N + n + 1) T f) (hT : s.heap.get? T = some oT) (hI : ZIts s.heap N n ls xss i 0) (row : List Value) (hr : row.length = n) (hrow : ∀ (j : Nat) (xs : List Value), xss[j]? = some xs → xs[i]? = row[j]?)
    (hQ : ∀ h', IsZipHeld h' (N + n + 2) (N + n) (N + n + 1) T true → ZIts h' N n ls xss (i + 1) 0 → IsTupL h' s.heap.objs.size row → h'.objs.size = s.heap.objs.size + 1 → (∀ c o, (c < N ∨ N + n + 2 < c) → s.heap.get? c = some o → h'.get? c = some o) → Q (.ref s.heap.objs.size) { s with heap := h' }) :
    wpAny (model prog w) A (Builtin.«zip.__next__» ⟨[.ref (N + n + 2)], []⟩) (fun fin s' => ∃ v, fin = .done (.ret v) ∧ Q v s') E s := by
  have hTI := hI.ti
  show wpAny _ _ (field (.ref (N + n + 2)) 2 >>= _) _ _ _
  refine wpAny_bind (wpAny_field hz rfl (x := .bool false) rfl ?_)
  show wpAny _ _ (field (.ref (N + n + 2)) 3 >>= _) _ _ _
  refine wpAny_bind (wpAny_field hz rfl (x := .ref (N + n)) rfl ?_)
  refine wpAny_bind (wpAny_seqItems hTI rfl ?_)
  have hne := tn_ne (N := N) hn
  simp only [hne]
  show wpAny _ _ (Builtin.SmallTypes.ownedTupleIsFree (.ref (N + n + 2)) >>= _) _ _ _
  refine wpAny_bind (wpAny_tupleHeld_zip hz hT fun h₁ hz₁ hs₁ => ?_)
  simp only [Bool.false_eq_true, if_false]
  refine wpAny_bind ?_
  rw [← Array.forIn_toList]
  refine wp_forIn (fun k b s' => b = (none, (row.take k).toArray) ∧ ∃ h, s' = { s with heap := h } ∧ IsZipHeld h (N + n + 2) (N + n) (N + n + 1) T true ∧ ZIts h N n ls xss i k ∧
    h.objs.size = s.heap.objs.size ∧ ∀ c o, (c < N ∨ N + n + 2 < c) → s.heap.get? c = some o → h.get? c = some o) _ 0 (none, #[]) { s with heap := h₁ } ?_ ?_ ?_
  · rintro k it b s' hj ⟨rfl, h, rfl, z, I, hsz, kp⟩
    rw [Nat.zero_add] at I ⊢
    obtain ⟨hj3, hj4⟩ := zits_at hj
    subst hj3
    obtain ⟨l, hl⟩ : ∃ l, ls[k]? = some l := ⟨_, List.getElem?_eq_getElem (by rw [I.ln]; exact hj4)⟩
    obtain ⟨xs, hxs⟩ : ∃ xs, xss[k]? = some xs := ⟨_, List.getElem?_eq_getElem (by rw [I.lx]; exact hj4)⟩
    obtain ⟨x, hx⟩ : ∃ x, row[k]? = some x := ⟨_, List.getElem?_eq_getElem (by rw [hr]; exact hj4)⟩
    have hit := I.it k l hl
    rw [if_neg (Nat.lt_irrefl k)] at hit
    refine wpAny_bind (wpAny_holding ?_)
    show wpAny _ _ (Builtin.SmallTypes.nextOf (.ref (N + k)) >>= _) _ _ _
    refine wpAny_bind (wpAny_nextOf_list_item hit (I.li k l xs hl hxs) (x := x) (by rw [← hx, ← hrow k xs hxs]; simp) fun h₂ h1₂ hs₂ => wpAny_pure ?_)
    have I2 := I.step hl h1₂ hs₂.extBut
    refine wpAny_pure ⟨_, rfl, ?_, h₂, rfl, hs₂.extBut _ _ (ad_ne (by omega)) z, I2, hs₂.1.trans hsz, fun c o hc q => hs₂.extBut _ _ (ad_ne (by omega)) (kp c o hc q)⟩
    rw [List.take_add_one, hx]
    simp
  · exact ⟨by simp, h₁, rfl, hz₁, hI.off (b := N + n + 2) hs₁.extBut (by omega), hs₁.1, fun c o hc q => hs₁.extBut _ _ (ad_ne (by omega)) q⟩
  · rintro b s' ⟨rfl, h, rfl, z, I, hsz, kp⟩
    have hlen : 0 + ((List.map (fun j => Value.ref (N + j)) (List.range n)).toArray.toList).length = n := by simp
    rw [hlen] at I ⊢
    rw [List.take_of_length_le (by omega)]
    have et : (row.toArray.toList) = row := by simp
    show wpAny _ _ (newTuple row.toArray.toList >>= _) _ _ _
    rw [et]
    refine wpAny_bind (wpAny_newTuple ?_ (by rw [sizeLine_eq]; omega))
    refine wpAny_pure ⟨_, rfl, ?_⟩
    show Q (.ref h.objs.size) _
    have hp : IsTupL (h.push { cls := .type "tuple", data := .seq row.toArray }) h.objs.size row := Heap.get?_push_size _ rfl
    have hz4 : (h.push { cls := .type "tuple", data := .seq row.toArray }).objs.size = h.objs.size + 1 := Heap.size_push ..
    rw [hsz] at hp hz4 ⊢
    exact hQ _ (Heap.get?_push_of_some _ z) (I.next.keep fun b o hb q => Heap.get?_push_of_some _ q) hp hz4 fun c o hc q => Heap.get?_push_of_some _ (kp c o hc q)
theorem zl_held_end {N n i m T : Nat} {f : Bool} {oT : Obj} {ls : List Addr} {xss : List (List Value)} {Q : Fin → Shared → Prop} (hh : A.handled = none) (hn : 0 < n) (hnz : n ≤ 100) (hm : m < n)
    (hz : IsZipHeld s.heap (N + n + 2) (N + n) (N + n + 1) T f) (hT : s.heap.get? T = some oT) (hI : ZIts s.heap N n ls xss i 0) (hrow : ∀ (j : Nat) (xs : List Value), j < m → xss[j]? = some xs → i < xs.length) (hend : ∀ (xs : List Value), xss[m]? = some xs → xs.length ≤ i)
    (hE : ∀ h' e, (∀ c o, (c < N ∨ N + n + 2 < c) → s.heap.get? c = some o → h'.get? c = some o) → (∃ o, h'.get? e = some o ∧ o.cls = .type "StopIteration") → E (.ref e) { s with heap := h' }) :
    wpAny (model prog w) A (Builtin.«zip.__next__» ⟨[.ref (N + n + 2)], []⟩) Q E s := by
  have hTI := hI.ti
  show wpAny _ _ (field (.ref (N + n + 2)) 2 >>= _) _ _ _
  refine wpAny_bind (wpAny_field hz rfl (x := .bool false) rfl ?_)
  show wpAny _ _ (field (.ref (N + n + 2)) 3 >>= _) _ _ _
  refine wpAny_bind (wpAny_field hz rfl (x := .ref (N + n)) rfl ?_)
  refine wpAny_bind (wpAny_seqItems hTI rfl ?_)
  have hne := tn_ne (N := N) hn
  simp only [hne]
  show wpAny _ _ (Builtin.SmallTypes.ownedTupleIsFree (.ref (N + n + 2)) >>= _) _ _ _
  refine wpAny_bind (wpAny_tupleHeld_zip hz hT fun h₁ hz₁ hs₁ => ?_)
  simp only [Bool.false_eq_true, if_false]
  refine wpAny_bind ?_
  rw [← Array.forIn_toList]
  refine wp_forIn (fun k b s' => k ≤ m ∧ b.1 = none ∧ ∃ h, s' = { s with heap := h } ∧ ZIts h N n ls xss i k ∧
    ∀ c o, (c < N ∨ N + n + 2 < c) → s.heap.get? c = some o → h.get? c = some o) _ 0 (none, #[]) { s with heap := h₁ } ?_ ?_ ?_
  · rintro k it ⟨b, acc⟩ s' hj ⟨hkm, hb, h, rfl, I, kp⟩
    simp only at hb
    subst hb
    rw [Nat.zero_add] at I hkm ⊢
    obtain ⟨hj3, hj4⟩ := zits_at hj
    subst hj3
    obtain ⟨l, hl⟩ : ∃ l, ls[k]? = some l := ⟨_, List.getElem?_eq_getElem (by rw [I.ln]; exact hj4)⟩
    obtain ⟨xs, hxs⟩ : ∃ xs, xss[k]? = some xs := ⟨_, List.getElem?_eq_getElem (by rw [I.lx]; exact hj4)⟩
    have hit := I.it k l hl
    rw [if_neg (Nat.lt_irrefl k)] at hit
    refine wpAny_bind (wpAny_holding ?_)
    show wpAny _ _ (Builtin.SmallTypes.nextOf (.ref (N + k)) >>= _) _ _ _
    by_cases hk : k < m
    · have hlt := hrow k xs hk hxs
      refine wpAny_bind (wpAny_nextOf_list_item hit (I.li k l xs hl hxs) (x := xs[i]) (by simp [hlt]) fun h₂ h1₂ hs₂ => wpAny_pure ?_)
      exact wpAny_pure ⟨_, rfl, hk, rfl, h₂, rfl, I.step hl h1₂ hs₂.extBut, fun c o hc q => hs₂.extBut _ _ (ad_ne (by omega)) (kp c o hc q)⟩
    · have hk2 : k = m := by omega
      subst hk2
      refine wpAny_bind (wpAny_nextOf_list_end hh hit (I.li k l xs hl hxs) (by simp; exact hend xs hxs) fun h₂ e hs₂ he => ?_)
      exact hE h₂ e (fun c o hc x => hs₂ _ _ (ad_ne (by omega)) (kp c o hc x)) he
  · exact ⟨Nat.zero_le _, rfl, h₁, rfl, hI.off (b := N + n + 2) hs₁.extBut (by omega), fun c o hc q => hs₁.extBut _ _ (ad_ne (by omega)) q⟩
  · rintro b s' ⟨hle, _⟩
    exfalso
    have hlen : 0 + ((List.map (fun j => Value.ref (N + j)) (List.range n)).toArray.toList).length = n := by simp
    rw [hlen] at hle
    omega

/-- what a zip of n lists hands out, from i on -/
structure ZRows (n : Nat) (xss rows : List (List Value)) : Prop where
  row : ∀ (i : Nat) (r : List Value), rows[i]? = some r → r.length = n ∧ ∀ (j : Nat) (xs : List Value), xss[j]? = some xs → xs[i]? = r[j]?
  fin : ∃ m, m < n ∧ (∀ (j : Nat) (xs : List Value), j < m → xss[j]? = some xs → rows.length < xs.length) ∧ ∀ xs : List Value, xss[m]? = some xs → xs.length ≤ rows.length
def ZSt (h : Heap) (N n : Nat) (ls : List Addr) (xss : List (List Value)) (i : Nat) : Prop := ZIts h N n ls xss i 0 ∧
  ((IsZip h (N + n + 2) (N + n) (N + n + 1) .none ∧ ∃ old : List Value, IsTupL h (N + n + 1) old ∧ old.length = n) ∨
   ∃ (T : Nat) (f : Bool) (oT : Obj), IsZipHeld h (N + n + 2) (N + n) (N + n + 1) T f ∧ h.get? T = some oT ∧ N + n + 2 < T)
theorem ZSt.lt {h : Heap} {N n i : Nat} {ls : List Addr} {xss : List (List Value)} (x : ZSt h N n ls xss i) : @LT.lt Nat instLTNat (N + n + 2) h.objs.size := by
  rcases x.2 with ⟨z, _⟩ | ⟨T, f, oT, z, _⟩
  · exact Heap.lt_size z
  · exact Heap.lt_size z
theorem ZSt.type {N n i : Nat} {ls : List Addr} {xss : List (List Value)} (x : ZSt s.heap N n ls xss i) : s.TypeIs (.ref (N + n + 2)) "zip" := by
  rcases x.2 with ⟨z, _⟩ | ⟨T, f, oT, z, _⟩
  · exact ⟨_, z, rfl⟩
  · exact ⟨_, z, rfl⟩
/-- kept but for what lies above the zip at b -/
theorem ZSt.but {h h' : Heap} {N n i : Nat} {ls : List Addr} {xss : List (List Value)} {S : Addr} (x : ZSt h N n ls xss i) (hS : @LT.lt Nat instLTNat (N + n + 2) S) (hn : ∀ T f, IsZipHeld h (N + n + 2) (N + n) (N + n + 1) T f → T ≠ S) (e : Heap.ExtBut S h h') : ZSt h' N n ls xss i := by
  obtain ⟨x1, x2⟩ := x
  refine ⟨x1.off e (by omega), ?_⟩
  rcases x2 with ⟨z, old, T, ho⟩ | ⟨T, f, oT, z, hT, hlt⟩
  · exact .inl ⟨e _ _ (ad_ne (by omega)) z, old, e _ _ (ad_ne (by omega)) T, ho⟩
  · exact .inr ⟨T, f, oT, e _ _ (ad_ne (by omega)) z, e _ _ (hn T f z) hT, hlt⟩
theorem ZSt.ext {h h' : Heap} {N n i : Nat} {ls : List Addr} {xss : List (List Value)} (x : ZSt h N n ls xss i) (e : ∀ b o, h.get? b = some o → h'.get? b = some o) : ZSt h' N n ls xss i := by
  obtain ⟨x1, x2⟩ := x
  refine ⟨x1.keep fun b o _ q => e b o q, ?_⟩
  rcases x2 with ⟨z, old, T, ho⟩ | ⟨T, f, oT, z, hT, hlt⟩
  · exact .inl ⟨e _ _ z, old, e _ _ T, ho⟩
  · exact .inr ⟨T, f, oT, e _ _ z, e _ _ hT, hlt⟩
theorem zl_item {N n i : Nat} {ls : List Addr} {xss rows : List (List Value)} {r : List Value} {Q : Option Value → Shared → Prop} (hn : 0 < n) (hnz : n ≤ 100) (hx : ZSt s.heap N n ls xss i) (hr : ZRows n xss rows) (hi : rows[i]? = some r)
    (hQ : ∀ h', ZSt h' N n ls xss (i + 1) → (∀ T f, IsZipHeld h' (N + n + 2) (N + n) (N + n + 1) T f → T = s.heap.objs.size ∨ ∃ f', IsZipHeld s.heap (N + n + 2) (N + n) (N + n + 1) T f') → IsTupL h' s.heap.objs.size r → h'.objs.size = s.heap.objs.size + 1 → (∀ c o, (c < N ∨ N + n + 2 < c) → s.heap.get? c = some o → h'.get? c = some o) → Q (some (.ref s.heap.objs.size)) { s with heap := h' }) :
    wpAny (model prog w) A (pyNext (.ref (N + n + 2))) Q E s := by
  have hTy := hx.type
  have hlt := hx.lt
  obtain ⟨r1, r2⟩ := hr.row i r hi
  obtain ⟨x1, x2⟩ := hx
  unfold pyNext
  refine wpAny_bind (wpAny_attempt (wpAny_callSpecial?_slot (name := Str.ofString "__next__") hTy F.slot_zip_next (wpAny_call_entry F.slot_zip_next hTy F.entry_zip_next ?_ (F.args_zip_next_1 _))))
  rcases x2 with ⟨z, old, T, ho⟩ | ⟨T, f, oT, z, hT, hTlt⟩
  · refine zl_free hn hnz z x1 T ho r r1 r2 fun h' a1 a2 a3 a4 a5 => wpAny_pure (hQ h' ⟨a2, .inr ⟨s.heap.objs.size, false, _, a1, a3, hlt⟩⟩ (fun T f e => .inl ?_) a3 a4 a5)
    rw [IsZipHeld, a1] at e
    simp at e
    exact (raw_inj e.1).symm
  · refine zl_held hn hnz z hT x1 r r1 r2 fun h' a1 a2 a3 a4 a5 => wpAny_pure (hQ h' ⟨a2, .inr ⟨T, true, oT, a1, a5 _ _ (.inr hTlt) hT, hTlt⟩⟩ (fun T' f' e => .inr ?_) a3 a4 a5)
    rw [IsZipHeld, a1] at e
    simp at e
    obtain ⟨e1, e2⟩ := e
    have e3 : T = T' := raw_inj e1
    subst e3
    exact ⟨f, z⟩
theorem zl_done {N n i : Nat} {ls : List Addr} {xss rows : List (List Value)} {Q : Option Value → Shared → Prop} (hh : A.handled = none) (hn : 0 < n) (hnz : n ≤ 100) (hx : ZSt s.heap N n ls xss i) (hr : ZRows n xss rows) (hi : i = rows.length)
    (hQ : ∀ h', (∀ c o, (c < N ∨ N + n + 2 < c) → s.heap.get? c = some o → h'.get? c = some o) → Q none { s with heap := h' }) :
    wpAny (model prog w) A (pyNext (.ref (N + n + 2))) Q E s := by
  have hTy := hx.type
  obtain ⟨m, hm, f1, f2⟩ := hr.fin
  subst hi
  obtain ⟨x1, x2⟩ := hx
  unfold pyNext
  refine wpAny_bind (wpAny_attempt (wpAny_callSpecial?_slot (name := Str.ofString "__next__") hTy F.slot_zip_next (wpAny_call_entry F.slot_zip_next hTy F.entry_zip_next ?_ (F.args_zip_next_1 _))))
  rcases x2 with ⟨z, old, T, ho⟩ | ⟨T, f, oT, z, hT, hTlt⟩
  · refine zl_free_end (old := old) hh hn hnz hm z x1 ⟨old, T, ho⟩ f1 f2 fun h' e hk he => ?_
    obtain ⟨o, ho, hc⟩ := he
    refine wpAny_bind (wpAny_isInstance (T := "StopIteration") (b := true) ⟨o, ho, hc⟩ isSubtype_stop ?_)
    exact wpAny_pure (hQ _ hk)
  · refine zl_held_end hh hn hnz hm z hT x1 f1 f2 fun h' e hk he => ?_
    obtain ⟨o, ho, hc⟩ := he
    refine wpAny_bind (wpAny_isInstance (T := "StopIteration") (b := true) ⟨o, ho, hc⟩ isSubtype_stop ?_)
    exact wpAny_pure (hQ _ hk)

/-- the addresses hold the rows, new tuples above lo -/
structure ZG (rows : List (List Value)) (lo : Nat) (h : Heap) (as : List Addr) : Prop where
  nd : as.Pairwise (@LT.lt Nat instLTNat)
  above : ∀ a ∈ as, @LT.lt Nat instLTNat lo a
  tup : ∀ (j : Nat) (a : Addr), as[j]? = some a → ∃ r, rows[j]? = some r ∧ IsTupL h a r
theorem ZG.there {rows : List (List Value)} {lo : Nat} {h : Heap} {as : List Addr} (g : ZG rows lo h as) {a : Addr} (ha : a ∈ as) : @LT.lt Nat instLTNat a h.objs.size := by
  obtain ⟨j, hj⟩ := List.mem_iff_getElem?.mp ha
  obtain ⟨r, _, e⟩ := g.tup j a hj
  exact Heap.lt_size e
theorem zl_loop {R : Result → Shared → Prop} {N n : Nat} {ls : List Addr} {xss rows : List (List Value)} {S : Addr} (hh : A.handled = none) (hn : 0 < n) (hnz : n ≤ 100) (hr : ZRows n xss rows) (hlen : rows.length ≤ sizeLine) (hNS : @LT.lt Nat instLTNat (N + n + 2) S) (res : Value) {h₁ : Heap}
    (hR : ∀ h' tk acc c as, (∀ b o, (@LT.lt Nat instLTNat b N ∨ @LT.lt Nat instLTNat S b) → h₁.get? b = some o → h'.get? b = some o) → h'.get? S = some (lstObj acc c) → as.length = rows.length → ZG rows S h' as → acc.toList = as.map Value.ref → R (.ok (.ret res)) { s with heap := h', toks := tk }) :
    ∀ (k i : Nat) (h : Heap) (tk c : Nat) (acc : Array Value) (as : List Addr), rows.length - i = k → i ≤ rows.length → ZSt h N n ls xss i → (∀ T f, IsZipHeld h (N + n + 2) (N + n) (N + n + 1) T f → T ≠ S) → (∀ b o, (@LT.lt Nat instLTNat b N ∨ @LT.lt Nat instLTNat S b) → h₁.get? b = some o → h.get? b = some o) →
      h.get? S = some (lstObj acc c) → acc.toList = as.map Value.ref → as.length = i → ZG rows S h as →
      codeAny (model prog w) A (.builtin "list.extend.loop" ⟨[.ref S, .ref (N + n + 2), res], []⟩) R { s with heap := h, toks := tk } := by
  intro k
  induction k with
  | zero =>
    intro i h tk c acc as hk hi hst hTS hkeep hS hacc hal hG
    refine codeAny_builtin F.entry_extend_loop ?_
    rw [Around.under_plainId F.plain_extend_loop _]
    show wpAny _ A.in1 (pyNext (.ref (N + n + 2)) >>= _) _ _ _
    refine wpAny_bind (zl_done (s := { s with heap := h, toks := tk }) (A := A.in1) hh hn hnz hst hr (by omega) fun h' he => ?_)
    refine wpAny_pure (hR h' tk acc c as (fun b o hb e => he b o (by
      rcases hb with q | q
      · exact .inl q
      · exact .inr (by omega)) (hkeep b o hb e)) (he S _ (.inr hNS) hS) (by omega) ⟨hG.nd, hG.above, fun j a hj => ?_⟩ hacc)
    obtain ⟨r, hj', e3⟩ := hG.tup j a hj
    exact ⟨r, hj', he a _ (.inr (by have := hG.above a (List.mem_of_getElem? hj); omega)) e3⟩
  | succ k ih =>
    intro i h tk c acc as hk hi hst hTS hkeep hS hacc hal hG
    have hlt : i < rows.length := by omega
    have hsz : acc.size = i := by rw [← Array.length_toList, hacc, List.length_map, hal]
    have hSl : @LT.lt Nat instLTNat S h.objs.size := Heap.lt_size hS
    refine codeAny_builtin F.entry_extend_loop ?_
    rw [Around.under_plainId F.plain_extend_loop _]
    show wpAny _ A.in1 (pyNext (.ref (N + n + 2)) >>= _) _ _ _
    refine wpAny_bind (zl_item (s := { s with heap := h, toks := tk }) hn hnz hst hr (List.getElem?_eq_getElem hlt) fun h' hst' hT' ht hz hkp => ?_)
    dsimp only at ht hz hkp hT' ⊢
    have hS' := hkp S _ (.inr hNS) hS
    have hTS' : ∀ T f, IsZipHeld h' (N + n + 2) (N + n) (N + n + 1) T f → T ≠ S := fun T f e => by
      rcases hT' T f e with q | ⟨f', q⟩
      · exact ad_ne (.inr (by rw [q]; exact hSl))
      · exact hTS T f' q
    have up : ∀ b o, b ≠ S → h'.get? b = some o → (h'.update S (Obj.mapSeq (·.push (Value.ref h.objs.size)))).get? b = some o := fun b o hb e => (Heap.get?_update_other _ _ (Ne.symm hb)).trans e
    show wpAny _ A.in1 (updateSeq S (·.push (Value.ref h.objs.size)) >>= _) _ _ _
    refine wpAny_bind ?_
    refine wpAny_updateSeq hS' rfl (wpAny_pure ⟨plainId_quiet F.plain_extend_loop _, ih (i + 1) _ tk _ (acc.push (Value.ref h.objs.size)) (as ++ [h.objs.size]) (by omega) hlt (hst'.but hNS hTS' up) (fun T f e => ?_)
      (fun b o hb e => up b o (ad_ne (by
        rcases hb with q | q
        · exact .inl (by omega)
        · exact .inr q)) (hkp b o (by
          rcases hb with q | q
          · exact .inl q
          · exact .inr (by omega)) (hkeep b o hb e))) (Heap.get?_update_self _ hS' rfl) (by rw [Array.toList_push, hacc, List.map_append]; rfl) (by rw [List.length_append, hal]; rfl) ⟨?_, ?_, ?_⟩⟩) (by rw [hsz]; omega) (by show (acc.push _).size ≤ sizeLine + 1; rw [Array.size_push, hsz]; omega)
    · rcases hst'.2 with ⟨z, _⟩ | ⟨T', f', oT, z, _⟩
      · have z2 := up _ _ (ad_ne (.inl hNS)) z
        rw [IsZipHeld, z2] at e
        simp [rawInt] at e
      · have z2 := up _ _ (ad_ne (.inl hNS)) z
        rw [IsZipHeld, z2] at e
        simp at e
        rw [← raw_inj e.1]
        exact hTS' T' f' z
    · refine List.pairwise_append.mpr ⟨hG.nd, List.pairwise_singleton _ _, fun a ha b hb => ?_⟩
      rw [List.mem_singleton.mp hb]
      exact hG.there ha
    · intro a ha
      rcases List.mem_append.mp ha with ha | ha
      · exact hG.above a ha
      · rw [List.mem_singleton.mp ha]; exact hSl
    · intro j b hj
      rcases Nat.lt_trichotomy j as.length with h1 | h1 | h1
      · rw [List.getElem?_append_left h1] at hj
        obtain ⟨r, hj', e3⟩ := hG.tup j b hj
        have hb := hG.above b (List.mem_of_getElem? hj)
        exact ⟨r, hj', up b _ (ad_ne (.inr hb)) (hkp b _ (.inr (by omega)) e3)⟩
      · subst h1
        have hb : h.objs.size = b := by simpa using hj
        subst hb
        subst hal
        exact ⟨_, List.getElem?_eq_getElem hlt, up _ _ (ad_ne (.inr hSl)) ht⟩
      · have hnone : (as ++ [h.objs.size])[j]? = none := List.getElem?_eq_none (by rw [List.length_append, List.length_singleton]; omega)
        rw [hnone] at hj; cases hj
end
theorem zip_no_len : typeLookup (.type "zip") "__len__" = pure none := by rw [typeLookup_type, builtinLookup_eq_fast]; kernel_rfl
theorem zip_no_hint : typeLookup (.type "zip") "__length_hint__" = pure none := by rw [typeLookup_type, builtinLookup_eq_fast]; kernel_rfl
section
variable {prog : Program} {w : World} {A : Around} {E : Value → Shared → Prop} {s : Shared}
theorem zl_call {N n : Nat} {ls : List Addr} {xss rows : List (List Value)} {Q : Value → Shared → Prop} (hh : A.handled = none) (hn : 0 < n) (hnz : n ≤ 100) (hr : ZRows n xss rows) (hlen : rows.length ≤ sizeLine) (hst : ZSt s.heap N n ls xss 0) (hfree : ∀ T f, ¬ IsZipHeld s.heap (N + n + 2) (N + n) (N + n + 1) T f)
    (hQ : ∀ h' tk acc c as, (∀ b o, @LT.lt Nat instLTNat b N → s.heap.get? b = some o → h'.get? b = some o) → h'.get? s.heap.objs.size = some (lstObj acc c) → as.length = rows.length → ZG rows s.heap.objs.size h' as → acc.toList = as.map Value.ref → Q (.ref s.heap.objs.size) { s with heap := h', toks := tk }) :
    wpAny (model prog w) A (call (.type "list") [.ref (N + n + 2)]) Q E s := by
  have hzl := hst.lt
  refine callType_codes (Q₁ := fun obj s₁ => obj = .ref s.heap.objs.size ∧ s₁ = { s with heap := s.heap.push { cls := .type "list", data := .seq #[] } }) F.called_list (F.typeCall_list_1 _) F.entry_list_init
    (code_list_new _ ⟨rfl, rfl⟩) fun obj s₁ h₁ => ?_
  obtain ⟨rfl, rfl⟩ := h₁
  have hS : (s.heap.push { cls := .type "list", data := .seq #[] }).get? s.heap.objs.size = some { cls := .type "list", data := .seq #[] } := Heap.get?_push_size _ rfl
  refine ⟨⟨_, hS, rfl⟩, F.args_list_init_2 _ _, ?_⟩
  show wpAny _ A.in1.in1 (do let old ← Builtin.List.listItems (.ref s.heap.objs.size); Builtin.List.listUpdate (.ref s.heap.objs.size) (fun _ => #[]); letGo old.toList.reverse; Builtin.List.listExtendWith (.ref s.heap.objs.size) (.ref (N + n + 2)) .none) _ _ _
  refine wpAny_bind ?_
  unfold Builtin.List.listItems
  refine wpAny_bind (wpAny_seqItems hS rfl (wpAny_pure ?_))
  show wpAny _ A.in1.in1 (updateSeq s.heap.objs.size (fun _ => #[]) >>= fun _ => letGo (#[] : Array Value).toList.reverse >>= fun _ => Builtin.List.listExtendWith (.ref s.heap.objs.size) (.ref (N + n + 2)) .none) _ _ _
  refine wpAny_bind (wpAny_updateSeq hS rfl ?_)
  have hS2 := Heap.get?_update_self (Obj.mapSeq (fun _ => (#[] : Array Value))) hS rfl
  refine wpAny_bind (wpAny_letGo ?_)
  unfold Builtin.List.listExtendWith
  have up : ∀ (h : Heap) (f : Obj → Obj), (∀ b o, s.heap.get? b = some o → h.get? b = some o) → ∀ b o, s.heap.get? b = some o → (h.update s.heap.objs.size f).get? b = some o := fun h f q b o e =>
    (Heap.get?_update_other _ _ (Ne.symm (Nat.ne_of_lt (Heap.lt_size e)))).trans (q b o e)
  have k1 : ∀ b o, s.heap.get? b = some o → (s.heap.push { cls := .type "list", data := .seq #[] }).get? b = some o := fun b o e => Heap.get?_push_of_some _ e
  have k2 := up _ (Obj.mapSeq (fun _ => (#[] : Array Value))) k1
  have zst : ∀ {h : Heap}, (∀ b o, s.heap.get? b = some o → h.get? b = some o) → ZSt h N n ls xss 0 := fun {h} q => hst.ext q
  have gty : ∀ {h : Heap}, (∀ b o, s.heap.get? b = some o → h.get? b = some o) → ({ s with heap := h } : Shared).TypeIs (.ref (N + n + 2)) "zip" := fun {h} q => (zst q).type
  refine wpAny_bind (wpAny_typeOf (gty k2) ?_)
  have h1 : Builtin.List.listSameRef (.ref s.heap.objs.size) (.ref (N + n + 2)) = false := by
    have : s.heap.objs.size ≠ N + n + 2 := ad_ne (.inr hzl)
    simp [Builtin.List.listSameRef, this]
  have h2 : (Value.type "zip" == Value.type "list") = false := by decide
  have h3 : (Value.type "zip" == Value.type "tuple") = false := by decide
  simp only [h1, h2, h3, Bool.or_false, Bool.false_eq_true, if_false]
  have zz : ∃ f0, IsZip (s.heap.push { cls := .type "list", data := .seq #[] } |>.update s.heap.objs.size (Obj.mapSeq (fun _ => (#[] : Array Value)))) (N + n + 2) (N + n) (N + n + 1) f0 := by
    rcases (zst k2).2 with ⟨z, _⟩ | ⟨T, f, oT, z, _⟩
    · exact ⟨_, z⟩
    · rcases hst.2 with ⟨z, _⟩ | ⟨T, f, oT, z, _⟩
      · exact ⟨_, k2 _ _ z⟩
      · exact absurd z (hfree T f)
  obtain ⟨f0, zz⟩ := zz
  refine wpAny_bind (wpAny_pyIter_zip zz ?_)
  refine wpAny_bind (wpAny_holding ?_)
  unfold Builtin.List.listLengthHint
  refine wpAny_bind (wpAny_specialOf (gty k2) zip_no_len ?_)
  show wpAny _ A.in1.in1 (specialOf (Value.ref (N + n + 2)) (Str.ofString "__length_hint__") >>= _) _ _ _
  refine wpAny_bind (wpAny_specialOf (gty k2) zip_no_hint ?_)
  refine wpAny_pure ?_
  show wpAny _ A.in1.in1 (rule "list.extend.makes-room" >>= fun _ => Builtin.List.listTouch (.ref s.heap.objs.size) >>= fun _ =>
    again (.builtin "list.extend.loop" ⟨[.ref s.heap.objs.size, .ref (N + n + 2), .none], []⟩)) _ _ _
  refine wpAny_bind (wpAny_rule ?_)
  refine wpAny_bind ?_
  show wpAny _ A.in1.in1 (updateSeq s.heap.objs.size (·.push .none) >>= fun _ => updateSeq s.heap.objs.size (·.pop)) _ _ _
  refine wpAny_bind (wpAny_updateSeq hS2 rfl ?_)
  have hS3 := Heap.get?_update_self (Obj.mapSeq (·.push Value.none)) hS2 rfl
  refine wpAny_updateSeq (hz := by seq_fits) hS3 rfl ?_
  have hS4 := Heap.get?_update_self (Obj.mapSeq (·.pop)) hS3 rfl
  have k4 := up _ (Obj.mapSeq (·.pop)) (up _ (Obj.mapSeq (·.push Value.none)) k2)
  refine wpAny_pure ⟨plainId_quiet F.plain_extend_loop _, ?_⟩
  refine zl_loop (A := A.in1) (s := s) (S := s.heap.objs.size) (h₁ := s.heap) (xss := xss) (ls := ls) (rows := rows) hh hn hnz hr hlen hzl .none (fun h' tk acc c as hk hS' hl hG hacc => ⟨rfl, hQ h' tk acc c as (fun b o hb e => hk b o (.inl hb) e) hS' hl hG hacc⟩)
    rows.length 0 _ s.toks _ #[] [] (by omega) (Nat.zero_le _) (zst k4) (fun T f e => ?_) (fun b o _ e => k4 b o e) hS4 rfl rfl ⟨List.Pairwise.nil, (fun _ ha => nomatch ha), fun j a hj => by simp at hj⟩
  exfalso
  rcases hst.2 with ⟨z, _⟩ | ⟨T', f', oT, z, _⟩
  · have z2 := k4 _ _ z
    rw [IsZipHeld, z2] at e
    simp [rawInt] at e
  · exact hfree T' f' z
end

/-! ### the call of zip -/
/-- zip of n lists begins so -/
def ZipB (n : Nat) : Prop := ∀ (prog : Program) (w : World) (A : Around) (E : Value → Shared → Prop) (s : Shared) (ls : List Addr) (xss : List (List Value)) (Q : Value → Shared → Prop), ls.length = n → xss.length = n →
  (∀ (j : Nat) (l : Addr) (xs : List Value), ls[j]? = some l → xss[j]? = some xs → s.heap.IsList l xs.toArray) →
  (∀ h', ZSt h' s.heap.objs.size n ls xss 0 → (∀ T f, ¬ IsZipHeld h' (s.heap.objs.size + n + 2) (s.heap.objs.size + n) (s.heap.objs.size + n + 1) T f) → (∀ c o, s.heap.get? c = some o → h'.get? c = some o) → @LE.le Nat instLENat s.heap.objs.size h'.objs.size → Q (.ref (s.heap.objs.size + n + 2)) { s with heap := h' }) →
  wpAny (model prog w) A (call (.type "zip") (ls.map .ref)) Q E s
theorem held_none {h : Heap} {z TI TO : Addr} (hz : IsZip h z TI TO .none) : ∀ T f, ¬ IsZipHeld h z TI TO T f := fun T f e => by
  rw [IsZipHeld, hz] at e
  simp [rawInt] at e
theorem isList_lt {h : Heap} {l : Addr} {xs : Array Value} (x : h.IsList l xs) : @LT.lt Nat instLTNat l h.objs.size := by
  obtain ⟨o, ho, _⟩ := x
  exact Heap.lt_size ho
theorem zipB_2 : ZipB 2 := fun prog w A E s ls xss Q h1 h2 hl hQ => by
  obtain ⟨a, b, rfl⟩ : ∃ a b, ls = [a, b] := by
    match ls, h1 with
    | [a, b], _ => exact ⟨a, b, rfl⟩
  obtain ⟨xs, ys, rfl⟩ : ∃ a b, xss = [a, b] := by
    match xss, h2 with
    | [a, b], _ => exact ⟨a, b, rfl⟩
  have l1 := hl 0 a xs rfl rfl
  have l2 := hl 1 b ys rfl rfl
  refine call_zip_2 l1 l2 fun h' z TI TO i1 i2 hs hk => ?_
  refine hQ h' ⟨⟨TI, fun j l hj => ?_, fun j l zs hj hx => (hl j l zs hj hx).at fun o e => hk _ o e, fun j l hj => ?_, rfl, rfl⟩, .inl ⟨z, [.none, .none], TO, rfl⟩⟩ (held_none z) hk (by rw [hs]; exact Nat.le_add_right _ _)
  · match j, hj with
    | 0, hj => cases hj; exact i1
    | 1, hj => cases hj; exact i2
    | j + 2, hj => simp at hj
  · obtain ⟨zs, hz⟩ : ∃ zs, [xs, ys][j]? = some zs := ⟨_, List.getElem?_eq_getElem (by have := (List.getElem?_eq_some_iff.mp hj).1; simpa using this)⟩
    exact isList_lt (hl j l zs hj hz)
theorem zipB_3 : ZipB 3 := fun prog w A E s ls xss Q h1 h2 hl hQ => by
  obtain ⟨a, b, c, rfl⟩ : ∃ a b c, ls = [a, b, c] := by
    match ls, h1 with
    | [a, b, c], _ => exact ⟨a, b, c, rfl⟩
  obtain ⟨xs, ys, zs, rfl⟩ : ∃ a b c, xss = [a, b, c] := by
    match xss, h2 with
    | [a, b, c], _ => exact ⟨a, b, c, rfl⟩
  have l1 := hl 0 a xs rfl rfl
  have l2 := hl 1 b ys rfl rfl
  have l3 := hl 2 c zs rfl rfl
  refine zip_begins3 (begins_list a xs.toArray) (begins_list b ys.toArray) (begins_list c zs.toArray) l1 l2 l3 fun h' z TI TO i1 i2 i3 hs hk => ?_
  refine hQ h' ⟨⟨TI, fun j l hj => ?_, fun j l zs hj hx => (hl j l zs hj hx).at fun o e => hk _ o e, fun j l hj => ?_, rfl, rfl⟩, .inl ⟨z, [.none, .none, .none], TO, rfl⟩⟩ (held_none z) hk (by rw [hs]; exact Nat.le_add_right _ _)
  · match j, hj with
    | 0, hj => cases hj; exact ⟨_, i1, rfl, rfl⟩
    | 1, hj => cases hj; exact ⟨_, i2, rfl, rfl⟩
    | 2, hj => cases hj; exact ⟨_, i3, rfl, rfl⟩
    | j + 3, hj => simp at hj
  · obtain ⟨vs, hz⟩ : ∃ vs, [xs, ys, zs][j]? = some vs := ⟨_, List.getElem?_eq_getElem (by have := (List.getElem?_eq_some_iff.mp hj).1; simpa using this)⟩
    exact isList_lt (hl j l vs hj hz)
abbrev gz4T (h : Heap) (o1 o2 o3 o4 : Obj) : Heap := ((((h.push o1).push o2).push o3).push o4).push { cls := .type "tuple", data := .seq #[.ref h.objs.size, .ref (h.push o1).objs.size, .ref ((h.push o1).push o2).objs.size, .ref (((h.push o1).push o2).push o3).objs.size] }
abbrev gz4O (h : Heap) (o1 o2 o3 o4 : Obj) : Heap := (gz4T h o1 o2 o3 o4).push { cls := .type "tuple", data := .seq #[.none, .none, .none, .none] }
abbrev gz4Z (h : Heap) (o1 o2 o3 o4 : Obj) : Heap := (gz4O h o1 o2 o3 o4).push { cls := .type "zip", data := .fields #[.none, .bool false, .bool false, .ref ((((h.push o1).push o2).push o3).push o4).objs.size, .ref (gz4T h o1 o2 o3 o4).objs.size] }
theorem typeCall_zip4 (a b c d : Value) : checkTypeCall "zip" ⟨[a, b, c, d], []⟩ = pure () := by kernel_rfl
theorem newCall_zip4 (a b c d : Value) : checkBuiltinCall "zip.__new__" ⟨[.type "zip", a, b, c, d], []⟩ = pure () := by kernel_rfl
theorem args_objinit5 (obj a b c d : Value) : argsOk "object.__init__" ⟨[obj, a, b, c, d], []⟩ := by unfold argsOk; kernel_rfl
set_option maxHeartbeats 4000000 in
theorem meets_zip4 {v1 v2 v3 v4 : Value} {o1 o2 o3 o4 : Obj} {H1 H2 H3 H4 : Heap → Prop} (B1 : Begins v1 o1 H1) (B2 : Begins v2 o2 H2) (B3 : Begins v3 o3 H3) (B4 : Begins v4 o4 H4) :
    Meets (Builtin.«zip.__new__» ⟨[.type "zip", v1, v2, v3, v4], []⟩) (fun _ R s => (H1 s.heap ∧ H2 s.heap ∧ H3 s.heap ∧ H4 s.heap) ∧
      R (.ok (.ret (.ref (gz4O s.heap o1 o2 o3 o4).objs.size))) { s with heap := gz4Z s.heap o1 o2 o3 o4 }) :=
  .of_wp fun prog w A R s h => by
    obtain ⟨hp, g, d, tk, os⟩ := s; obtain ⟨⟨h1, h2, h3, h4⟩, h⟩ := h
    have hsub := sub_zip
    have q1 : ∀ {A' : Around} {E : Value → Shared → Prop} {Q : Value → Shared → Prop}, Q (.ref hp.objs.size) ⟨(hp.push o1), g, d, tk, os⟩ → wpAny (model prog w) A' (pyIter v1) Q E ⟨hp, g, d, tk, os⟩ :=
      fun q => B1.iter prog w _ _ ⟨hp, g, d, tk, os⟩ _ (B1.keeps _ _ h1 fun b o' e => e) q
    have q2 : ∀ {A' : Around} {E : Value → Shared → Prop} {Q : Value → Shared → Prop}, Q (.ref (hp.push o1).objs.size) ⟨((hp.push o1).push o2), g, d, tk, os⟩ → wpAny (model prog w) A' (pyIter v2) Q E ⟨(hp.push o1), g, d, tk, os⟩ :=
      fun q => B2.iter prog w _ _ ⟨(hp.push o1), g, d, tk, os⟩ _ (B2.keeps _ _ h2 fun b o' e => (Heap.get?_push_of_some _ e)) q
    have q3 : ∀ {A' : Around} {E : Value → Shared → Prop} {Q : Value → Shared → Prop}, Q (.ref ((hp.push o1).push o2).objs.size) ⟨(((hp.push o1).push o2).push o3), g, d, tk, os⟩ → wpAny (model prog w) A' (pyIter v3) Q E ⟨((hp.push o1).push o2), g, d, tk, os⟩ :=
      fun q => B3.iter prog w _ _ ⟨((hp.push o1).push o2), g, d, tk, os⟩ _ (B3.keeps _ _ h3 fun b o' e => (Heap.get?_push_of_some _ (Heap.get?_push_of_some _ e))) q
    have q4 : ∀ {A' : Around} {E : Value → Shared → Prop} {Q : Value → Shared → Prop}, Q (.ref (((hp.push o1).push o2).push o3).objs.size) ⟨((((hp.push o1).push o2).push o3).push o4), g, d, tk, os⟩ → wpAny (model prog w) A' (pyIter v4) Q E ⟨(((hp.push o1).push o2).push o3), g, d, tk, os⟩ :=
      fun q => B4.iter prog w _ _ ⟨(((hp.push o1).push o2).push o3), g, d, tk, os⟩ _ (B4.keeps _ _ h4 fun b o' e => (Heap.get?_push_of_some _ (Heap.get?_push_of_some _ (Heap.get?_push_of_some _ e)))) q
    wp_walk using q1, q2, q3, q4
    exact ⟨_, rfl, h⟩
theorem zipB_4 : ZipB 4 := fun prog w A E s ls xss Q h1 h2 hl hQ => by
  obtain ⟨a, b, c, d, rfl⟩ : ∃ a b c d, ls = [a, b, c, d] := by
    match ls, h1 with
    | [a, b, c, d], _ => exact ⟨a, b, c, d, rfl⟩
  obtain ⟨xs, ys, zs, us, rfl⟩ : ∃ a b c d, xss = [a, b, c, d] := by
    match xss, h2 with
    | [a, b, c, d], _ => exact ⟨a, b, c, d, rfl⟩
  have l1 := hl 0 a xs rfl rfl
  have l2 := hl 1 b ys rfl rfl
  have l3 := hl 2 c zs rfl rfl
  have l4 := hl 3 d us rfl rfl
  have B1 := begins_list a xs.toArray
  have B2 := begins_list b ys.toArray
  have B3 := begins_list c zs.toArray
  have B4 := begins_list d us.toArray
  show wpAny (model prog w) A (call (.type "zip") [.ref a, .ref b, .ref c, .ref d]) Q E s
  refine callType_new F.called_zip (by decide) (typeCall_zip4 _ _ _ _) (newCall_zip4 _ _ _ _) (fun obj => args_objinit5 obj _ _ _ _) F.entry_zip_new
    (meets_zip4 B1 B2 B3 B4) ⟨⟨l1, l2, l3, l4⟩, ?_⟩
  have f1 := B1.free
  have f2 := B2.free
  have f3 := B3.free
  have f4 := B4.free
  have c1 : ∀ h : Heap, h.get? s.heap.objs.size = some ({ cls := .type "list_iterator", data := .fields #[.ref a, .int 0 0] } : Obj) → h.IsListIter s.heap.objs.size a 0 := fun h e => ⟨_, e, rfl, rfl⟩
  have c2 : ∀ h : Heap, h.get? (s.heap.objs.size + 1) = some ({ cls := .type "list_iterator", data := .fields #[.ref b, .int 0 0] } : Obj) → h.IsListIter (s.heap.objs.size + 1) b 0 := fun h e => ⟨_, e, rfl, rfl⟩
  have c3 : ∀ h : Heap, h.get? (s.heap.objs.size + 2) = some ({ cls := .type "list_iterator", data := .fields #[.ref c, .int 0 0] } : Obj) → h.IsListIter (s.heap.objs.size + 2) c 0 := fun h e => ⟨_, e, rfl, rfl⟩
  have c4 : ∀ h : Heap, h.get? (s.heap.objs.size + 3) = some ({ cls := .type "list_iterator", data := .fields #[.ref d, .int 0 0] } : Obj) → h.IsListIter (s.heap.objs.size + 3) d 0 := fun h e => ⟨_, e, rfl, rfl⟩
  generalize ({ cls := .type "list_iterator", data := .fields #[.ref a, .int 0 0] } : Obj) = o1 at *
  generalize ({ cls := .type "list_iterator", data := .fields #[.ref b, .int 0 0] } : Obj) = o2 at *
  generalize ({ cls := .type "list_iterator", data := .fields #[.ref c, .int 0 0] } : Obj) = o3 at *
  generalize ({ cls := .type "list_iterator", data := .fields #[.ref d, .int 0 0] } : Obj) = o4 at *
  have z1 : (s.heap.push o1).objs.size = s.heap.objs.size + 1 := by rw [Heap.size_push]
  have z2 : ((s.heap.push o1).push o2).objs.size = s.heap.objs.size + 2 := by rw [Heap.size_push, z1]
  have z3 : (((s.heap.push o1).push o2).push o3).objs.size = s.heap.objs.size + 3 := by rw [Heap.size_push, z2]
  have z4 : ((((s.heap.push o1).push o2).push o3).push o4).objs.size = s.heap.objs.size + 4 := by rw [Heap.size_push, z3]
  have zT : (gz4T s.heap o1 o2 o3 o4).objs.size = s.heap.objs.size + 5 := by rw [Heap.size_push, z4]
  have zO : (gz4O s.heap o1 o2 o3 o4).objs.size = s.heap.objs.size + 6 := by rw [Heap.size_push, zT]
  have zZ : (gz4Z s.heap o1 o2 o3 o4).objs.size = s.heap.objs.size + 7 := by rw [Heap.size_push, zO]
  have gZ : (gz4Z s.heap o1 o2 o3 o4).get? (gz4O s.heap o1 o2 o3 o4).objs.size = some { cls := .type "zip", data := .fields #[.none, .bool false, .bool false, .ref ((((s.heap.push o1).push o2).push o3).push o4).objs.size, .ref (gz4T s.heap o1 o2 o3 o4).objs.size] } := Heap.get?_push_size _ rfl
  have gO : (gz4Z s.heap o1 o2 o3 o4).get? (gz4T s.heap o1 o2 o3 o4).objs.size = some { cls := .type "tuple", data := .seq #[.none, .none, .none, .none] } := Heap.get?_push_of_some _ (Heap.get?_push_size _ rfl)
  have gT : (gz4Z s.heap o1 o2 o3 o4).get? ((((s.heap.push o1).push o2).push o3).push o4).objs.size = some { cls := .type "tuple", data := .seq #[.ref s.heap.objs.size, .ref (s.heap.push o1).objs.size, .ref ((s.heap.push o1).push o2).objs.size, .ref (((s.heap.push o1).push o2).push o3).objs.size] } := Heap.get?_push_of_some _ (Heap.get?_push_of_some _ (Heap.get?_push_size _ rfl))
  have g1 : (gz4Z s.heap o1 o2 o3 o4).get? s.heap.objs.size = some o1 := Heap.get?_push_of_some _ (Heap.get?_push_of_some _ (Heap.get?_push_of_some _ (Heap.get?_push_of_some _ (Heap.get?_push_of_some _ (Heap.get?_push_of_some _ (Heap.get?_push_size _ f1))))))
  have g2 : (gz4Z s.heap o1 o2 o3 o4).get? (s.heap.push o1).objs.size = some o2 := Heap.get?_push_of_some _ (Heap.get?_push_of_some _ (Heap.get?_push_of_some _ (Heap.get?_push_of_some _ (Heap.get?_push_of_some _ (Heap.get?_push_size _ f2)))))
  have g3 : (gz4Z s.heap o1 o2 o3 o4).get? ((s.heap.push o1).push o2).objs.size = some o3 := Heap.get?_push_of_some _ (Heap.get?_push_of_some _ (Heap.get?_push_of_some _ (Heap.get?_push_of_some _ (Heap.get?_push_size _ f3))))
  have g4 : (gz4Z s.heap o1 o2 o3 o4).get? (((s.heap.push o1).push o2).push o3).objs.size = some o4 := Heap.get?_push_of_some _ (Heap.get?_push_of_some _ (Heap.get?_push_of_some _ (Heap.get?_push_size _ f4)))
  rw [zO, zT, z4] at gZ
  rw [zT] at gO
  rw [z4, z3, z2, z1] at gT
  rw [z1] at g2
  rw [z2] at g3
  rw [z3] at g4
  have hk : ∀ c' o, s.heap.get? c' = some o → (gz4Z s.heap o1 o2 o3 o4).get? c' = some o := fun c' o e => Heap.get?_push_of_some _ (Heap.get?_push_of_some _ (Heap.get?_push_of_some _ (Heap.get?_push_of_some _ (Heap.get?_push_of_some _ (Heap.get?_push_of_some _ (Heap.get?_push_of_some _ e))))))
  generalize gz4Z s.heap o1 o2 o3 o4 = h' at *
  show _ ∧ _
  rw [zO]
  refine ⟨⟨_, gZ, rfl⟩, hQ h' ⟨⟨gT, fun j l hj => ?_, fun j l zs hj hx => (hl j l zs hj hx).at fun o e => hk _ o e, fun j l hj => ?_, rfl, rfl⟩, .inl ⟨gZ, [.none, .none, .none, .none], gO, rfl⟩⟩ (held_none gZ) hk (by rw [zZ]; exact Nat.le_add_right _ _)⟩
  · match j, hj with
    | 0, hj => cases hj; exact c1 _ g1
    | 1, hj => cases hj; exact c2 _ g2
    | 2, hj => cases hj; exact c3 _ g3
    | 3, hj => cases hj; exact c4 _ g4
    | j + 4, hj => simp at hj
  · obtain ⟨vs, hz⟩ : ∃ vs, [xs, ys, zs, us][j]? = some vs := ⟨_, List.getElem?_eq_getElem (by have := (List.getElem?_eq_some_iff.mp hj).1; simpa using this)⟩
    exact isList_lt (hl j l vs hj hz)
end L2

namespace L2
open PySem PySem.Spec PyProof.Rows
/-- the rows of a zip -/
def zipR {α : Type} : List (List α) → List (List α)
  | [] => []
  | [xs] => xs.map fun x => [x]
  | xs :: ys :: r => List.zipWith (fun x t => x :: t) xs (zipR (ys :: r))
theorem zipR_row {α : Type} : ∀ (xss : List (List α)) (i : Nat) (r : List α), (zipR xss)[i]? = some r → r.length = xss.length ∧ ∀ (j : Nat) (xs : List α), xss[j]? = some xs → xs[i]? = r[j]?
  | [], i, r, h => by simp [zipR] at h
  | [xs], i, r, h => by
    simp only [zipR, List.getElem?_map] at h
    cases e : xs[i]? with
    | none => rw [e] at h; cases h
    | some x =>
      rw [e] at h
      cases h
      refine ⟨rfl, fun j ys hj => ?_⟩
      match j, hj with
      | 0, hj => cases hj; exact e
      | j + 1, hj => simp at hj
  | xs :: ys :: rest, i, r, h => by
    simp only [zipR, List.getElem?_zipWith] at h
    cases e : xs[i]? with
    | none => rw [e] at h; simp at h
    | some x =>
      cases e2 : (zipR (ys :: rest))[i]? with
      | none => rw [e, e2] at h; simp at h
      | some t =>
        rw [e, e2] at h
        simp at h
        subst h
        obtain ⟨h1, h2⟩ := zipR_row (ys :: rest) i t e2
        refine ⟨by simp [h1], fun j zs hj => ?_⟩
        match j, hj with
        | 0, hj => cases hj; exact e
        | j + 1, hj => exact h2 j zs hj
theorem zipR_fin {α : Type} : ∀ (xss : List (List α)), xss ≠ [] → ∃ m, m < xss.length ∧ (∀ (j : Nat) (xs : List α), j < m → xss[j]? = some xs → (zipR xss).length < xs.length) ∧ ∀ xs : List α, xss[m]? = some xs → xs.length ≤ (zipR xss).length
  | [], h => absurd rfl h
  | [xs], _ => ⟨0, by simp, fun j _ hj => absurd hj (Nat.not_lt_zero _), fun ys h => by cases h; simp [zipR]⟩
  | xs :: ys :: rest, _ => by
    obtain ⟨m, h1, h2, h3⟩ := zipR_fin (ys :: rest) (by simp)
    have hl : (zipR (xs :: ys :: rest)).length = min xs.length (zipR (ys :: rest)).length := by simp [zipR]
    by_cases hc : xs.length ≤ (zipR (ys :: rest)).length
    · refine ⟨0, by simp, fun j _ hj => absurd hj (Nat.not_lt_zero _), fun zs h => ?_⟩
      cases h
      rw [hl]; omega
    · refine ⟨m + 1, by simpa using h1, fun j zs hj h => ?_, fun zs h => ?_⟩
      · rw [hl]
        match j, h with
        | 0, h => cases h; omega
        | j + 1, h => have := h2 j zs (by omega) h; omega
      · rw [hl]
        have := h3 zs h
        omega
theorem zrows_R {xss : List (List Value)} {n : Nat} (hn : xss.length = n) (h0 : 0 < n) : ZRows n xss (zipR xss) := by
  subst hn
  exact ⟨zipR_row xss, zipR_fin xss (List.length_pos_iff.mp h0)⟩
theorem vals_zipR : ∀ {xss : List (List V)} {uss : List (List Value)}, Paired Vals xss uss → Paired Vals (zipR xss) (zipR uss)
  | _, _, .nil => .nil
  | _, _, .cons (a := xs) (b := us) r .nil => by
    simp only [zipR]
    induction r with
    | nil => exact .nil
    | cons r t ih => exact .cons (.cons r .nil) ih
  | _, _, .cons (a := xs) (b := us) r (.cons (a := ys) (b := vs) (l₁ := xr) (l₂ := ur) r2 t) => by
    have h := vals_zipR (.cons r2 t)
    simp only [zipR]
    generalize zipR (ys :: xr) = A at h
    generalize zipR (vs :: ur) = B at h
    clear t r2
    induction r generalizing A B with
    | nil => simpa using Paired.nil
    | cons r t ih =>
      cases h with
      | nil => simpa using Paired.nil
      | cons r2 t2 => exact .cons (.cons r r2) (ih _ _ t2)
/-- new tuples laid one behind the other -/
def laidT : Hp → List (List V) → List Addr → Hp
  | H, r :: rs, T :: Ts => laidT (upd H T (.tup r)) rs Ts
  | H, _, _ => H
theorem laidT_old : ∀ {rs : List (List V)} {Ts : List Addr} {H : Hp} {b : Addr}, b ∉ Ts → laidT H rs Ts b = H b
  | [], [], H, b, _ => rfl
  | [], T :: Ts, H, b, _ => rfl
  | r :: rs, [], H, b, _ => rfl
  | r :: rs, T :: Ts, H, b, h => by
    have h1 : b ≠ T := fun e => h (by rw [e]; exact List.mem_cons_self)
    have h2 : b ∉ Ts := fun e => h (List.mem_cons_of_mem _ e)
    show laidT (upd H T (.tup r)) rs Ts b = H b
    rw [laidT_old h2, upd_ne h1]
theorem laidT_at : ∀ {rs : List (List V)} {Ts : List Addr} {H : Hp} {j : Nat} {T : Addr} {r : List V}, Ts.Nodup → Ts[j]? = some T → rs[j]? = some r → laidT H rs Ts T = some (.tup r)
  | [], Ts, H, j, T, r, _, _, h => by simp at h
  | r :: rs, [], H, j, T, r', _, h, _ => by simp at h
  | r :: rs, T :: Ts, H, 0, T', r', nd, h, h' => by
    cases h
    cases h'
    obtain ⟨n1, n2⟩ := List.nodup_cons.mp nd
    show laidT (upd H T (.tup r)) rs Ts T = _
    rw [laidT_old n1, upd_same]
  | r :: rs, T :: Ts, H, j + 1, T', r', nd, h, h' => by
    obtain ⟨n1, n2⟩ := List.nodup_cons.mp nd
    exact laidT_at (H := upd H T (.tup r)) (j := j) n2 (by simpa using h) (by simpa using h')
section
variable {X : Cx} {pins : List (Addr × Obj)} {σ : St} {H H' : Hp} {s : Shared} {h' : Heap}
/-- new objects, laid and tracked at once -/
theorem Inv.many {t' : Nat} (I : Inv X pins σ H s) (k : ∀ b u, s.heap.get? b = some u → h'.get? b = some u) (sub : ∀ b o, H b = some o → H' b = some o) (new : ∀ b o, H b = none → H' b = some o → s.heap.get? b = none) (ok : ∀ b o, H b = none → H' b = some o → ObjOk X.prog X.w H' h' b o) :
    Inv X pins σ H' { s with heap := h', toks := t' } := by
  refine I.un ⟨fun b u q _ _ _ => k b u q, fun b u q _ _ _ => ⟨u.slots, k b u q⟩, fun b u q n _ => ?_, fun b u q _ => ⟨u, k b u q⟩, fun b xs q => sub _ _ q, fun b o u q => sub _ _ q, fun b ps q => ⟨#[], by rw [sub _ _ q]; simp⟩⟩ fun b o q => ?_
  · cases e : H' b with
    | none => rfl
    | some o => rw [new b o n e] at q; cases q
  · cases e : H b with
    | none => exact ok b o e q
    | some o' =>
      have := sub b o' e
      rw [q] at this
      cases this
      exact (I.hok b o e).stay (fun c v _ q => k c v q) (fun c q => sub _ _ q) fun c xs q => sub _ _ q
/-- list(zip(..)) of n lists -/
def tLstZ (K : PySem.W.Frag) (n : Nat) (t : TA) : TE := fun σ H Q => t σ H fun vs H1 => ∃ (as : List Addr) (xss : List (List V)), vs = as.map V.ref ∧ as.length = n ∧ xss.length = n ∧
  (∀ (j : Nat) (a : Addr) (xs : List V), as[j]? = some a → xss[j]? = some xs → SqL K H1 a xs) ∧
  ∀ Ts : List Addr, Ts.length = (zipR xss).length → Ts.Nodup → (∀ T ∈ Ts, H1 T = none) → ∀ q, q ∉ Ts → H1 q = none → Q (.ref q) (upd (laidT H1 (zipR xss) Ts) q (.lst (Ts.map V.ref)))
theorem valsRefs1 : ∀ {as : List Addr} {us : List Value}, Vals (as.map V.ref) us → us = as.map Value.ref
  | [], _, .nil => rfl
  | a :: as, _, .cons r t => by
    rw [valsRefs1 t, (show _ = Value.ref a from r)]
    rfl
theorem refsVals1 : ∀ (as : List Addr), Vals (as.map V.ref) (as.map Value.ref)
  | [] => .nil
  | a :: as => .cons rfl (refsVals1 as)
theorem lists_of (I : Inv X pins σ H s) : ∀ {as : List Addr} {xss : List (List V)}, as.length = xss.length → (∀ (j : Nat) (a : Addr) (xs : List V), as[j]? = some a → xss[j]? = some xs → SqL X.K H a xs) →
    ∃ uss : List (List Value), Paired Vals xss uss ∧ (∀ (j : Nat) (a : Addr) (us : List Value), as[j]? = some a → uss[j]? = some us → s.heap.IsList a us.toArray) ∧ ∀ us ∈ uss, us.length ≤ sizeLine
  | [], [], _, _ => ⟨[], .nil, fun j a us h => by simp at h, fun _ h => nomatch h⟩
  | [], _ :: _, h, _ => by simp at h
  | _ :: _, [], h, _ => by simp at h
  | a :: as, xs :: xss, h, hs => by
    obtain ⟨uss, h1, h2, h3⟩ := lists_of I (as := as) (xss := xss) (by simpa using h) fun j b ys e1 e2 => hs (j + 1) b ys e1 e2
    obtain ⟨us, r, pl, hz⟩ := I.list (hs 0 a xs rfl rfl)
    refine ⟨us :: uss, .cons r h1, fun j b vs e1 e2 => ?_, fun vs hv => ?_⟩
    · match j, e1, e2 with
      | 0, e1, e2 => cases e1; cases e2; exact pl.isList
      | j + 1, e1, e2 => exact h2 j b vs e1 e2
    · rcases List.mem_cons.mp hv with e | e
      · rw [e, ← r.length]; exact hz
      · exact h3 vs e
theorem pairedLen {α β : Type} {R : α → β → Prop} {l : List α} {m : List β} (h : Paired R l m) : l.length = m.length := Paired.length h
theorem paired_at {α β : Type} {R : α → β → Prop} : ∀ {l : List α} {m : List β} {j : Nat} {b : β}, Paired R l m → m[j]? = some b → ∃ a, l[j]? = some a ∧ R a b
  | _, _, _, _, .nil, h => by simp at h
  | _, _, 0, _, .cons r _, h => by cases h; exact ⟨_, rfl, r⟩
  | _, _, j + 1, b, .cons _ t, h => paired_at (j := j) t (by simpa using h)
theorem pe_listZ {n : Nat} {e : Expr} {es : List Expr} {t : TA} {p p2 pos pos2 : Pos} (B : ZipB n) (h0 : 0 < n) (hnz : n ≤ 100) (hc : X.calm = true) (hg : Gl X "list") (hm : X.mg "list" = none) (hg2 : Gl X "zip") (hm2 : X.mg "zip" = none) (ha : PA X (e :: es) t)
    (na : starEach [Expr.Call (.Name "zip" p2) (e :: es) [] pos2] X.env = (false, eval (.Call (.Name "zip" p2) (e :: es) [] pos2) X.env) :: starEach [] X.env := by rfl)
    (he : starEach (e :: es) X.env = (false, eval e X.env) :: starEach es X.env := by rfl) (hpl : (backTo pos2 (starEach es X.env)).any (·.1) = false := by rfl) :
    PE X (.Call (.Name "list" p) [.Call (.Name "zip" p2) (e :: es) [] pos2] [] pos) (tLstZ X.K n t) := by
  refine ⟨fun pins s σ H Q I h => ?_⟩
  refine Call_ (ld_blt I hg hm boot_list (PyProof.Rows.callWith_type1 (args_cons ?_ na) na))
  refine Call_ (ld_blt I hg2 hm2 PyProof.Rows.boot_zip (PyProof.Rows.callWith_type1 (thn (ha.run pos2 pins s σ H _ I h) fun us s1 ⟨vs, H1, I1, r1, q1⟩ => ?_) he hpl))
  obtain ⟨as, xss, rfl, hal, hxl, hs, q⟩ := q1
  rw [valsRefs1 r1]
  obtain ⟨uss, pu, hl, hz⟩ := lists_of I1 (by omega) hs
  have hul : uss.length = n := by rw [← pairedLen pu, hxl]
  refine B _ _ _ _ s1 as uss _ hal hul hl fun h1 zst hfree hk1 hsz => ?_
  refine args_nil ?_
  have hrows := vals_zipR pu
  have hlen : (zipR uss).length ≤ sizeLine := by
    obtain ⟨m, m1, m2, m3⟩ := zipR_fin uss (fun e => by rw [e] at hul; simp at hul; omega)
    by_cases hm : m = 0
    · obtain ⟨us, hus⟩ : ∃ us, uss[0]? = some us := ⟨_, List.getElem?_eq_getElem (by omega)⟩
      cases hr : (zipR uss) with
      | nil => rw [sizeLine_eq]; simp
      | cons r rs =>
        have hlast : (zipR uss)[(zipR uss).length - 1]? = some ((zipR uss)[(zipR uss).length - 1]'(by rw [hr]; simp)) := List.getElem?_eq_getElem _
        obtain ⟨k1, k2⟩ := zipR_row uss _ _ hlast
        have k3 := k2 0 us hus
        have k4 : us[(zipR uss).length - 1]? ≠ none := by
          rw [k3]
          intro z
          have := List.getElem?_eq_none_iff.mp z
          omega
        have k5 : (zipR uss).length - 1 < us.length := by
          rcases Nat.lt_or_ge ((zipR uss).length - 1) us.length with z | z
          · exact z
          · exact absurd (List.getElem?_eq_none z) k4
        have k6 := hz us (List.mem_of_getElem? hus)
        rw [← hr]
        omega
    · obtain ⟨us, hus⟩ : ∃ us, uss[0]? = some us := ⟨_, List.getElem?_eq_getElem (by omega)⟩
      have := m2 0 us (by omega) hus
      have k6 := hz us (List.mem_of_getElem? hus)
      omega
  refine zl_call (N := s1.heap.objs.size) (n := n) (I1.ok.hd hc) h0 hnz (zrows_R hul h0) hlen zst hfree fun h' tk acc c Ts hk hS hTl hG hacc => ?_
  have nd : Ts.Nodup := hG.nd.imp fun hab e => by rw [e] at hab; exact Nat.lt_irrefl _ hab
  have hSn : h1.objs.size ∉ Ts := fun hm => Nat.lt_irrefl _ (hG.above _ hm)
  have up : ∀ b o, s1.heap.get? b = some o → h'.get? b = some o := fun b o e => hk b o (Heap.lt_size e) (hk1 b o e)
  have fr : ∀ b, @LE.le Nat instLENat s1.heap.objs.size b → s1.heap.get? b = none := fun b hb => by
    cases e : s1.heap.get? b with
    | none => rfl
    | some o => exact absurd (Nat.lt_of_lt_of_le (Heap.lt_size e) hb) (Nat.lt_irrefl _)
  have hTn : ∀ T ∈ Ts, H1 T = none := fun T hT => I1.hok.fresh (Nat.le_trans hsz (Nat.le_of_lt (hG.above T hT)))
  have hSn2 : H1 h1.objs.size = none := I1.hok.fresh hsz
  refine ⟨.ref h1.objs.size, upd (laidT H1 (zipR xss) Ts) h1.objs.size (.lst (Ts.map V.ref)), ?_, rfl, q Ts (by rw [hTl, pairedLen hrows]) nd hTn _ hSn hSn2⟩
  show Inv X pins σ _ { s1 with heap := h', toks := tk }
  refine Inv.many (t' := tk) I1 up (fun b o e => ?_) (fun b o e1 e2 => ?_) fun b o e1 e2 => ?_
  · have b1 : b ≠ h1.objs.size := ne_of_none e hSn2
    have b2 : b ∉ Ts := fun hb => by rw [hTn b hb] at e; cases e
    rw [upd_ne b1, laidT_old b2]
    exact e
  · by_cases b1 : b = h1.objs.size
    · rw [b1]; exact fr _ hsz
    · rw [upd_ne b1] at e2
      by_cases b2 : b ∈ Ts
      · exact fr _ (Nat.le_trans hsz (Nat.le_of_lt (hG.above b b2)))
      · rw [laidT_old b2, e1] at e2; cases e2
  · by_cases b1 : b = h1.objs.size
    · subst b1
      rw [upd_same] at e2
      cases e2
      refine ⟨by rw [List.length_map, hTl]; exact hlen, acc.toList, c, ?_, by rw [Array.toArray_toList]; exact hS⟩
      rw [hacc]
      exact refsVals1 Ts
    · rw [upd_ne b1] at e2
      by_cases b2 : b ∈ Ts
      · obtain ⟨j, hj⟩ := List.mem_iff_getElem?.mp b2
        obtain ⟨r, hr, ht⟩ := hG.tup j b hj
        obtain ⟨rv, hrv, pv⟩ := paired_at hrows hr
        rw [laidT_at nd hj hrv] at e2
        cases e2
        refine ⟨?_, r, pv, _, ht, rfl, _, rfl⟩
        rw [pv.length, (zipR_row uss j r hr).1, hul, sizeLine_eq]
        omega
      · rw [laidT_old b2, e1] at e2; cases e2
end
end L2
namespace Pv
open PySem L2
section
variable {cn : Cn}
def lstsD : List D → Option (List (List D))
  | [] => some []
  | .lst _ xs :: r => if isFL xs then (lstsD r).map (xs :: ·) else none
  | _ :: _ => none
/-- list(zip(..)) -/
@[simp] def dZipL (o : Bool) (ds : List D) : Option D := (lstsD ds).map fun xss => .lst o ((zipR xss).map .tup)
theorem RepL.uncons {G : Addr → Prop} {H : Hp} {x : D} {xs : List D} {us : List V} (r : RepL cn G H (x :: xs) us []) : ∃ u us', us = u :: us' ∧ Rep cn G H x u [] ∧ RepL cn G H xs us' [] := by
  simp only [RepL] at r
  obtain ⟨v, r', S1, S2, e1, e2, q1, q2⟩ := r
  have e3 : S1 = [] ∧ S2 = [] := by simpa using e2.symm
  obtain ⟨e3, e4⟩ := e3
  subst e3 e4
  exact ⟨v, r', e1, q1, q2⟩
theorem RepL.unnil {G : Addr → Prop} {H : Hp} {us : List V} (r : RepL cn G H [] us []) : us = [] := by
  simp only [RepL] at r
  exact r.1
theorem RepL.cons0 {G : Addr → Prop} {H : Hp} {x : D} {xs : List D} {u : V} {us : List V} (r : Rep cn G H x u []) (t : RepL cn G H xs us []) : RepL cn G H (x :: xs) (u :: us) [] := by
  simp only [RepL]
  exact ⟨u, us, [], [], rfl, rfl, r, t⟩
theorem lstsD_rep {G : Addr → Prop} {H : Hp} : ∀ {ds : List D} {vs : List V} {xss : List (List D)}, RepW cn G H ds vs → lstsD ds = some xss → (∀ xs ∈ xss, isFL xs = true) ∧ ∃ (as : List Addr) (vss : List (List V)), vs = as.map V.ref ∧ as.length = ds.length ∧ vss.length = ds.length ∧
    (∀ (j : Nat) (a : Addr) (xs : List V), as[j]? = some a → vss[j]? = some xs → SqL cn.K H a xs) ∧ Paired (fun xs us => RepL cn G H xs us []) xss vss
  | [], vs, xss, r, e => by
    cases e
    simp only [RepW] at r
    subst r
    exact ⟨(fun _ h => nomatch h), [], [], rfl, rfl, rfl, fun j a xs h => by simp at h, .nil⟩
  | d :: ds, vs, xss, r, e => by
    simp only [RepW] at r
    obtain ⟨v, vs', U, ev, r1, r2⟩ := r
    subst ev
    cases d <;> simp only [lstsD] at e <;> try (cases e; done)
    rename_i o xs
    split at e
    · rename_i hf
      cases e2 : lstsD ds with
      | none => rw [e2] at e; cases e
      | some yss =>
        rw [e2] at e
        cases e
        obtain ⟨hff, as, vss, ev, h1, h2, h3, h4⟩ := lstsD_rep r2 e2
        simp only [Rep] at r1
        obtain ⟨a, us, T, e1, ha, rl, _⟩ := r1
        subst e1 ev
        refine ⟨fun ys hy => ?_, a :: as, us :: vss, rfl, by simp [h1], by simp [h2], fun j b ys q1 q2 => ?_, .cons (rl.nilAll hf) h4⟩
        · rcases List.mem_cons.mp hy with e | e
          · rw [e]; exact hf
          · exact hff ys e
        · match j, q1, q2 with
          | 0, q1, q2 => cases q1; cases q2; exact .inl (.inl ha)
          | j + 1, q1, q2 => exact h3 j b ys q1 q2
    · cases e
theorem zipR_rep {G : Addr → Prop} {H : Hp} : ∀ {xss : List (List D)} {vss : List (List V)}, Paired (fun xs us => RepL cn G H xs us []) xss vss → Paired (fun xs us => RepL cn G H xs us []) (zipR xss) (zipR vss)
  | _, _, .nil => .nil
  | _, _, .cons (a := xs) (b := us) r .nil => by
    simp only [zipR]
    induction xs generalizing us with
    | nil =>
      have := r.unnil
      subst this
      exact .nil
    | cons x xs ih =>
      obtain ⟨u, us', e, q1, q2⟩ := r.uncons
      subst e
      exact .cons (.cons0 q1 (by simp [RepL])) (ih us' q2)
  | _, _, .cons (a := xs) (b := us) r (.cons (a := ys) (b := vs) (l₁ := xr) (l₂ := ur) r2 t) => by
    have h := zipR_rep (.cons r2 t)
    simp only [zipR]
    generalize zipR (ys :: xr) = A at h
    generalize zipR (vs :: ur) = B at h
    clear t r2
    induction xs generalizing us A B with
    | nil =>
      have := r.unnil
      subst this
      simpa using Paired.nil
    | cons x xs ih =>
      obtain ⟨u, us', e, q1, q2⟩ := r.uncons
      subst e
      cases h with
      | nil => simpa using Paired.nil
      | cons r2 t2 => exact .cons (.cons0 q1 r2) (ih us' q2 _ _ t2)
theorem zipR_isFL : ∀ {xss : List (List D)}, (∀ xs ∈ xss, isFL xs = true) → ∀ r ∈ zipR xss, isFL r = true
  | [], _, r, h => by simp [zipR] at h
  | [xs], hf, r, h => by
    simp only [zipR, List.mem_map] at h
    obtain ⟨x, hx, rfl⟩ := h
    have := isFL_iff.mp (hf xs (by simp)) x hx
    simp [isFL, this]
  | xs :: ys :: rest, hf, r, h => by
    have ih := zipR_isFL (xss := ys :: rest) fun zs hz => hf zs (List.mem_cons_of_mem _ hz)
    simp only [zipR] at h
    obtain ⟨i, hi⟩ := List.mem_iff_getElem?.mp h
    rw [List.getElem?_zipWith] at hi
    cases e : xs[i]? with
    | none => rw [e] at hi; simp at hi
    | some x =>
      cases e2 : (zipR (ys :: rest))[i]? with
      | none => rw [e, e2] at hi; simp at hi
      | some t =>
        rw [e, e2] at hi
        simp at hi
        subst hi
        have h1 := isFL_iff.mp (hf xs (by simp)) x (List.mem_of_getElem? e)
        have h2 := ih t (List.mem_of_getElem? e2)
        simp [isFL, h1, h2]
theorem RR.newTups {en : Ent} {fr : List (V × D)} {ps : PS} {σ : L2.St} : ∀ (rd : List (List D)) (rv : List (List V)) (Ts : List Addr) (G : Addr → Prop) (H : Hp), (∀ r ∈ rd, isFL r = true) → Paired (fun xs us => RepL cn G H xs us []) rd rv → Ts.length = rv.length → Ts.Nodup → (∀ T ∈ Ts, H T = none) → RR cn en G fr ps σ H →
    ∃ G', (∀ a, G a → G' a) ∧ RR cn en G' fr ps σ (laidT H rv Ts) ∧ RepL cn G' (laidT H rv Ts) (rd.map .tup) (Ts.map V.ref) []
  | [], [], [], G, H, _, _, hl, _, _, R => ⟨G, fun _ z => z, R, by simp [RepL]⟩
  | [], [], T :: Ts, G, H, _, _, hl, _, _, R => by simp at hl
  | [], _ :: _, Ts, G, H, _, p, hl, _, _, R => nomatch p
  | _ :: _, [], Ts, G, H, _, p, hl, _, _, R => nomatch p
  | _ :: _, _ :: _, [], G, H, _, p, hl, _, _, R => by simp at hl
  | xs :: rd, us :: rv, T :: Ts, G, H, hf, p, hl, nd, hn, R => by
    obtain ⟨n1, n2⟩ := List.nodup_cons.mp nd
    have hT := hn T List.mem_cons_self
    cases p with
    | cons r t =>
    obtain ⟨G1, g1, R1⟩ := R.newTup hT r
    have s1 : Same H (upd H T (.tup us)) := fun b x e => by rw [upd_ne (ne_of_none e hT)]; exact e
    have t2 : Paired (fun xs vs => RepL cn G1 (upd H T (.tup us)) xs vs []) rd rv := L2.Paired.mapP t fun a b q => q.same R.dom s1 g1
    have hn2 : ∀ T' ∈ Ts, upd H T (.tup us) T' = none := fun T' h' => by
      have hne : T' ≠ T := fun e => n1 (by rw [← e]; exact h')
      rw [upd_ne hne]
      exact hn T' (List.mem_cons_of_mem _ h')
    obtain ⟨G2, g2, R2, rl⟩ := RR.newTups rd rv Ts _ _ (fun r hr => hf r (List.mem_cons_of_mem _ hr)) t2 (by simpa using hl) n2 hn2 R1
    obtain ⟨U2, q2⟩ := R2.view
    have hU : U2 = [] := q2.nil _ _ _ (by simp only [D.isF]; exact hf xs List.mem_cons_self)
    subst hU
    exact ⟨G2, fun a z => g2 a (g1 a z), R2.drop, RepL.cons0 q2 rl⟩
theorem lstsD_len : ∀ {ds : List D} {xss : List (List D)}, lstsD ds = some xss → xss.length = ds.length
  | [], xss, e => by cases e; rfl
  | d :: ds, xss, e => by
    cases d <;> simp only [lstsD] at e <;> try (cases e; done)
    split at e
    · cases e2 : lstsD ds with
      | none => rw [e2] at e; cases e
      | some yss => rw [e2] at e; cases e; simp [lstsD_len e2]
    · cases e
theorem qAs_len : ∀ {as : List QE} {ps : PS} {xs : List D}, qAs as ps = some xs → xs.length = as.length
  | [], ps, xs, e => by simp only [qAs, Option.some.injEq] at e; subst e; rfl
  | a :: as, ps, xs, e => by
    simp only [qAs] at e
    cases ea : a ps with
    | none => rw [ea] at e; cases e
    | some x =>
      rw [ea] at e
      simp only [Option.bind_some] at e
      cases er : qAs as ps with
      | none => rw [er] at e; cases e
      | some ys => rw [er] at e; cases e; simp [qAs_len er]
theorem laidT_same {H : Hp} {rs : List (List V)} {Ts : List Addr} (h : ∀ T ∈ Ts, H T = none) : Same H (laidT H rs Ts) := fun b x e => by
  rw [laidT_old (fun hb => by rw [h b hb] at e; cases e)]
  exact e
theorem gd_listZ {n : Nat} {o : Bool} {t : TA} {as : List QE} (ha : GdA cn t (qAs as)) (hn : as.length = n) : GdQ cn (tLstZ cn.K n t) (qCall (dZipL o) as) := fun en G fr ps σ H d Q R e k => by
  unfold qCall at e
  cases ea : qAs as ps with
  | none => rw [ea] at e; cases e
  | some ds =>
    rw [ea] at e
    simp only [Option.bind_some, dZipL] at e
    cases el : lstsD ds with
    | none => rw [el] at e; cases e
    | some xss =>
      rw [el] at e
      cases e
      refine ha en G fr ps σ H ds _ R ea fun vs H1 G1 s1 g1 R1 rw1 => ?_
      obtain ⟨hf, as', vss, rfl, h1, h2, h3, h4⟩ := lstsD_rep rw1 el
      have hl := qAs_len ea
      refine ⟨as', vss, rfl, by omega, by omega, h3, fun Ts hT nd hTn q hq hqn => ?_⟩
      obtain ⟨G2, g2, R2, rl⟩ := RR.newTups _ _ _ _ _ (zipR_isFL hf) (zipR_rep h4) hT nd hTn R1
      have hq2 : laidT H1 (zipR vss) Ts q = none := by rw [laidT_old hq]; exact hqn
      obtain ⟨G3, g3, R3⟩ := R2.newLst o hq2 rl
      exact k _ _ G3 (s1.trans ((laidT_same hTn).trans fun b x e => by rw [upd_ne (ne_of_none e hq2)]; exact e)) (fun a z => g3 a (g2 a (g1 a z))) R3
end
end Pv

/-! Snd13: is True, xs * n, a < b of texts, sum of a tuple. -/
namespace Pv
open PySem L2 PySem.Spec PyProof.Rows
noncomputable section
variable {cn : Cn}
/-- x is True -/
@[simp] def dIsB (x y : D) : Option D := match x, y with
  | .bl a, .bl b => some (.bl (decide (a = b)))
  | _, _ => none
@[simp] def dNotB (x y : D) : Option D := match x, y with
  | .bl a, .bl b => some (.bl (!decide (a = b)))
  | _, _ => none
theorem o2_isB : Op2 cn rIsB dIsB := Op2V.op (fun G H x y a b U W d Q r1 r2 e k => by
  cases a <;> cases b <;> simp only [dIsB] at e <;> cases e
  obtain rfl := rep_bl r1
  obtain rfl := rep_bl r2
  exact ⟨_, _, rfl, rfl, k _ [] (atV_rep rfl)⟩) fun a b d e => by
  cases a <;> cases b <;> simp only [dIsB] at e <;> cases e
  rfl
abbrev rNotB2 : R2 := fun x y H Q => ∃ a b : Bool, x = .bl a ∧ y = .bl b ∧ Q (.bl (!decide (a = b))) H
theorem o2_notB : Op2 cn rNotB2 dNotB := Op2V.op (fun G H x y a b U W d Q r1 r2 e k => by
  cases a <;> cases b <;> simp only [dNotB] at e <;> cases e
  obtain rfl := rep_bl r1
  obtain rfl := rep_bl r2
  exact ⟨_, _, rfl, rfl, k _ [] (atV_rep rfl)⟩) fun a b d e => by
  cases a <;> cases b <;> simp only [dNotB] at e <;> cases e
  rfl
/-- the order of texts -/
def sLt (a b : Str) : Bool := decide (a.cps.toList < b.cps.toList)
@[simp] def dS2 (g : Str → Str → Bool) (x y : D) : Option D := match x, y with
  | .str a, .str b => some (.bl (g a b))
  | _, _ => none
@[simp] def dLtS : D → D → Option D := dS2 sLt
@[simp] def dLeS : D → D → Option D := dS2 fun a b => !sLt b a
@[simp] def dGtS : D → D → Option D := dS2 fun a b => sLt b a
@[simp] def dGeS : D → D → Option D := dS2 fun a b => !sLt a b
abbrev rS (g : Str → Str → Bool) : R2 := fun x y H Q => ∃ i j, x = .str i ∧ y = .str j ∧ Q (.bl (g i j)) H
theorem o2_S (g : Str → Str → Bool) : Op2 cn (rS g) (dS2 g) := Op2V.op (fun G H x y a b U W d Q r1 r2 e k => by
  cases a <;> cases b <;> simp only [dS2] at e <;> cases e
  obtain rfl := rep_str r1
  obtain rfl := rep_str r2
  exact ⟨_, _, rfl, rfl, k _ [] (atV_rep rfl)⟩) fun a b d e => by
  cases a <;> cases b <;> simp only [dS2] at e <;> cases e
  rfl
theorem o2_ltS : Op2 cn (rS sLt) dLtS := o2_S _
theorem o2_leS : Op2 cn (rS fun a b => !sLt b a) dLeS := o2_S _
theorem o2_gtS : Op2 cn (rS fun a b => sLt b a) dGtS := o2_S _
theorem o2_geS : Op2 cn (rS fun a b => !sLt a b) dGeS := o2_S _
theorem opLtS {X : Cx} : OpR X (compareOp .Lt) (rS sLt) := op_lt_str
theorem opLeS {X : Cx} : OpR X (compareOp .LtE) (rS fun a b => !sLt b a) := op_le_str
theorem opGtS {X : Cx} : OpR X (compareOp .Gt) (rS fun a b => sLt b a) := op_gt_str
theorem opGeS {X : Cx} : OpR X (compareOp .GtE) (rS fun a b => !sLt a b) := op_ge_str
/-- a * b: ints, a list and an int -/
@[simp] def dMulA (x y : D) : Option D := match x, y with
  | .int i, .int j => if i.natAbs < 2 ^ 64 ∨ j.natAbs < 2 ^ 64 then some (.int (i * j)) else none
  | .lst _ xs, .int n => if isFL xs ∧ small n ∧ xs.length * n.toNat < cap then some (.lst false (List.replicate n.toNat xs).flatten) else none
  | _, _ => none
abbrev rMulA : R2 := fun x y H Q => (rI CMul fun i j => V.int (i * j)) x y H Q ∨ rRep x y H Q
theorem opMulA {X : Cx} : OpR X (binaryOp .Mult) rMulA := op_mul.or op_rep
theorem isFL_rep {xs : List D} (h : isFL xs = true) : ∀ n : Nat, isFL (List.replicate n xs).flatten = true
  | 0 => rfl
  | n + 1 => by rw [List.replicate_succ, List.flatten_cons, isFL_append, h, isFL_rep h n]; rfl
theorem repL_rep {G : Addr → Prop} {H : Hp} {xs : List D} {vs : List V} (r : RepL cn G H xs vs []) : ∀ n : Nat, RepL cn G H (List.replicate n xs).flatten (List.replicate n vs).flatten []
  | 0 => by simp [RepL]
  | n + 1 => by
    rw [List.replicate_succ, List.replicate_succ, List.flatten_cons, List.flatten_cons]
    exact RepL.append r (repL_rep r n)
theorem o2_mulA : Op2 cn rMulA dMulA := fun en G fr ps σ H x y a b U W d Q R r1 r2 e k => by
  cases a <;> cases b <;> simp only [dMulA] at e <;> try (cases e; done)
  · rename_i i j
    exact .inl (o2_mul en G fr ps σ H x y (.int i) (.int j) U W d Q R r1 r2 e k)
  · rename_i o xs n
    split at e
    · rename_i hc
      obtain ⟨hf, hs, hl⟩ := hc
      cases e
      obtain rfl := rep_int r2
      simp only [Rep] at r1
      obtain ⟨p, vs, T, e1, h1, l1, _⟩ := r1
      have l2 := l1.nilAll hf
      unfold small at hs
      have hcap := cap_le
      refine .inr ⟨p, n, vs, e1, rfl, h1, by omega, by omega, by rw [← l1.length]; omega, fun q hq => ?_⟩
      obtain ⟨G4, g4, R4⟩ := R.newLst false hq (repL_rep l2 n.toNat)
      exact k _ _ G4 (fun b x e => by rw [upd_ne (ne_of_none e hq)]; exact e) g4 R4
    · cases e
/-- sum of a tuple -/
def rSumT (K : PySem.W.Frag) : List V → Hp → VK → Prop := fun vs H Q => ∃ (a : Addr) (ns : List Int), vs = [V.ref a] ∧ SqT K H a (ns.map V.int) ∧ Q (.int ns.sum) H
theorem crSumT {X : Cx} (hc : X.calm = true) : CallR X (.builtin "sum") (rSumT X.K) := by
  intro pins s σ H vs us Q I r h
  obtain ⟨a, ns, rfl, hs, q⟩ := h
  obtain ⟨its, rv, hl, _⟩ := I.tuple hs
  rw [Vals.ref1 r]
  have hi := rv.ints
  obtain ⟨xs, e⟩ := hi.allInts.items
  have hn : numsOf (intItems xs).toList = ns := by rw [← e]; exact hi.numsOf
  rw [nums_intItems] at hn
  rw [e] at hl
  obtain ⟨ob, ho, hcl, n, hd⟩ := hl
  refine PySem.W.ktm_sumG (I.ok.hd hc) ⟨ob, ho, hcl, n, hd⟩ fun h' tk t' hk => ?_
  rw [preSum_eq, List.take_of_length_le (by simp), hn]
  exact ⟨.int _, H, I.kept hk, ⟨_, rfl⟩, q⟩
@[simp] def dSumA (x : D) : Option D := match x with
  | .lst _ xs => (intsD xs).map fun ns => .int ns.sum
  | .tup xs => (intsD xs).map fun ns => .int ns.sum
  | _ => none
abbrev rSumA (K : PySem.W.Frag) : List V → Hp → VK → Prop := fun xs H Q => rSum K xs H Q ∨ rSumT K xs H Q
theorem sumAK {X : Cx} (K : PySem.W.Frag) (hc : X.calm = true := by rfl) (h : X.K = K := by rfl) : CallR X (.builtin "sum") (rSumA K) := h ▸ (cr_sum hc).or (crSumT hc)
theorem c_sumA : CaN cn (rSumA cn.K) (l1 dSumA) := caN1 fun en G fr ps σ H x a U d Q R r e k => by
  unfold dSumA at e
  split at e
  · rename_i o xs
    cases e1 : intsD xs with
    | none => rw [e1] at e; cases e
    | some ns =>
      rw [e1] at e
      cases e
      simp only [Rep] at r
      obtain ⟨p, vs, T, e2, h1, l1, _⟩ := r
      subst e2
      refine .inl ⟨p, ns, rfl, .inl (.inl ?_), k _ H G (Same.refl H) (fun _ z => z) (R.push (v := .int _) rfl (atV_rep rfl))⟩
      rw [← ints_vs l1 e1]
      exact h1
  · rename_i xs
    cases e1 : intsD xs with
    | none => rw [e1] at e; cases e
    | some ns =>
      rw [e1] at e
      cases e
      obtain ⟨p, vs, e2, _, h1, l1⟩ := tup_rep r
      subst e2
      refine .inr ⟨p, ns, rfl, .inl (.inl ?_), k _ H G (Same.refl H) (fun _ z => z) (R.push (v := .int _) rfl (atV_rep rfl))⟩
      rw [← ints_vs l1 e1]
      exact h1
  · cases e
theorem pe_listZK {X : Cx} (K : PySem.W.Frag) {n : Nat} {e : Expr} {es : List Expr} {t : TA} {p p2 pos pos2 : Pos} (B : ZipB n) (h0 : 0 < n) (hnz : n ≤ 100) (hc : X.calm = true) (hg : Gl X "list") (hm : X.mg "list" = none) (hg2 : Gl X "zip") (hm2 : X.mg "zip" = none) (ha : PA X (e :: es) t)
    (na : starEach [Expr.Call (.Name "zip" p2) (e :: es) [] pos2] X.env = (false, eval (.Call (.Name "zip" p2) (e :: es) [] pos2) X.env) :: starEach [] X.env := by rfl)
    (he : starEach (e :: es) X.env = (false, eval e X.env) :: starEach es X.env := by rfl) (hpl : (backTo pos2 (starEach es X.env)).any (·.1) = false := by rfl) (h : X.K = K := by rfl) :
    PE X (.Call (.Name "list" p) [.Call (.Name "zip" p2) (e :: es) [] pos2] [] pos) (tLstZ K n t) := h ▸ pe_listZ B h0 hnz hc hg hm hg2 hm2 ha na he hpl
@[simp] def dGetF (d y : D) : Option D := (dGet d y).bind fun z => if z.isF then some z else none
theorem gd_dgetS {i : Nat} {ty : TE} {fb : GE} (hb : GdG cn ty fb) : GdG cn (tDGet (tVar i) ty) (g2S dGetF i fb) := by
  intro en G fr ps σ H d ps' Q R e k
  unfold g2S at e
  cases e0 : rd ps i with
  | none => rw [e0] at e; cases e
  | some x0 =>
    rw [e0] at e
    simp only [Option.bind_some] at e
    cases eb : fb ps with
    | none => rw [eb] at e; cases e
    | some y =>
      rw [eb] at e
      simp only [Option.bind_some] at e
      cases e1 : rd y.2 i with
      | none => rw [e1] at e; cases e
      | some x =>
        rw [e1] at e
        simp only [Option.bind_some] at e
        cases eg : dGetF x y.1 with
        | none => rw [eg] at e; cases e
        | some z =>
          rw [eg] at e
          cases e
          obtain ⟨v, U0, hv, _⟩ := R.rd e0
          refine ⟨v, hv, ?_⟩
          refine hb en G fr ps σ H y.1 y.2 _ R eb fun w H2 G2 R2 => ?_
          obtain ⟨W, r2⟩ := R2.view
          obtain ⟨v', U, hv', r1⟩ := R2.rd e1
          rw [hv] at hv'
          cases hv'
          simp only [dGetF] at eg
          cases ed : dGet x y.1 with
          | none => rw [ed] at eg; cases eg
          | some z' =>
            rw [ed] at eg
            simp only [Option.bind_some] at eg
            split at eg
            · rename_i hf
              cases eg
              simp only [dGet] at ed
              split at ed
              · rename_i o t ks ds
                cases eq : keyD t y.1 with
                | none => rw [eq] at ed; cases ed
                | some q =>
                  rw [eq] at ed
                  obtain ⟨a, vs, T, ev, hd, rl, ow⟩ := dic_rep r1
                  obtain ⟨i1, _⟩ := dic_get hd rl eq r2
                  obtain ⟨u, Z, q1, q2⟩ := i1 _ ed
                  exact ⟨a, u, ev, q1, k u H2 G2 (R2.drop.push hf q2)⟩
              · cases ed
            · cases eg
end
end Pv

/-! Snd14: a comprehension over a list that a slot owns. -/
namespace Pv
open PySem L2
noncomputable section
/-- .. the list is moved aside meanwhile, and comes back -/
@[simp] def gCompV (o : Bool) (i : Nat) (t : Tg) (own : List Nat) (ifs : GT) (elt : GE) : GE := fun σ => (rdM σ i).bind fun d => match d with
  | .lst w ds => if isFL ds ∧ i ∉ own then (compP t own ifs elt ds [] (clr own (σ.set i .no))).bind fun r => match σ[i]?, r.2[i]? with
      | some s, some .no => some (.lst o r.1, r.2.set i (s.put (.lst w ds)))
      | _, _ => none
    else none
  | _ => none
section
variable {cn : Cn} {en : Ent} {G G' : Addr → Prop} {H H' : Hp} {fr fr' : List (V × D)} {ps : PS} {σ : L2.St}
theorem lst_any {v : V} {o : Bool} {xs : List D} {U : List Addr} (r : Rep cn G H (.lst o xs) v U) (hf : isFL xs = true) : ∃ a vs, v = .ref a ∧ H a = some (.lst vs) ∧ RepL cn G H xs vs [] := by
  simp only [Rep] at r
  obtain ⟨a, vs, T, e, ha, rl, _⟩ := r
  exact ⟨a, vs, e, ha, rl.nilAll hf⟩
theorem wk_listW {a : Addr} {w : Bool} {xs : List D} (hf : isFL xs = true) : Wk cn (Itl cn.K a) [(.ref a, .lst w xs)] xs := by
  refine ⟨fun en G fr ps σ H i d hd R => ?_, fun en G fr ps σ H R => ?_⟩
  · obtain ⟨U, r⟩ := R.view
    obtain ⟨a', vs, ev, ha, rl⟩ := lst_any r hf
    cases ev
    obtain ⟨v, W, hv, rd, _⟩ := rl.get hd
    refine ⟨⟨vs, v, .inl (.inl ha), hv⟩, fun x H' y => ?_⟩
    obtain ⟨e, q⟩ := y
    subst e
    have := q vs (.inl (.inl ha))
    rw [hv] at this
    cases this
    exact ⟨G, R.push (isFL_get hf hd) rd⟩
  · obtain ⟨U, r⟩ := R.view
    obtain ⟨a', vs, ev, ha, rl⟩ := lst_any r hf
    cases ev
    exact ⟨vs, .inl (.inl ha), by rw [rl.length]; exact Nat.le_refl _⟩
theorem gd_compV {g : TG} {tt : TT} {te : TE} {i : Nat} {t : Tg} {own : List Nat} {ifs : GT} {elt : GE} {o : Bool} (hg : GdTg cn g t) (ht : GdTG cn tt ifs) (he : GdG cn te elt) (hs : ∀ j ∈ t.sl, j ∈ own) :
    GdG cn (tLc (iList cn.K (tVar i)) g tt te own) (gCompV o i t own ifs elt) := fun en G fr ps σ H d ps' Q R e k => by
  unfold gCompV at e
  cases ei : rdM ps i with
  | none => rw [ei] at e; cases e
  | some d0 =>
    rw [ei] at e
    simp only [Option.bind_some] at e
    split at e
    · rename_i w xs
      split at e
      · rename_i hfi
        obtain ⟨hf, hio⟩ := hfi
        cases ec : compP t own ifs elt xs [] (Pv.clr own (ps.set i .no)) with
        | none => rw [ec] at e; cases e
        | some r =>
          rw [ec] at e
          obtain ⟨res, psf⟩ := r
          simp only [Option.bind_some] at e
          split at e
          · rename_i s0 e1 e2
            cases e
            obtain ⟨v0, hv0, R1, _⟩ := R.lend ei
            have hvs : ∀ d0, s0 = .io d0 → en.vs[i]? = some v0 := fun d0 z => by
              subst z
              obtain ⟨v', h1, h2⟩ := RR.ioVs R e1
              rw [hv0] at h1
              cases h1
              exact h2
            obtain ⟨U0, r0⟩ := R1.view
            obtain ⟨a0, vs0, ev0, ha0, rl0⟩ := lst_any r0 hf
            subst ev0
            have wk := wk_listW (cn := cn) (a := a0) (w := w) hf
            obtain ⟨ex, hex⟩ : ∃ ex : List (V × D), ex = [(.ref a0, .lst w xs)] := ⟨_, rfl⟩
            rw [← hex] at wk
            have R1 : RR cn en G (ex ++ fr) (ps.set i .no) σ H := by rw [hex]; exact R1
            refine ⟨.ref a0, hv0, a0, rfl, ⟨vs0, .inl (.inl ha0)⟩, fun Da hDa => ?_⟩
            have cl : ∀ {q : PS}, ∀ j ∈ own, (Pv.clr own q)[j]? = some .no ∨ (Pv.clr own q)[j]? = none := fun j hj => clr_at (.inl hj)
            obtain ⟨G2, _, R2⟩ := (RR.wipe (vs := own) R1.clr cl).newLst (ds := []) (vs := []) true hDa (by simp only [RepL]; exact ⟨trivial, trivial⟩)
            generalize hJ : Itl cn.K a0 = J at wk ⊢
            refine ⟨fun i' m H => m + i' = xs.length ∧ ∃ G psi acc, RR cn en G ((.ref Da, .lst true acc) :: (ex ++ fr)) psi (L2.wipe σ own) H ∧ (∀ j ∈ own, psi[j]? = some .no ∨ psi[j]? = none) ∧ isFL acc = true ∧ compP t own ifs elt (xs.drop i') acc psi = some (res, psf),
              ⟨xs.length, by omega, G2, _, [], R2, cl, rfl, by rw [List.drop_zero]; exact ec⟩, fun i' m H3 hW => ?_⟩
            obtain ⟨hm, G3, psi, acc, R3, hown, hacc, ef⟩ := hW
            have P : ∀ {a b : V × D} {l m : List (V × D)}, (a :: (l ++ m)).Perm (l ++ a :: m) := List.perm_middle.symm
            cases hx : xs[i']? with
            | none =>
              have hl : xs.length ≤ i' := by simpa using hx
              have ei2 : i' = xs.length := by omega
              subst ei2
              rw [List.drop_length, compP] at ef
              cases ef
              refine .inl ⟨wk.2 en G3 _ _ _ H3 (RR.perm List.perm_middle.symm R3), ?_⟩
              have R4 : RR cn en G3 (ex ++ (.ref Da, .lst true res) :: fr) psf σ H3 := RR.unwipe (RR.perm List.perm_middle.symm R3) hown
              rw [hex] at R4
              have R6 : RR cn en G3 ((.ref Da, .lst true res) :: fr) (psf.set i (s0.put (.lst w xs))) σ H3 := RR.giveB R4 e2 hv0 hvs
              cases o with
              | true => exact k _ H3 G3 R6
              | false =>
                obtain ⟨G5, _, R5⟩ := R6.fz
                simp only [D.frz, frzL_id res hacc] at R5
                exact k _ H3 G5 R5
            | some d =>
              have hl : i' < xs.length := (List.getElem?_eq_some_iff.mp hx).1
              rw [drop_get hx, compP] at ef
              obtain ⟨go, yl⟩ := wk.1 en G3 ((.ref Da, .lst true acc) :: fr) psi _ H3 i' d hx (RR.perm List.perm_middle.symm R3)
              cases ep : t.put d (Pv.clr own psi) with
              | none => rw [ep] at ef; cases ef
              | some psa =>
                rw [ep] at ef
                simp only [Option.bind_some] at ef
                cases eb : ifs psa with
                | none => rw [eb] at ef; cases ef
                | some r =>
                  rw [eb] at ef
                  obtain ⟨b, psb⟩ := r
                  simp only [Option.bind_some] at ef
                  refine .inr ⟨go, fun H' => ∃ G psn acc', RR cn en G ((.ref Da, .lst true acc') :: (ex ++ fr)) psn (L2.wipe σ own) H' ∧ (∀ j ∈ own, psn[j]? = some .no ∨ psn[j]? = none) ∧ isFL acc' = true ∧ compP t own ifs elt (xs.drop (i' + 1)) acc' psn = some (res, psf),
                    fun H' ⟨G', psn, acc', q1, q2, q3, q4⟩ => ⟨m - 1, by omega, by omega, G', psn, acc', q1, q2, q3, q4⟩, fun x H' y => ?_⟩
                  obtain ⟨G4, R4⟩ := yl x H' y
                  refine hg en G4 (ex ++ (.ref Da, .lst true acc) :: fr) _ _ H' x d psa _ R4.clr ep fun σ3 es R5 => ?_
                  have ew := wipe_els es hs
                  refine ⟨ew, ?_⟩
                  refine ht en G4 _ psa σ3 H' b psb _ R5 eb fun H5 G5 R6 => ?_
                  cases b with
                  | false =>
                    rw [if_neg (by decide)] at ef ⊢
                    refine ⟨G5, _, acc, ?_, cl, hacc, ef⟩
                    rw [← ew]
                    exact RR.wipe (RR.perm List.perm_middle R6).clr cl
                  | true =>
                    rw [if_pos rfl] at ef ⊢
                    cases ee : elt psb with
                    | none => rw [ee] at ef; cases ef
                    | some r =>
                      rw [ee] at ef
                      obtain ⟨d2, psc⟩ := r
                      simp only [Option.bind_some] at ef
                      split at ef
                      · rename_i hc
                        refine he en G5 _ psb σ3 H5 d2 psc _ R6 ee fun w H6 G6 R7 => ?_
                        have R8 : RR cn en G6 ((.ref Da, .lst true acc) :: (w, d2) :: (ex ++ fr)) psc σ3 H6 :=
                          RR.perm (by
                            refine List.Perm.trans (List.Perm.cons _ List.perm_middle) ?_
                            exact List.Perm.swap _ _ _) R7
                        obtain ⟨U, r⟩ := R8.view
                        obtain ⟨a', vs, T, ev, ha, rl, _⟩ := lst_own r
                        cases ev
                        obtain ⟨W, rw_⟩ := R8.drop.view
                        have eW := Rep.nil _ _ _ hc.1 rw_
                        subst eW
                        refine ⟨vs, ha, by rw [← rl.length]; exact Nat.lt_of_lt_of_le hc.2 cap_le, G6, _, acc ++ [d2], ?_, cl, by rw [isFL_append, hacc]; simp [isFL, hc.1], ef⟩
                        rw [← ew]
                        refine RR.wipe (RR.clr ?_) cl
                        have R9 := R8.wrL (vs' := vs ++ [w]) (ds' := acc ++ [d2]) ha fun T rl => ⟨T ++ [], rl.append (RepL.one rw_), fun b => by simp⟩
                        exact RR.drop (RR.perm (List.Perm.swap _ _ _) R9)
                      · cases ef
          · cases e
      · cases e
    · cases e
end
end
end Pv

/-! Lp: what loops come to, without unrolling. -/
namespace Pv
open PySem
variable {t : Tg} {dead own : List Nat} {body : S} {d : D} {ds : List D} {σ σ' σ1 σ2 : PS} {n : Nat}
/-- one turn of a for -/
@[simp] def turn (t : Tg) (dead : List Nat) (body : S) (d : D) (σ : PS) : Option (Ctl × PS) := (t.put d σ).bind fun σ1 => (body σ1).bind fun r => match r with
  | (.nx, σ2) => some (.nx, clr dead σ2)
  | (.ct, σ2) => some (.nx, clr dead σ2)
  | (.bk, σ2) => some (.bk, clr dead σ2)
  | (.rt x, σ2) => some (.rt x, σ2)
theorem forP_eq : forP t dead body (d :: ds) σ = (turn t dead body d σ).bind fun r => match r with
  | (.nx, σ2) => forP t dead body ds σ2
  | (.bk, σ2) => some (.nx, σ2)
  | r => some r := by
  simp only [forP, turn]
  cases t.put d σ with
  | none => rfl
  | some s =>
    simp only [Option.bind_some]
    cases body s with
    | none => rfl
    | some r =>
      obtain ⟨c, s2⟩ := r
      cases c <;> rfl
theorem forP_nil : forP t dead body [] σ = some (.nx, σ) := rfl
theorem forP_nx (h : turn t dead body d σ = some (.nx, σ')) : forP t dead body (d :: ds) σ = forP t dead body ds σ' := by rw [forP_eq, h]; rfl
theorem forP_rt {x : D} (h : turn t dead body d σ = some (.rt x, σ')) : forP t dead body (d :: ds) σ = some (.rt x, σ') := by rw [forP_eq, h]; rfl
theorem forP_inv {α : Type} (enc : α → D) (I : Nat → PS → Prop) : ∀ (xs : List α) (k : Nat) (σ : PS), (∀ j x σ, xs[j]? = some x → I (k + j) σ → ∃ σ', turn t dead body (enc x) σ = some (.nx, σ') ∧ I (k + j + 1) σ') → I k σ → ∃ σ', forP t dead body (xs.map enc) σ = some (.nx, σ') ∧ I (k + xs.length) σ'
  | [], k, σ, _, h0 => ⟨σ, rfl, h0⟩
  | x :: xs, k, σ, h, h0 => by
    obtain ⟨σ1, e1, i1⟩ := h 0 x σ rfl h0
    obtain ⟨σ2, e2, i2⟩ := forP_inv enc I xs (k + 1) σ1 (fun j y τ e i => by
      have := h (j + 1) y τ e (by rw [show k + (j + 1) = k + 1 + j by omega]; exact i)
      rw [show k + 1 + j + 1 = k + (j + 1) + 1 by omega]
      exact this) i1
    refine ⟨σ2, ?_, by rw [List.length_cons, show k + (xs.length + 1) = k + 1 + xs.length by omega]; exact i2⟩
    rw [List.map_cons, forP_nx e1, e2]
/-- the same over a list of data as it lies -/
theorem forP_invD (I : Nat → PS → Prop) (xs : List D) (σ : PS) (h : ∀ j x σ, xs[j]? = some x → I j σ → ∃ σ', turn t dead body x σ = some (.nx, σ') ∧ I (j + 1) σ') (h0 : I 0 σ) : ∃ σ', forP t dead body xs σ = some (.nx, σ') ∧ I xs.length σ' := by
  have := forP_inv (t := t) (dead := dead) (body := body) id I xs 0 σ (fun j x σ e i => by rw [Nat.zero_add] at i ⊢; exact h j x σ e i) h0
  rw [List.map_id, Nat.zero_add] at this
  exact this
theorem forP_fold {α β : Type} (enc : α → D) (st : β → PS) (f : β → α → β) : ∀ (xs : List α) (b : β), (∀ b, ∀ x ∈ xs, turn t dead body (enc x) (st b) = some (.nx, st (f b x))) → forP t dead body (xs.map enc) (st b) = some (.nx, st (xs.foldl f b))
  | [], b, h => rfl
  | x :: xs, b, h => by
    rw [List.map_cons, forP_nx (h b x List.mem_cons_self), forP_fold enc st f xs (f b x) (fun b y hy => h b y (List.mem_cons_of_mem _ hy))]
    rfl
/-- one turn of a while -/
theorem whileP_end {t : GT} (h : t σ = some (false, σ')) : whileP t dead body (n + 1) σ = some (.nx, σ') := by
  simp only [whileP, h, Option.bind_some]; rfl
theorem whileP_nx {t : GT} (h : t σ = some (true, σ1)) (h2 : body σ1 = some (.nx, σ2)) : whileP t dead body (n + 1) σ = whileP t dead body n (clr dead σ2) := by
  simp only [whileP, h, h2, Option.bind_some]; rfl
theorem whileP_rt {t : GT} {x : D} (h : t σ = some (true, σ1)) (h2 : body σ1 = some (.rt x, σ2)) : whileP t dead body (n + 1) σ = some (.rt x, σ2) := by
  simp only [whileP, h, h2, Option.bind_some]; rfl
theorem whileP_inv {t : GT} (I : Nat → PS → Prop) (J : PS → Prop) (h : ∀ m σ, I m σ → (∃ σ', t σ = some (false, σ') ∧ J σ') ∨ ∃ σ1 σ2 m', t σ = some (true, σ1) ∧ body σ1 = some (.nx, σ2) ∧ m' < m ∧ I m' (clr dead σ2)) :
    ∀ (m n : Nat) (σ : PS), m < n → I m σ → ∃ σ', whileP t dead body n σ = some (.nx, σ') ∧ J σ' := by
  intro m
  induction m using Nat.strongRecOn with
  | _ m ih =>
    intro n σ hn hi
    obtain ⟨n', rfl⟩ : ∃ n', n = n' + 1 := ⟨n - 1, by omega⟩
    rcases h m σ hi with ⟨σ', e, j⟩ | ⟨σ1, σ2, m', e1, e2, hm, i⟩
    · exact ⟨σ', whileP_end e, j⟩
    · obtain ⟨σ', e, j⟩ := ih m' hm n' _ (by omega) i
      exact ⟨σ', by rw [whileP_nx e1 e2]; exact e, j⟩
/-- one turn of a comprehension -/
@[simp] def cturn (t : Tg) (own : List Nat) (ifs : GT) (elt : GE) (d : D) (σ : PS) : Option (Option D × PS) := (t.put d (clr own σ)).bind fun σ1 => (ifs σ1).bind fun c => if c.1 then (elt c.2).bind fun x => if x.1.isF then some (some x.1, clr own x.2) else none
  else some (none, clr own c.2)
theorem compP_some {ifs : GT} {elt : GE} {acc : List D} {x : D} (h : cturn t own ifs elt d σ = some (some x, σ')) (hl : acc.length < cap) : compP t own ifs elt (d :: ds) acc σ = compP t own ifs elt ds (acc ++ [x]) σ' := by
  simp only [compP, cturn] at h ⊢
  cases e1 : t.put d (clr own σ) with
  | none => rw [e1] at h; cases h
  | some s =>
    rw [e1] at h
    simp only [Option.bind_some] at h ⊢
    cases e2 : ifs s with
    | none => rw [e2] at h; cases h
    | some c =>
      rw [e2] at h
      simp only [Option.bind_some] at h ⊢
      split at h
      · rename_i hc
        rw [if_pos hc]
        cases e3 : elt c.2 with
        | none => rw [e3] at h; cases h
        | some y =>
          rw [e3] at h
          simp only [Option.bind_some] at h ⊢
          split at h
          · rename_i hf
            cases h
            rw [if_pos ⟨hf, hl⟩]
          · cases h
      · cases h
theorem compP_none {ifs : GT} {elt : GE} {acc : List D} (h : cturn t own ifs elt d σ = some (none, σ')) : compP t own ifs elt (d :: ds) acc σ = compP t own ifs elt ds acc σ' := by
  simp only [compP, cturn] at h ⊢
  cases e1 : t.put d (clr own σ) with
  | none => rw [e1] at h; cases h
  | some s =>
    rw [e1] at h
    simp only [Option.bind_some] at h ⊢
    cases e2 : ifs s with
    | none => rw [e2] at h; cases h
    | some c =>
      rw [e2] at h
      simp only [Option.bind_some] at h ⊢
      split at h
      · rename_i hc
        cases e3 : elt c.2 with
        | none => rw [e3] at h; cases h
        | some y =>
          rw [e3] at h
          simp only [Option.bind_some] at h
          split at h <;> cases h
      · rename_i hc
        cases h
        rw [if_neg hc]
/-- a comprehension that leaves the state -/
theorem compP_fun {α : Type} {ifs : GT} {elt : GE} (enc : α → D) (g : α → Option D) : ∀ (xs : List α) (acc : List D), (∀ x ∈ xs, cturn t own ifs elt (enc x) σ = some (g x, σ)) → acc.length + xs.length ≤ cap → compP t own ifs elt (xs.map enc) acc σ = some (acc ++ xs.filterMap g, σ)
  | [], acc, _, _ => by simp [compP]
  | x :: xs, acc, h, hl => by
    rw [List.length_cons] at hl
    have hx := h x List.mem_cons_self
    rw [List.map_cons]
    cases e : g x with
    | none =>
      rw [e] at hx
      rw [compP_none hx, compP_fun enc g xs acc (fun y hy => h y (List.mem_cons_of_mem _ hy)) (by omega), List.filterMap_cons, e]
    | some y =>
      rw [e] at hx
      rw [compP_some hx (by omega), compP_fun enc g xs (acc ++ [y]) (fun y hy => h y (List.mem_cons_of_mem _ hy)) (by rw [List.length_append, List.length_singleton]; omega), List.filterMap_cons, e, List.append_assoc]
      rfl
theorem compP_map {α : Type} {ifs : GT} {elt : GE} (enc : α → D) (g : α → D) (xs : List α) (h : ∀ x ∈ xs, cturn t own ifs elt (enc x) σ = some (some (g x), σ)) (hl : xs.length ≤ cap) : compP t own ifs elt (xs.map enc) [] σ = some (xs.map g, σ) := by
  rw [compP_fun enc (fun x => some (g x)) xs [] h (by rw [List.length_nil]; omega), List.filterMap_eq_map']
  rfl
/-- one that changes the state: an invariant of what was made and the state -/
theorem compP_inv {α : Type} {ifs : GT} {elt : GE} (enc : α → D) (I : Nat → List D → PS → Prop) : ∀ (xs : List α) (k : Nat) (acc : List D) (σ : PS), (∀ j x acc σ, xs[j]? = some x → I (k + j) acc σ → acc.length < cap ∧ ∃ y σ', cturn t own ifs elt (enc x) σ = some (some y, σ') ∧ I (k + j + 1) (acc ++ [y]) σ') → I k acc σ →
    ∃ acc' σ', compP t own ifs elt (xs.map enc) acc σ = some (acc', σ') ∧ I (k + xs.length) acc' σ'
  | [], k, acc, σ, _, h0 => ⟨acc, σ, rfl, h0⟩
  | x :: xs, k, acc, σ, h, h0 => by
    obtain ⟨hl, y, σ1, e1, i1⟩ := h 0 x acc σ rfl h0
    obtain ⟨acc2, σ2, e2, i2⟩ := compP_inv enc I xs (k + 1) (acc ++ [y]) σ1 (fun j z a τ e i => by
      have := h (j + 1) z a τ e (by rw [show k + (j + 1) = k + 1 + j by omega]; exact i)
      rw [show k + 1 + j + 1 = k + (j + 1) + 1 by omega]
      exact this) i1
    refine ⟨acc2, σ2, ?_, by rw [List.length_cons, show k + (xs.length + 1) = k + 1 + xs.length by omega]; exact i2⟩
    rw [List.map_cons, compP_some e1 hl, e2]
theorem fuel_lt {n : Nat} (h : n < 1000000) : n < fuel := h
end Pv

/-! Ev: how simp works a tree out: the head of a bind first; lists, places, slices. -/
namespace Pv
open PySem
@[simp↓] theorem bind_m {α β : Type} (x : Option α) (f : α → Option β) : x.bind f = match x with | some a => f a | none => none := by cases x <;> rfl
@[simp↓] theorem map_m {α β : Type} (x : Option α) (f : α → β) : x.map f = match x with | some a => some (f a) | none => none := by cases x <;> rfl
theorem isFL_map {α : Type} {f : α → D} (h : ∀ x, (f x).isF = true) : ∀ xs : List α, isFL (xs.map f) = true
  | [] => rfl
  | x :: xs => by simp only [List.map_cons, isFL, h x, isFL_map h xs]; rfl
theorem plL_map {α : Type} {f : α → D} (h : ∀ x, (f x).pl = true) : ∀ xs : List α, plL (xs.map f) = true
  | [] => rfl
  | x :: xs => by simp only [List.map_cons, plL, h x, plL_map h xs]; rfl
theorem depL_map {α : Type} {f : α → D} {n : Nat} (h : ∀ x, (f x).dep ≤ n) : ∀ xs : List α, depL (xs.map f) ≤ n
  | [] => Nat.zero_le _
  | x :: xs => by simp only [List.map_cons, depL]; exact Nat.max_le.mpr ⟨h x, depL_map h xs⟩
theorem isFL_app {xs ys : List D} : isFL (xs ++ ys) = (isFL xs && isFL ys) := isFL_append
theorem eqvL_map {α : Type} {f : α → D} [DecidableEq α] (h : ∀ x y, eqv (f x) (f y) = decide (x = y)) : ∀ xs ys : List α, eqvL (xs.map f) (ys.map f) = decide (xs = ys)
  | [], [] => by simp [eqvL]
  | [], y :: ys => by simp [eqvL]
  | x :: xs, [] => by simp [eqvL]
  | x :: xs, y :: ys => by
    simp only [List.map_cons, eqvL, h x y, eqvL_map h xs ys]
    by_cases h1 : x = y <;> by_cases h2 : xs = ys <;> simp [h1, h2]
theorem ixP_nat {n k : Nat} : ixP n (k : Int) = if k < n then some k else none := by
  unfold ixP
  rw [if_pos (Int.natCast_nonneg k)]
  by_cases h : k < n
  · rw [if_pos h, if_pos (by omega), Int.toNat_natCast]
  · rw [if_neg h, if_neg (by omega)]
theorem atP_nat {α : Type} {xs : List α} {k : Nat} : atP xs (k : Int) = xs[k]? := by
  unfold atP
  rw [ixP_nat]
  by_cases h : k < xs.length
  · rw [if_pos h]; rfl
  · rw [if_neg h, List.getElem?_eq_none (by omega)]; rfl
theorem atP_0 {α : Type} {xs : List α} : atP xs 0 = xs[0]? := atP_nat (k := 0)
theorem atP_1 {α : Type} {xs : List α} : atP xs 1 = xs[1]? := atP_nat (k := 1)
theorem atP_2 {α : Type} {xs : List α} : atP xs 2 = xs[2]? := atP_nat (k := 2)
theorem atP_3 {α : Type} {xs : List α} : atP xs 3 = xs[3]? := atP_nat (k := 3)
theorem atP_last {α : Type} {xs : List α} {x : α} : atP (xs ++ [x]) (-1) = some x := by
  unfold atP ixP
  rw [if_neg (by decide), if_pos (by rw [List.length_append, List.length_singleton]; omega)]
  have : ((-1 : Int) + ((xs ++ [x]).length : Int)).toNat = xs.length := by rw [List.length_append, List.length_singleton]; omega
  rw [this]
  simp
theorem slB_nat {n d k : Nat} : slB n d (some (k : Int)) = min k n := by
  unfold slB
  simp only []
  rw [if_neg (by omega), Int.toNat_natCast]
theorem cutP_from {α : Type} {xs : List α} {k : Nat} : cutP xs (some (k : Int)) none = xs.drop k := by
  unfold cutP
  rw [slB_nat]
  have e : slB xs.length xs.length none = xs.length := rfl
  rw [e]
  by_cases h : k ≤ xs.length
  · rw [Nat.min_eq_left h, List.take_of_length_le (by rw [List.length_drop]; omega)]
  · rw [Nat.min_eq_right (by omega), Nat.sub_self, List.take_zero, List.drop_of_length_le (by omega)]
theorem cutP_to {α : Type} {xs : List α} {k : Nat} : cutP xs none (some (k : Int)) = xs.take k := by
  unfold cutP
  rw [slB_nat]
  have e : slB xs.length 0 none = 0 := rfl
  rw [e, List.drop_zero, Nat.sub_zero]
  by_cases h : k ≤ xs.length
  · rw [Nat.min_eq_left h]
  · rw [Nat.min_eq_right (by omega), List.take_of_length_le (Nat.le_refl _), List.take_of_length_le (by omega)]
theorem cutP_mid {α : Type} {xs : List α} {a b : Nat} : cutP xs (some (a : Int)) (some (b : Int)) = (xs.take b).drop a := by
  unfold cutP
  rw [slB_nat, slB_nat, List.drop_take]
  by_cases h : a ≤ xs.length
  · rw [Nat.min_eq_left h]
    by_cases h2 : b ≤ xs.length
    · rw [Nat.min_eq_left h2]
    · rw [Nat.min_eq_right (by omega), List.take_of_length_le (by rw [List.length_drop]; omega), List.take_of_length_le (by rw [List.length_drop]; omega)]
  · rw [Nat.min_eq_right (by omega : xs.length ≤ a), List.drop_of_length_le (Nat.le_refl _), List.drop_of_length_le (by omega)]
    simp
theorem cutP_mapD {α : Type} {f : α → D} {xs : List α} {lo hi : Option Int} : cutP (xs.map f) lo hi = (cutP xs lo hi).map f := by
  unfold cutP
  rw [List.length_map, ← List.map_drop, ← List.map_take]
theorem cutP_len {α : Type} {xs : List α} {lo hi : Option Int} : (cutP xs lo hi).length ≤ xs.length := by
  unfold cutP
  rw [List.length_take, List.length_drop]
  omega
theorem toNat_inj : ∀ {xs ys : List Char}, xs.map Char.toNat = ys.map Char.toNat → xs = ys
  | [], [], _ => rfl
  | [], y :: ys, h => by cases h
  | x :: xs, [], h => by cases h
  | x :: xs, y :: ys, h => by
    simp only [List.map_cons, List.cons.injEq] at h
    obtain ⟨h1, h2⟩ := h
    have e : x = y := Char.ext (UInt32.toNat_inj.mp h1)
    rw [e, toNat_inj h2]
@[simp] theorem ofS_inj (a b : String) : (Str.ofString a = Str.ofString b) = (a = b) := by
  refine propext ⟨fun h => ?_, fun h => by rw [h]⟩
  rw [Str.ofString_eq_toList, Str.ofString_eq_toList] at h
  have h1 := congrArg (fun s : Str => s.cps.toList) h
  simp only at h1
  exact String.toList_inj.mp (toNat_inj h1)
theorem rng_map (n : Nat) : rng 0 (n : Int) = (List.range n).map fun (k : Nat) => D.int (k : Int) := by
  unfold rng
  rw [Int.sub_zero, Int.toNat_natCast]
  exact List.map_congr_left fun k _ => by rw [Int.zero_add]
theorem range_get {n j x : Nat} (h : (List.range n)[j]? = some x) : x = j ∧ j < n := by
  obtain ⟨h1, h2⟩ := List.getElem?_eq_some_iff.mp h
  rw [List.length_range] at h1
  rw [List.getElem_range] at h2
  exact ⟨h2.symm, h1⟩
theorem small_nat {n : Nat} (h : n ≤ 1000000) : small (n : Int) := by unfold small; omega
/-- a range of a known length (used with -itR1) -/
theorem itR1_nat {i : Int} (n : Nat) (e : i = (n : Int)) (h : n ≤ 1000000) : itR1 (.int i) = some ((List.range n).map fun (k : Nat) => D.int (k : Int)) := by
  subst e
  simp only [itR1]
  rw [if_pos (small_nat h), rng_map]
end Pv

/-! Dk: dicts of prices: nodes to an int or None. -/
namespace Pv
open PySem
abbrev Nd := Nat × Nat
def nD (q : Nd) : D := .tup [.int q.1, .int q.2]
@[simp] theorem nD_isF (q : Nd) : (nD q).isF = true := rfl
def oD : Option Int → D
  | none => .non
  | some i => .int i
@[simp] theorem oD_isF (x : Option Int) : (oD x).isF = true := by cases x <;> rfl
@[simp] theorem oD_pl (x : Option Int) : (oD x).pl = true := by cases x <;> rfl
@[simp] theorem oD_dep (x : Option Int) : (oD x).dep = 0 := by cases x <;> rfl
@[simp] theorem oD_frz (x : Option Int) : (oD x).frz = oD x := by cases x <;> rfl
@[simp] theorem nD_pl (q : Nd) : (nD q).pl = true := rfl
@[simp] theorem nD_dep (q : Nd) : (nD q).dep = 1 := rfl
@[simp] theorem nD_frz (q : Nd) : (nD q).frz = nD q := rfl
theorem oD_eqv (x y : Option Int) : eqv (oD x) (oD y) = decide (x = y) := by
  cases x with
  | none => cases y <;> simp [oD, eqv]
  | some a => cases y with
    | none => simp [oD, eqv]
    | some b => by_cases h : a = b <;> simp [oD, eqv, h]
def nk (q : Nd) : Ky := [.inl q.1, .inl q.2]
theorem nk_inj {p q : Nd} (h : nk p = nk q) : p = q := by
  obtain ⟨a, b⟩ := p
  obtain ⟨c, d⟩ := q
  simp only [nk, List.cons.injEq, Sum.inl.injEq, and_true] at h
  have h1 : a = c := by omega
  have h2 : b = d := by omega
  rw [h1, h2]
@[simp] theorem key_nD (q : Nd) : keyD true (nD q) = some (nk q) := rfl
def updv (v : Nd → Option Int) (q : Nd) (x : Option Int) : Nd → Option Int := fun p => if p = q then x else v p
abbrev vals (ks : List Nd) (v : Nd → Option Int) : List D := ks.map fun q => oD (v q)
/-- a dict of prices -/
def pdD (o : Bool) (ks : List Nd) (v : Nd → Option Int) : D := .dic o true (ks.map nk) (vals ks v)
theorem vals_isF (ks : List Nd) (v : Nd → Option Int) : isFL (vals ks v) = true := isFL_map (fun q => oD_isF (v q)) ks
theorem lk_pd (v : Nd → Option Int) (q : Nd) : ∀ ks : List Nd, lkD (ks.map nk) (vals ks v) (nk q) = if q ∈ ks then some (oD (v q)) else none
  | [] => rfl
  | p :: ks => by
    simp only [List.map_cons, lkD]
    by_cases h : p = q
    · subst h; simp
    · rw [if_neg (fun z => h (nk_inj z)), lk_pd v q ks]
      have : q ≠ p := fun z => h z.symm
      simp [this]
theorem rp_pd (v : Nd → Option Int) (q : Nd) (x : Option Int) : ∀ ks : List Nd, rpD (ks.map nk) (vals ks v) (nk q) (oD x) = vals ks (updv v q x)
  | [] => rfl
  | p :: ks => by
    simp only [List.map_cons, rpD, List.cons.injEq]
    refine ⟨?_, rp_pd v q x ks⟩
    by_cases h : p = q
    · subst h; simp [updv]
    · rw [if_neg (fun z => h (nk_inj z))]; simp [updv, h]
theorem any_pd (q : Nd) : ∀ ks : List Nd, (ks.map nk).any (fun k => decide (k = nk q)) = decide (q ∈ ks)
  | [] => rfl
  | p :: ks => by
    simp only [List.map_cons, List.any_cons, any_pd q ks]
    by_cases h : p = q
    · subst h; simp
    · have h2 : ¬ nk p = nk q := fun z => h (nk_inj z)
      have h3 : ¬ q = p := fun z => h z.symm
      simp [h2, h3]
def addk (ks : List Nd) (q : Nd) : List Nd := if q ∈ ks then ks else ks ++ [q]
theorem put_pd (ks : List Nd) (v : Nd → Option Int) (q : Nd) (x : Option Int) : putD true (ks.map nk) (vals ks v) (nk q) (oD x) = pdD true (addk ks q) (updv v q x) := by
  unfold putD addk
  rw [any_pd]
  by_cases h : q ∈ ks
  · rw [if_pos (decide_eq_true h), if_pos h, rp_pd]; rfl
  · rw [if_neg (by simpa using h), if_neg h]
    unfold pdD vals
    rw [List.map_append, List.map_append]
    congr 2
    · refine List.map_congr_left fun p hp => ?_
      have : ¬ p = q := fun z => h (z ▸ hp)
      simp [updv, this]
    · simp [updv]
theorem frz_pd (o : Bool) (ks : List Nd) (v : Nd → Option Int) : (pdD o ks v).frz = pdD false ks v := by
  simp only [pdD, D.frz, frzL_id _ (vals_isF ks v)]
/-! ### the least of the moves -/
abbrev Mv := Int × Str × Nd
def mD (m : Mv) : D := .tup [.int m.1, .str m.2.1, nD m.2.2]
@[simp] theorem mD_isF (m : Mv) : (mD m).isF = true := rfl
def chStep (v : Nd → Option Int) (f : Option Int) (m : Mv) : Option Int := match v m.2.2 with
  | none => f
  | some r => match f with
    | none => some (m.1 + r)
    | some x => if m.1 + r < x then some (m.1 + r) else some x
def cheap (v : Nd → Option Int) (ms : List Mv) (f : Option Int) : Option Int := ms.foldl (chStep v) f
theorem ch_step_le {v : Nd → Option Int} {f : Option Int} {m : Mv} {y : Int} (h : f = some y) : ∃ x, chStep v f m = some x ∧ x ≤ y := by
  subst h
  unfold chStep
  cases v m.2.2 with
  | none => exact ⟨y, rfl, Int.le_refl _⟩
  | some r =>
    simp only []
    split
    · exact ⟨_, rfl, by omega⟩
    · exact ⟨_, rfl, Int.le_refl _⟩
theorem ch_le {v : Nd → Option Int} : ∀ {ms : List Mv} {f : Option Int} {y : Int}, f = some y → ∃ x, cheap v ms f = some x ∧ x ≤ y
  | [], f, y, h => ⟨y, h, Int.le_refl _⟩
  | m :: ms, f, y, h => by
    obtain ⟨x, e, l⟩ := ch_step_le (v := v) (m := m) h
    obtain ⟨z, e2, l2⟩ := ch_le (ms := ms) e
    exact ⟨z, e2, by omega⟩
theorem ch_mem {v : Nd → Option Int} : ∀ {ms : List Mv} {f : Option Int} {m : Mv} {r : Int}, m ∈ ms → v m.2.2 = some r → ∃ x, cheap v ms f = some x ∧ x ≤ m.1 + r
  | [], f, m, r, h, _ => by cases h
  | m' :: ms, f, m, r, h, hv => by
    rcases List.mem_cons.mp h with e | h
    · subst e
      have : ∃ x, chStep v f m = some x ∧ x ≤ m.1 + r := by
        unfold chStep
        rw [hv]
        cases f with
        | none => exact ⟨_, rfl, Int.le_refl _⟩
        | some y =>
          simp only []
          split
          · exact ⟨_, rfl, Int.le_refl _⟩
          · exact ⟨_, rfl, by omega⟩
      obtain ⟨x, e, l⟩ := this
      obtain ⟨z, e2, l2⟩ := ch_le (v := v) (ms := ms) e
      exact ⟨z, e2, by omega⟩
    · exact ch_mem (ms := ms) h hv
theorem ch_from {v : Nd → Option Int} : ∀ {ms : List Mv} {f : Option Int}, cheap v ms f = f ∨ ∃ m ∈ ms, ∃ r, v m.2.2 = some r ∧ cheap v ms f = some (m.1 + r)
  | [], f => .inl rfl
  | m :: ms, f => by
    rcases ch_from (v := v) (ms := ms) (f := chStep v f m) with e | ⟨m', h, r, e1, e2⟩
    · have e' : cheap v (m :: ms) f = chStep v f m := e
      rw [e']
      unfold chStep
      cases hv : v m.2.2 with
      | none => exact .inl rfl
      | some r =>
        cases f with
        | none => exact .inr ⟨m, List.mem_cons_self, r, hv, rfl⟩
        | some y =>
          simp only []
          split
          · exact .inr ⟨m, List.mem_cons_self, r, hv, rfl⟩
          · exact .inl rfl
    · exact .inr ⟨m', List.mem_cons_of_mem _ h, r, e1, e2⟩
theorem ch_fix {v : Nd → Option Int} : ∀ {ms : List Mv} {f : Option Int}, (∀ m ∈ ms, ∀ r, v m.2.2 = some r → ∃ x, f = some x ∧ x ≤ m.1 + r) → cheap v ms f = f
  | [], f, _ => rfl
  | m :: ms, f, h => by
    have e : chStep v f m = f := by
      unfold chStep
      cases hv : v m.2.2 with
      | none => rfl
      | some r =>
        obtain ⟨x, e, l⟩ := h m List.mem_cons_self r hv
        subst e
        simp only []
        rw [if_neg (by omega)]
    show cheap v ms (chStep v f m) = f
    rw [e]
    exact ch_fix fun m' hm => h m' (List.mem_cons_of_mem _ hm)
theorem ch_congr {v w : Nd → Option Int} : ∀ {ms : List Mv} {f : Option Int}, (∀ m ∈ ms, v m.2.2 = w m.2.2) → cheap v ms f = cheap w ms f
  | [], f, _ => rfl
  | m :: ms, f, h => by
    have e : chStep v f m = chStep w f m := by unfold chStep; rw [h m List.mem_cons_self]
    show cheap v ms (chStep v f m) = cheap w ms (chStep w f m)
    rw [e]
    exact ch_congr fun m' hm => h m' (List.mem_cons_of_mem _ hm)
end Pv
namespace Pv
/-! ### settling -/
def passStep (mv : Nd → List Mv) (s : (Nd → Option Int) × Bool) (q : Nd) : (Nd → Option Int) × Bool := if cheap s.1 (mv q) (s.1 q) = s.1 q then s else (updv s.1 q (cheap s.1 (mv q) (s.1 q)), true)
theorem updv_same (v : Nd → Option Int) (q : Nd) : updv v q (v q) = v := by
  funext p
  unfold updv
  by_cases h : p = q
  · rw [if_pos h, h]
  · rw [if_neg h]
theorem passStep_fst (mv : Nd → List Mv) (s : (Nd → Option Int) × Bool) (q : Nd) : (passStep mv s q).1 = updv s.1 q (cheap s.1 (mv q) (s.1 q)) := by
  unfold passStep
  by_cases h : cheap s.1 (mv q) (s.1 q) = s.1 q
  · rw [if_pos h, h, updv_same]
  · rw [if_neg h]
/-- a level none of whose moves stays on it -/
def oneP (mv : Nd → List Mv) (here : List Nd) (v : Nd → Option Int) : Nd → Option Int := fun p => if p ∈ here then cheap v (mv p) (v p) else v p
theorem pass_fst (mv : Nd → List Mv) : ∀ (here : List Nd) (v : Nd → Option Int) (b : Bool), here.Nodup → (∀ q ∈ here, ∀ m ∈ mv q, m.2.2 ∉ here) → (here.foldl (passStep mv) (v, b)).1 = oneP mv here v
  | [], v, b, _, _ => by funext p; simp [oneP]
  | q :: here, v, b, nd, hm => by
    obtain ⟨n1, n2⟩ := List.nodup_cons.mp nd
    rw [List.foldl_cons]
    have e : passStep mv (v, b) q = ((passStep mv (v, b) q).1, (passStep mv (v, b) q).2) := rfl
    rw [e, pass_fst mv here _ _ n2 (fun p hp m hmm => fun z => hm p (List.mem_cons_of_mem _ hp) m hmm (List.mem_cons_of_mem _ z)), passStep_fst]
    funext p
    simp only [oneP]
    by_cases hq : p = q
    · subst hq
      rw [if_neg n1, if_pos List.mem_cons_self]
      simp [updv]
    · by_cases hp : p ∈ here
      · rw [if_pos hp, if_pos (List.mem_cons_of_mem _ hp)]
        have e1 : updv v q (cheap v (mv q) (v q)) p = v p := by unfold updv; rw [if_neg hq]
        rw [e1]
        refine ch_congr fun m hmm => ?_
        have : ¬ m.2.2 = q := fun z => hm p (List.mem_cons_of_mem _ hp) m hmm (by rw [z]; exact List.mem_cons_self)
        unfold updv
        rw [if_neg this]
      · rw [if_neg hp, if_neg (by simp [hq, hp])]
        unfold updv
        rw [if_neg hq]
theorem pass_id (mv : Nd → List Mv) (v : Nd → Option Int) (b : Bool) : ∀ (here : List Nd), (∀ q ∈ here, cheap v (mv q) (v q) = v q) → here.foldl (passStep mv) (v, b) = (v, b)
  | [], _ => rfl
  | q :: here, h => by
    rw [List.foldl_cons]
    have e : passStep mv (v, b) q = (v, b) := by unfold passStep; rw [if_pos (h q List.mem_cons_self)]
    rw [e]
    exact pass_id mv v b here fun p hp => h p (List.mem_cons_of_mem _ hp)
theorem oneP_fix (mv : Nd → List Mv) (here : List Nd) (v : Nd → Option Int) (hm : ∀ q ∈ here, ∀ m ∈ mv q, m.2.2 ∉ here) : ∀ q ∈ here, cheap (oneP mv here v) (mv q) (oneP mv here v q) = oneP mv here v q := fun q hq => by
  refine ch_fix fun m hmm r hr => ?_
  have e1 : oneP mv here v m.2.2 = v m.2.2 := by unfold oneP; rw [if_neg (hm q hq m hmm)]
  rw [e1] at hr
  have e2 : oneP mv here v q = cheap v (mv q) (v q) := by unfold oneP; rw [if_pos hq]
  rw [e2]
  exact ch_mem hmm hr
end Pv
namespace Pv
theorem mem_addk (ks : List Nd) (q : Nd) : q ∈ addk ks q := by
  unfold addk
  by_cases h : q ∈ ks
  · rw [if_pos h]; exact h
  · rw [if_neg h]; simp
theorem addk_same {ks : List Nd} {q : Nd} (h : q ∈ ks) : addk ks q = ks := if_pos h
theorem addk_new {ks : List Nd} {q : Nd} (h : q ∉ ks) : addk ks q = ks ++ [q] := if_neg h
theorem addk_len (ks : List Nd) (q : Nd) : (addk ks q).length ≤ ks.length + 1 := by
  unfold addk
  split
  · omega
  · rw [List.length_append, List.length_singleton]; exact Nat.le_refl _
theorem updv_updv (v : Nd → Option Int) (q : Nd) (x y : Option Int) : updv (updv v q x) q y = updv v q y := by
  funext p
  unfold updv
  by_cases h : p = q <;> simp [h]
theorem put_non (ks : List Nd) (v : Nd → Option Int) (q : Nd) : putD true (ks.map nk) (vals ks v) (nk q) .non = pdD true (addk ks q) (updv v q none) := put_pd ks v q none
theorem put_int (ks : List Nd) (v : Nd → Option Int) (q : Nd) (i : Int) : putD true (ks.map nk) (vals ks v) (nk q) (.int i) = pdD true (addk ks q) (updv v q (some i)) := put_pd ks v q (some i)
end Pv

namespace Pv
open PySem
noncomputable section
/-! _law_bag: 0 script, 1 cell -/
def Y_law_bag_1 : GE :=
  (gQ (qCall (l1 dAbs) [(qVar 1)]))
def C_law_bag_1 : GE :=
  (gComp false (itG itL (gQ (qSl (qVar 0) none (some (qC (.int 63)))))) (.nm 1) [1] (fun ps => some (true, ps)) Y_law_bag_1)
def b_law_bag : S :=
  (sRet (gLst true [(gQ (qC (.int 0))), (gQ (qC (.int 987654321))), (gQ (qC (.int 0))), C_law_bag_1]))
def f_law_bag : List D → Option D := runQ 1 1 b_law_bag
/-! _law_take: 0 bag, 1 many, 2 cell, 3 mix, 4 digit, 5 first, 6 second -/
def b_law_take : S :=
  (sSeq (sClr [2, 3] (sIf (tQ (qT (q2 dEq (q2 dIx (qVar 0) (qC (.int 0))) (qC (.int 0)))))
 (sSeq (sAsg (.nm 2) (gQ (qF (q2 dIx (q2 dAddF (qSl (q2 dIx (qVar 0) (qC (.int 3))) (some (q2 dIx (qVar 0) (qC (.int 2)))) none) (qLst false [(qC (.int 0))])) (qC (.int 0))))))
  (sSeq (sAugI 0 (qC (.int 2)) (fun i j => i + j) (gQ (qC (.int 1))))
  (sSeq (sSet 0 (qC (.int 0)) (gQ (q2 dMulA (qVar 2) (qCall (l1 dInt) [(q2 dGe (qVar 2) (q2 dPow (qC (.int 10)) (qC (.int 18))))]))))
  (sSeq (sClr [2] (sAsg (.nm 3) (gQ (q2 dAddF (q2 dMulA (q2 dIx (qVar 0) (qC (.int 1))) (qC (.int 48271))) (q2 dMod (qCall (l1 dInt) [(qVar 2)]) (qC (.int 2147483647)))))))
  (sClr [3] (sSet 0 (qC (.int 1)) (gQ (q2 dMod (qCall (l1 dInt) [(q2 dAddF (qVar 3) (q2 dMulA (qC (.int 7919)) (q2 dIx (qVar 0) (qC (.int 2)))))]) (qC (.int 2147483647))))))))))
 sNx))
  (sSeq (sClr [4] (sIf (tQ (qT (q2 dGt (q2 dIx (qVar 0) (qC (.int 0))) (qC (.int 0)))))
 (sSeq (sAsg (.nm 4) (gQ (q2 dMod (qCall (l1 dInt) [(q2 dIx (qVar 0) (qC (.int 0)))]) (qVar 1))))
  (sSeq (sSet 0 (qC (.int 0)) (gQ (q2 dDiv (qCall (l1 dInt) [(q2 dIx (qVar 0) (qC (.int 0)))]) (qVar 1))))
  (sRet (gMv 4))))
 sNx))
  (sSeq (sAsg (.nm 5) (gQ (q2 dMod (qCall (l1 dInt) [(q2 dMulA (q2 dAddF (q2 dIx (qVar 0) (qC (.int 1))) (qC (.int 1))) (qC (.int 39373)))]) (qC (.int 1000000007)))))
  (sSeq (sClr [5] (sAsg (.nm 6) (gQ (q2 dMod (qCall (l1 dInt) [(q2 dMulA (qVar 5) (qVar 5))]) (qC (.int 998244353))))))
  (sRet (gQ (q2 dMod (qCall (l1 dInt) [(q2 dDiv (q2 dMod (qCall (l1 dInt) [(q2 dMulA (qVar 6) (qC (.int 30011)))]) (qC (.int 998244353))) (qC (.int 7)))]) (qVar 1))))))))
def f_law_take : List D → Option (D × List D) := runG [true, false] 5 b_law_take
/-! _law_shape: 0 bag, 1 blocks, 2 room, 3 turn, 4 many, 5 one -/
def Y_law_shape_1 : GE :=
  (gQ (qCall (l1 dSumA) [(qVar 5)]))
def C_law_shape_1 : GE :=
  (gCompV false 1 (.nm 5) [5] (fun ps => some (true, ps)) Y_law_shape_1)
def L_law_shape_1 : S :=
  (sSeq (sClr [3] (sAsg (.nm 4) (g2 dAddF (gQ (qC (.int 1))) (gCall f_law_take [.io 0, .ex (gQ (qC (.int 8)))]))))
  (sClr [4, 5] (sIf (gT (g2 dLe (g2 dAddF (g2 dAddF (gB (l1 dSumA) [C_law_shape_1]) (gQ (qF (qVar 4)))) (gQ (qC (.int 8)))) (gQ (qF (qVar 2)))))
 (sClr [4] (sApp 1 (gTup [(gQ (qF (qVar 4))), (g2 dAddF (gQ (qC (.int 4))) (gCall f_law_take [.io 0, .ex (gQ (qC (.int 4)))]))])))
 sNx)))
def b_law_shape : S :=
  (sSeq (sPar 1 2 (gQ (qLst true [])) (gQ (qC (.int 40))))
  (sSeq (sClr [2, 3, 4, 5] (sFor (itG itR1 (g2 dAddF (gQ (qC (.int 1))) (gCall f_law_take [.io 0, .ex (gQ (qC (.int 4)))]))) (.nm 3) [3, 4, 5]
 L_law_shape_1))
  (sRet (gMv 1))))
def f_law_shape : List D → Option (D × List D) := runG [true] 5 b_law_shape
/-! _law_one: 0 bag, 1 things -/
def b_law_one : S :=
  (sRet (g2S dIxF 1 (gCall f_law_take [.io 0, .ex (gQ (qCall (l1 dLen) [(qVar 1)]))])))
def f_law_one : List D → Option (D × List D) := runG [true, false] 0 b_law_one
/-! _law_block_cells: 0 bag, 1 many, 2 found, 3 turn, 4 sign, 5 ink, 6 ground -/
def L_law_block_cells_1 : S :=
  (sClr [3, 4, 5, 6] (sIf (tQ (qT (q2 dLt (qCall (l1 dLen) [(qVar 2)]) (qVar 1))))
 (sSeq (sClr [3] (sAsg (.nm 4) (gFz (gCall f_law_one [.io 0, .ex (gQ (qLst false [(qC (.str "a")), (qC (.str "b")), (qC (.str " ")), (qC (.str "A")), (qC (.str "B"))]))]))))
  (sSeq (sAsg (.nm 4) (gQ (qIf (qAnd (qT (qChain dLeS dLeS (qC (.str "A")) (qVar 4) (qC (.str "Z")))) (qT (q2 dGt (q2 dAddF (qCall (l1 dLen) [(qVar 2)]) (qC (.int 2))) (qVar 1)))) (qC (.str "a")) (qF (qVar 4)))))
  (sSeq (sPar 5 6 (gFz (gCall f_law_one [.io 0, .ex (gQ (qLst false [(qC (.str ".")), (qC (.str "a"))]))])) (gFz (gCall f_law_one [.io 0, .ex (gQ (qLst false [(qC (.str ".")), (qC (.str "b"))]))])))
  (sSeq (sApp 2 (gQ (qTup [(qVar 4), (qIf (qT (q2 dEq (qVar 4) (qC (.str " ")))) (qC (.str ".")) (qF (qVar 5))), (qVar 6)])))
  (sClr [4, 5, 6] (sIf (tQ (qT (qChain dLeS dLeS (qC (.str "A")) (qVar 4) (qC (.str "Z")))))
 (sClr [4, 5, 6] (sApp 2 (gQ (qTup [(qC (.str "")), (qVar 5), (qVar 6)]))))
 sNx))))))
 sNx))
def b_law_block_cells : S :=
  (sSeq (sAsg (.nm 2) (gQ (qLst true [])))
  (sSeq (sClr [3, 4, 5, 6] (sFor (itG itR1 (gQ (qF (qVar 1)))) (.nm 3) [3, 4, 5, 6]
 L_law_block_cells_1))
  (sRet (gMv 2))))
def f_law_block_cells : List D → Option (D × List D) := runG [true, false] 5 b_law_block_cells
/-! _law_rows_of: 0 bag, 1 shape, 2 walls, 3 blocks, 4 row, 5 many, 6 gap, 7 block, 8 wall -/
def Y_law_rows_of_1 : GE :=
  (gFz (gCall f_law_block_cells [.io 0, .vs 5]))
def C_law_rows_of_1 : GE :=
  (gComp false (itG itL (gQ (qF (qVar 1)))) (.tp [(.nm 5), (.nm 6)]) [5, 6] (fun ps => some (true, ps)) Y_law_rows_of_1)
def L_law_rows_of_1 : S :=
  (sClr [7, 8] (sAsg (.nm 4) (gQ (q2 dAddF (q2 dAddF (qVar 4) (qVar 7)) (qVar 8)))))
def b_law_rows_of : S :=
  (sSeq (sClr [5, 6] (sPar 3 4 C_law_rows_of_1 (gQ (qLst false []))))
  (sSeq (sClr [7, 8] (sFor (itG2 itZ (gQ (qF (qVar 3))) (gQ (qF (qVar 2)))) (.tp [(.nm 7), (.nm 8)]) [7, 8]
 L_law_rows_of_1))
  (sRet (gQ (qTup [(qVar 4), (qVar 3)])))))
def f_law_rows_of : List D → Option (D × List D) := runG [true, false, false] 6 b_law_rows_of
/-! _law_pictures: 0 bag, 1 shape, 2 high, 3 found, 4 walls, 5 many, 6 gap, 7 row, 8 turn, 9 rows, 10 some, 11 blocks -/
def Y_law_pictures_1 : GE :=
  (gFz (gCall f_law_block_cells [.io 0, .vs 6]))
def C_law_pictures_1 : GE :=
  (gComp false (itG itL (gQ (qF (qVar 1)))) (.tp [(.nm 5), (.nm 6)]) [5, 6] (fun ps => some (true, ps)) Y_law_pictures_1)
def Y_law_pictures_2 : GE :=
  C_law_pictures_1
def C_law_pictures_2 : GE :=
  (gComp false (itG itR1 (gQ (qF (qVar 2)))) (.nm 7) [7] (fun ps => some (true, ps)) Y_law_pictures_2)
def Y_law_pictures_3 : GE :=
  (gFz (gCall f_law_rows_of [.io 0, .vs 1, .vs 10]))
def C_law_pictures_3 : GE :=
  (gComp true (itG itL (gQ (qF (qVar 4)))) (.nm 10) [10] (fun ps => some (true, ps)) Y_law_pictures_3)
def Y_law_pictures_4 : GE :=
  (gQ (qF (qVar 7)))
def C_law_pictures_4 : GE :=
  (gComp false (itG itL (gQ (qF (qVar 9)))) (.tp [(.nm 7), (.nm 11)]) [7, 11] (fun ps => some (true, ps)) Y_law_pictures_4)
def Y_law_pictures_5 : GE :=
  (gQ (qF (qVar 11)))
def C_law_pictures_5 : GE :=
  (gComp false (itG itL (gQ (qF (qVar 9)))) (.tp [(.nm 7), (.nm 11)]) [7, 11] (fun ps => some (true, ps)) Y_law_pictures_5)
def L_law_pictures_1 : S :=
  (sSeq (sClr [10] (sAsg (.nm 9) C_law_pictures_3))
  (sSeq (sClr [8] (sIf (gAnd (tQ (qT (q2 dGt (qVar 8) (qC (.int 0))))) (gT (g2 dEq (gCall f_law_take [.io 0, .ex (gQ (qC (.int 3)))]) (gQ (qC (.int 0))))))
 (sClr [8] (sSet 9 (qC (.int 0)) (gQ (qTup [(q2 dIx (q2 dIx (q2 dIx (qVar 3) (qC (.int 0))) (qC (.int 0))) (qC (.int 0))), (q2 dIx (q2 dIx (q2 dIx (qVar 3) (qC (.int 0))) (qC (.int 1))) (qC (.int 0)))]))))
 sNx))
  (sClr [7, 9, 11] (sFrz 9 (sApp 3 (gTup [C_law_pictures_4, C_law_pictures_5]))))))
def b_law_pictures : S :=
  (sSeq (sPar 2 3 (g2 dAddF (gQ (qC (.int 1))) (gCall f_law_take [.io 0, .ex (gQ (qC (.int 4)))])) (gQ (qLst true [])))
  (sSeq (sClr [2, 5, 6, 7] (sAsg (.nm 4) C_law_pictures_2))
  (sSeq (sClr [4, 7, 8, 9, 10, 11] (sFor (itG itR1 (gQ (qC (.int 3)))) (.nm 8) [7, 8, 9, 10, 11]
 L_law_pictures_1))
  (sRet (gMv 3)))))
def f_law_pictures : List D → Option (D × List D) := runG [true, false] 10 b_law_pictures
/-! Change.nodes_at: 0 self, 1 at -/
def b_Change_nodes_at : S :=
  (sRet (gQ (qLst false [(qTup [(qVar 1), (qC (.int 0))]), (qTup [(qVar 1), (qC (.int 1))])])))
def f_Change_nodes_at : List D → Option D := runQ 2 0 b_Change_nodes_at
/-! Change.moves_from: 0 self, 1 node, 2 at, 3 state, 4 col, 5 size, 6 found -/
def b_Change_moves_from : S :=
  (sSeq (sAsg (.tp [(.nm 2), (.nm 3)]) (gQ (qF (qVar 1))))
  (sSeq (sIf (tQ (qT (q2 dEq (qVar 2) (qCall (l1 dLen) [(q1 (dFld "spots") (qVar 0))]))))
 (sRet (gQ (qLst false [])))
 sNx)
  (sSeq (sAsg (.tp [(.nm 4), (.nm 5)]) (gQ (qF (q2 dIx (q1 (dFld "spots") (qVar 0)) (qVar 2)))))
  (sSeq (sAsg (.nm 6) (gQ (qLst true [])))
  (sSeq (sClr [4] (sIf (tQ (qT (q2 dEq (qSl (q1 (dFld "before") (qVar 0)) (some (qVar 4)) (some (q2 dAddF (qVar 4) (qVar 5)))) (qSl (q1 (dFld "behind") (qVar 0)) (some (qVar 4)) (some (q2 dAddF (qVar 4) (qVar 5)))))))
 (sClr [4] (sApp 6 (gQ (qTup [(qC (.int 0)), (qC (.str "pass")), (qTup [(q2 dAddF (qVar 2) (qC (.int 1))), (qC (.int 0))])]))))
 sNx))
  (sSeq (sClr [2, 3, 5] (sIf (tQ (qT (q2 dEq (qVar 3) (qC (.int 0)))))
 (sClr [2, 3, 5] (sApp 6 (gQ (qTup [(q2 dAddF (qC (.int 4)) (qVar 5)), (qC (.str "begin")), (qTup [(q2 dAddF (qVar 2) (qC (.int 1))), (qC (.int 1))])]))))
 (sClr [2, 3, 5] (sApp 6 (gQ (qTup [(qVar 5), (qC (.str "on")), (qTup [(q2 dAddF (qVar 2) (qC (.int 1))), (qC (.int 1))])]))))))
  (sRet (gMv 6))))))))
def f_Change_moves_from : List D → Option D := runQ 2 5 b_Change_moves_from
/-! cheapest: 0 trail, 1 prices, 2 node, 3 found, 4 cost, 5 name, 6 beyond, 7 rest -/
def L_cheapest_1 : S :=
  (sSeq (sClr [5, 6] (sAsg (.nm 7) (gQ (qF (q2 dGet (qVar 1) (qVar 6))))))
  (sClr [4, 7] (sIf (tQ (qAnd (qT (q1 dNotN (qVar 7))) (qOr (qT (q1 dIsN (qVar 3))) (qT (q2 dLt (q2 dAddF (qVar 4) (qVar 7)) (qVar 3))))))
 (sClr [4, 7] (sAsg (.nm 3) (gQ (q2 dAddF (qVar 4) (qVar 7)))))
 sNx)))
def b_cheapest : S :=
  (sSeq (sAsg (.nm 3) (gQ (qF (q2 dGet (qVar 1) (qVar 2)))))
  (sSeq (sClr [4, 5, 6, 7] (sFor (itG itL (gQ (qFz (qMet 0 "moves_from" f_Change_moves_from (qVar 0) [(qVar 2)])))) (.tp [(.nm 4), (.nm 5), (.nm 6)]) [4, 5, 6, 7]
 L_cheapest_1))
  (sRet (gMv 3))))
def f_cheapest : List D → Option D := runQ 3 5 b_cheapest
/-! settle: 0 trail, 1 prices, 2 here, 3 falls, 4 node, 5 found -/
def L_settle_1 : S :=
  (sSeq (sAsg (.nm 5) (gQ (qFz (qCall f_cheapest [(qVar 0), (qVar 1), (qVar 4)]))))
  (sClr [4, 5] (sIf (tQ (qT (q2 dNe (qVar 5) (q2 dGet (qVar 1) (qVar 4)))))
 (sSeq (sClr [3, 4, 5] (sPutD 1 (qVar 4) (gQ (qF (qVar 5)))))
  (sAsg (.nm 3) (gQ (qC (.bl true)))))
 sNx)))
def L_settle_2 : S :=
  (sSeq (sAsg (.nm 3) (gQ (qC (.bl false))))
  (sClr [4, 5] (sFor (itG itL (gQ (qF (qVar 2)))) (.nm 4) [4, 5]
 L_settle_1)))
def T_settle_1 : GT :=
  (tQ (qT (qVar 3)))
def b_settle : S :=
  (sSeq (sAsg (.nm 3) (gQ (qC (.bl true))))
  (sClr [3, 4, 5] (whileP T_settle_1 [4, 5]
 L_settle_2 fuel)))
def f_settle : List D → Option (D × List D) := runG [false, true, false] 3 b_settle
/-! Change.last_at: 0 self -/
def b_Change_last_at : S :=
  (sRet (gQ (qCall (l1 dLen) [(q1 (dFld "spots") (qVar 0))])))
def f_Change_last_at : List D → Option D := runQ 1 0 b_Change_last_at
/-! Change.is_end: 0 self, 1 node -/
def b_Change_is_end : S :=
  (sRet (gQ (q2 dEq (q2 dIx (qVar 1) (qC (.int 0))) (qCall (l1 dLen) [(q1 (dFld "spots") (qVar 0))]))))
def f_Change_is_end : List D → Option D := runQ 2 0 b_Change_is_end
/-! priced: 0 trail, 1 prices, 2 back, 3 here, 4 node -/
def L_priced_1 : S :=
  (sSeq (sPutD 1 (qVar 4) (gQ (qC .non)))
  (sClr [4] (sIf (tQ (qT (qMet 0 "is_end" f_Change_is_end (qVar 0) [(qVar 4)])))
 (sClr [4] (sPutD 1 (qVar 4) (gQ (qC (.int 0)))))
 sNx)))
def L_priced_2 : S :=
  (sSeq (sClr [2] (sAsg (.nm 3) (gQ (qFz (qMet 0 "nodes_at" f_Change_nodes_at (qVar 0) [(q2 dSub (qMet 0 "last_at" f_Change_last_at (qVar 0) []) (qVar 2))])))))
  (sSeq (sClr [4] (sFor (itG itL (gQ (qF (qVar 3)))) (.nm 4) [4]
 L_priced_1))
  (sClr [3] (sDrop (gCall f_settle [.vs 0, .io 1, .vs 3])))))
def b_priced : S :=
  (sSeq (sAsg (.nm 1) (gQ (qC (.dic true true [] []))))
  (sSeq (sClr [2, 3, 4] (sFor (itG itR1 (gQ (q2 dAddF (qMet 0 "last_at" f_Change_last_at (qVar 0) []) (qC (.int 1))))) (.nm 2) [2, 3, 4]
 L_priced_2))
  (sRet (gMv 1))))
def f_priced : List D → Option D := runQ 1 4 b_priced
/-! Change.first_node: 0 self -/
def b_Change_first_node : S :=
  (sRet (gQ (qTup [(qC (.int 0)), (qC (.int 0))])))
def f_Change_first_node : List D → Option D := runQ 1 0 b_Change_first_node
/-! first_least: 0 trail, 1 prices, 2 node, 3 cost, 4 name, 5 beyond -/
def L_first_least_1 : S :=
  (sClr [3, 4, 5] (sIf (tQ (qAnd (qT (q1 dNotN (q2 dGet (qVar 1) (qVar 5)))) (qT (q2 dEq (q2 dAddF (qVar 3) (q2 dGet (qVar 1) (qVar 5))) (q2 dGet (qVar 1) (qVar 2))))))
 (sRet (gQ (qTup [(qVar 4), (qVar 5)])))
 sNx))
def b_first_least : S :=
  (sSeq (sClr [3, 4, 5] (sFor (itG itL (gQ (qFz (qMet 0 "moves_from" f_Change_moves_from (qVar 0) [(qVar 2)])))) (.tp [(.nm 3), (.nm 4), (.nm 5)]) [3, 4, 5]
 L_first_least_1))
  (sRet (gQ (qC .non))))
def f_first_least : List D → Option D := runQ 3 3 b_first_least
/-! way_of: 0 trail, 1 prices, 2 node, 3 names, 4 name -/
def L_way_of_1 : S :=
  (sSeq (sAsg (.tp [(.nm 4), (.nm 2)]) (gQ (qFz (qCall f_first_least [(qVar 0), (qVar 1), (qVar 2)]))))
  (sClr [4] (sApp 3 (gQ (qF (qVar 4))))))
def T_way_of_1 : GT :=
  (tQ (qOr (qNot (qT (qMet 0 "is_end" f_Change_is_end (qVar 0) [(qVar 2)]))) (qT (q2 dGt (q2 dGet (qVar 1) (qVar 2)) (qC (.int 0))))))
def b_way_of : S :=
  (sSeq (sAsg (.nm 1) (gQ (qFz (qCall f_priced [(qVar 0)]))))
  (sSeq (sAsg (.nm 2) (gQ (qFz (qMet 0 "first_node" f_Change_first_node (qVar 0) []))))
  (sSeq (sIf (tQ (qT (q1 dIsN (q2 dGet (qVar 1) (qVar 2)))))
 (sRet (gQ (qC .non)))
 sNx)
  (sSeq (sAsg (.nm 3) (gQ (qLst true [])))
  (sSeq (sClr [2, 4] (whileP T_way_of_1 [4]
 L_way_of_1 fuel))
  (sFrz 3 (sRet (gQ (qTup [(q2 dGet (qVar 1) (qMet 0 "first_node" f_Change_first_node (qVar 0) [])), (qVar 3)])))))))))
def f_way_of : List D → Option D := runQ 1 4 b_way_of
/-! spots_of: 0 row, 1 found, 2 col, 3 cell -/
def L_spots_of_1 : S :=
  (sClr [2, 3] (sIf (tQ (qT (q2 dEq (q2 dIx (qVar 3) (qC (.int 0))) (qC (.str "")))))
 (sClr [2, 3] (sSet 1 (q1 dNeg (qC (.int 1))) (gQ (qTup [(q2 dIx (q2 dIx (qVar 1) (q1 dNeg (qC (.int 1)))) (qC (.int 0))), (q2 dAddF (q2 dIx (q2 dIx (qVar 1) (q1 dNeg (qC (.int 1)))) (qC (.int 1))) (qC (.int 1)))]))))
 (sClr [2, 3] (sApp 1 (gQ (qTup [(qVar 2), (qC (.int 1))]))))))
def b_spots_of : S :=
  (sSeq (sAsg (.nm 1) (gQ (qLst true [])))
  (sSeq (sClr [2, 3] (sFor (itG itE (gQ (qF (qVar 0)))) (.tp [(.nm 2), (.nm 3)]) [2, 3]
 L_spots_of_1))
  (sRet (gMv 1))))
def f_spots_of : List D → Option D := runQ 1 3 b_spots_of
/-! Change.__init__: 0 self, 1 one, 2 other -/
def b_Change_init : S :=
  (sSeq (Pv.sFld 0 "before" (gQ (qCall (l1 (dList false)) [(qVar 1)])))
  (sSeq (Pv.sFld 0 "behind" (gQ (qCall (l1 (dList false)) [(qVar 2)])))
  (Pv.sFld 0 "spots" (gQ (qFz (qCall f_spots_of [(q1 (dFld "behind") (qVar 0))]))))))
def f_Change_init : List D → Option (D × List D) := runG [true, false, false] 0 b_Change_init
/-! row_writes: 0 row, 1 one, 2 other, 3 found, 4 cost, 5 names, 6 col, 7 size, 8 name, 9 cells, 10 last -/
def L_row_writes_1 : S :=
  (sSeq (sClr [7] (sAsg (.nm 9) (gQ (qSl (qVar 2) (some (qVar 6)) (some (q2 dAddF (qVar 6) (qVar 7)))))))
  (sClr [6, 8, 9, 10] (sIf (tQ (qT (q2 dEq (qVar 8) (qC (.str "begin")))))
 (sClr [6, 8, 9] (sApp 3 (gQ (qTup [(qVar 0), (qVar 6), (qVar 9)]))))
 (sClr [6, 8, 9, 10] (sIf (tQ (qT (q2 dEq (qVar 8) (qC (.str "on")))))
 (sSeq (sClr [6, 8] (sAsg (.nm 10) (gPop 3)))
  (sClr [9, 10] (sApp 3 (gQ (qTup [(qVar 0), (q2 dIx (qVar 10) (qC (.int 1))), (q2 dAddF (q2 dIx (qVar 10) (qC (.int 2))) (qVar 9))])))))
 sNx)))))
def b_row_writes : S :=
  (sSeq (sAsg (.nm 3) (gQ (qLst true [])))
  (sSeq (sClr [4] (sAsg (.tp [(.nm 4), (.nm 5)]) (gQ (qFz (qCall f_way_of [(qMk 0 f_Change_init [(qVar 1), (qVar 2)])])))))
  (sSeq (sClr [5, 6, 7, 8, 9, 10] (sFor (itG2 itZ (gQ (qFz (qCall f_spots_of [(qVar 2)]))) (gQ (qF (qVar 5)))) (.tp [(.tp [(.nm 6), (.nm 7)]), (.nm 8)]) [5, 6, 7, 8, 9, 10]
 L_row_writes_1))
  (sRet (gMv 3)))))
def f_row_writes : List D → Option D := runQ 3 8 b_row_writes
/-! patch: 0 one, 1 other, 2 found, 3 row -/
def L_patch_1 : S :=
  (sClr [3] (sExt 2 (gQ (qFz (qCall f_row_writes [(qVar 3), (q2 dIx (qVar 0) (qVar 3)), (q2 dIx (qVar 1) (qVar 3))])))))
def b_patch : S :=
  (sSeq (sAsg (.nm 2) (gQ (qLst true [])))
  (sSeq (sClr [3] (sFor (itG itR1 (gQ (qCall (l1 dLen) [(qVar 0)]))) (.nm 3) [3]
 L_patch_1))
  (sRet (gMv 2))))
def f_patch : List D → Option D := runQ 2 2 b_patch
/-! _law_least: 0 one, 1 other, 2 rest, 3 going, 4 col, 5 size, 6 same, 7 later -/
def L_law_least_1 : S :=
  (sSeq (sAsg (.nm 5) (gQ (qIf (qT (qChain dLeS dLeS (qC (.str "A")) (q2 dIx (q2 dIx (qVar 1) (qVar 4)) (qC (.int 0))) (qC (.str "Z")))) (qC (.int 2)) (qC (.int 1)))))
  (sSeq (sAsg (.nm 6) (gQ (q2 dEq (qSl (qVar 0) (some (qVar 4)) (some (q2 dAddF (qVar 4) (qVar 5)))) (qSl (qVar 1) (some (qVar 4)) (some (q2 dAddF (qVar 4) (qVar 5)))))))
  (sSeq (sClr [6] (sAsg (.nm 7) (gQ (qIf (qT (qVar 6)) (qCall (l2 dMin2) [(qVar 2), (qVar 3)]) (qC (.int 999999))))))
  (sSeq (sClr [2] (sAsg (.nm 3) (gQ (q2 dAddF (qCall (l2 dMin2) [(q2 dAddF (qVar 2) (qC (.int 4))), (qVar 3)]) (qVar 5)))))
  (sSeq (sClr [7] (sAsg (.nm 2) (gQ (qF (qVar 7)))))
  (sClr [5] (sAug 4 (fun i j => i + j) (gQ (qF (qVar 5))))))))))
def T_law_least_1 : GT :=
  (tQ (qT (q2 dLt (qVar 4) (qCall (l1 dLen) [(qVar 1)]))))
def b_law_least : S :=
  (sSeq (sAsg (.tp [(.nm 2), (.nm 3), (.nm 4)]) (gQ (qTup [(qC (.int 0)), (qC (.int 999999)), (qC (.int 0))])))
  (sSeq (sClr [4, 5, 6, 7] (whileP T_law_least_1 [5, 6, 7]
 L_law_least_1 fuel))
  (sRet (gQ (qCall (l2 dMin2) [(qVar 2), (qVar 3)])))))
def f_law_least : List D → Option D := runQ 2 6 b_law_least
/-! all_nodes: 0 trail, 1 found, 2 at -/
def L_all_nodes_1 : S :=
  (sClr [2] (sExt 1 (gQ (qFz (qMet 0 "nodes_at" f_Change_nodes_at (qVar 0) [(qVar 2)])))))
def b_all_nodes : S :=
  (sSeq (sAsg (.nm 1) (gQ (qLst true [])))
  (sSeq (sClr [2] (sFor (itG itR1 (gQ (q2 dAddF (qMet 0 "last_at" f_Change_last_at (qVar 0) []) (qC (.int 1))))) (.nm 2) [2]
 L_all_nodes_1))
  (sRet (gMv 1))))
def f_all_nodes : List D → Option D := runQ 1 2 b_all_nodes
/-! fair_at: 0 trail, 1 prices, 2 node, 3 price, 4 cost, 5 name, 6 beyond, 7 rest -/
def L_fair_at_1 : S :=
  (sSeq (sClr [5, 6] (sAsg (.nm 7) (gQ (qF (q2 dGet (qVar 1) (qVar 6))))))
  (sClr [4, 7] (sIf (tQ (qAnd (qT (q1 dNotN (qVar 7))) (qOr (qT (q1 dIsN (qVar 3))) (qT (q2 dGt (qVar 3) (q2 dAddF (qVar 4) (qVar 7)))))))
 (sRet (gQ (qC (.bl false))))
 sNx)))
def b_fair_at : S :=
  (sSeq (sAsg (.nm 3) (gQ (qF (q2 dGet (qVar 1) (qVar 2)))))
  (sSeq (sIf (tQ (qAnd (qT (qMet 0 "is_end" f_Change_is_end (qVar 0) [(qVar 2)])) (qOr (qT (q1 dIsN (qVar 3))) (qT (q2 dGt (qVar 3) (qC (.int 0)))))))
 (sRet (gQ (qC (.bl false))))
 sNx)
  (sSeq (sClr [3, 4, 5, 6, 7] (sFor (itG itL (gQ (qFz (qMet 0 "moves_from" f_Change_moves_from (qVar 0) [(qVar 2)])))) (.tp [(.nm 4), (.nm 5), (.nm 6)]) [4, 5, 6, 7]
 L_fair_at_1))
  (sRet (gQ (qC (.bl true)))))))
def f_fair_at : List D → Option D := runQ 3 5 b_fair_at
/-! is_price: 0 thing -/
def b_is_price : S :=
  (sSeq (sIf (tQ (qT (q1 dIsN (qVar 0))))
 (sRet (gQ (qC (.bl true))))
 sNx)
  (sRet (gQ (qV (qAnd (qT (q1 (dIsi "int") (qVar 0))) (qT (qV (qNot (qT (q1 (dIsi "bool") (qVar 0)))))))))))
def f_is_price : List D → Option D := runQ 1 0 b_is_price
/-! fair: 0 trail, 1 prices, 2 nodes, 3 node -/
def L_fair_1 : S :=
  (sClr [3] (sIf (tQ (qOr (qT (q2 dNotIn (qVar 3) (qVar 1))) (qNot (qT (qCall f_is_price [(q2 dGet (qVar 1) (qVar 3))])))))
 (sRet (gQ (qC (.bl false))))
 sNx))
def L_fair_2 : S :=
  (sClr [3] (sIf (tQ (qNot (qT (qCall f_fair_at [(qVar 0), (qVar 1), (qVar 3)]))))
 (sRet (gQ (qC (.bl false))))
 sNx))
def b_fair : S :=
  (sSeq (sAsg (.nm 2) (gQ (qFz (qCall f_all_nodes [(qVar 0)]))))
  (sSeq (sIf (tQ (qOr (qNot (qT (q1 (dIsi "dict") (qVar 1)))) (qT (q2 dNe (qCall (l1 dLen) [(qVar 1)]) (qCall (l1 dLen) [(qVar 2)])))))
 (sRet (gQ (qC (.bl false))))
 sNx)
  (sSeq (sClr [3] (sFor (itG itL (gQ (qF (qVar 2)))) (.nm 3) [3]
 L_fair_1))
  (sSeq (sClr [2, 3] (sFor (itG itL (gQ (qF (qVar 2)))) (.nm 3) [2, 3]
 L_fair_2))
  (sRet (gQ (qC (.bl true))))))))
def f_fair : List D → Option D := runQ 2 2 b_fair
/-! _law_row_priced: 0 row, 1 other, 2 blocks, 3 others, 4 shape, 5 trail, 6 costs, 7 one, 8 two, 9 prices, 10 cells, 11 at, 12 many, 13 gap, 14 letters, 15 cell -/
def Y_law_row_priced_1 : GE :=
  (gQ (qFz (qCall f_law_least [(qVar 7), (qVar 8)])))
def C_law_row_priced_1 : GE :=
  (gComp false (itG2 itZ (gQ (qF (qVar 2))) (gQ (qF (qVar 3)))) (.tp [(.nm 7), (.nm 8)]) [7, 8] (fun ps => some (true, ps)) Y_law_row_priced_1)
def T_law_row_priced_1 : GT :=
  (tQ (qT (q2 dNe (q2 dIx (qVar 15) (qC (.int 0))) (qC (.str "")))))
def Y_law_row_priced_2 : GE :=
  (gQ (qF (qVar 15)))
def C_law_row_priced_2 : GE :=
  (gComp false (itG itL (gQ (qSl (qVar 1) none (some (qVar 10))))) (.nm 15) [15] T_law_row_priced_1 Y_law_row_priced_2)
def L_law_row_priced_1 : S :=
  (sSeq (sClr [12] (sAug 10 (fun i j => i + j) (gQ (qF (qVar 12)))))
  (sSeq (sClr [15] (sAsg (.nm 14) (gB (l1 dLen) [C_law_row_priced_2])))
  (sSeq (sClr [11, 14] (sIf (tQ (qT (q2 dNe (q2 dGet (qVar 9) (qTup [(qVar 14), (qC (.int 0))])) (qCall (l1 dSumA) [(qSl (qVar 6) (some (q2 dAddF (qVar 11) (qC (.int 1)))) none)]))))
 (sRet (gQ (qC (.bl false))))
 sNx))
  (sClr [13] (sAug 10 (fun i j => i + j) (gQ (qF (qVar 13))))))))
def T_law_row_priced_2 : GT :=
  (tQ (qT (q2 dNe (q2 dIx (qVar 15) (qC (.int 0))) (qC (.str "")))))
def Y_law_row_priced_3 : GE :=
  (gQ (qF (qVar 15)))
def C_law_row_priced_3 : GE :=
  (gComp false (itG itL (gQ (qF (qVar 1)))) (.nm 15) [15] T_law_row_priced_2 Y_law_row_priced_3)
def b_law_row_priced : S :=
  (sSeq (sAsg (.nm 5) (gQ (qFz (qMk 0 f_Change_init [(qVar 0), (qVar 1)]))))
  (sSeq (sClr [7, 8] (sAsg (.nm 6) C_law_row_priced_1))
  (sSeq (sPar 9 10 (gQ (qFz (qCall f_priced [(qVar 5)]))) (gQ (qC (.int 0))))
  (sSeq (sClr [5] (sIf (tQ (qOr (qT (q2 dNe (qLst false [(q2 dGet (qVar 9) (qTup [(qC (.int 0)), (qC (.int 0))])), (q2 dIx (qCall f_way_of [(qVar 5)]) (qC (.int 0)))]) (q2 dMulA (qLst false [(qCall (l1 dSumA) [(qVar 6)])]) (qC (.int 2))))) (qT (q2 dNotB (qCall f_fair [(qVar 5), (qVar 9)]) (qC (.bl true))))))
 (sRet (gQ (qC (.bl false))))
 sNx))
  (sSeq (sClr [6, 10, 11, 12, 13, 14, 15] (sFor (itG itE (gQ (qF (qVar 4)))) (.tp [(.nm 11), (.tp [(.nm 12), (.nm 13)])]) [11, 12, 13, 14, 15]
 L_law_row_priced_1))
  (sRet (g2 dEq (g2S dGetF 9 (gTup [(gB (l1 dLen) [C_law_row_priced_3]), (gQ (qC (.int 0)))])) (gQ (qC (.int 0))))))))))
def f_law_row_priced : List D → Option D := runQ 5 11 b_law_row_priced
/-! cost_of: 0 writes, 1 row, 2 col, 3 cells -/
def Y_cost_of_1 : GE :=
  (gQ (q2 dAddF (qC (.int 4)) (qCall (l1 dLen) [(qVar 3)])))
def C_cost_of_1 : GE :=
  (gComp false (itG itL (gQ (qF (qVar 0)))) (.tp [(.nm 1), (.nm 2), (.nm 3)]) [1, 2, 3] (fun ps => some (true, ps)) Y_cost_of_1)
def b_cost_of : S :=
  (sRet (gB (l1 dSumA) [C_cost_of_1]))
def f_cost_of : List D → Option D := runQ 1 3 b_cost_of
/-! _law_sums: 0 pictures, 1 one, 2 two, 3 found, 4 mine, 5 its, 6 block, 7 other -/
def Y_law_sums_1 : GE :=
  (gQ (qFz (qCall f_law_least [(qVar 6), (qVar 7)])))
def C_law_sums_1 : GE :=
  (gComp false (itG2 itZ (gQ (qF (qVar 4))) (gQ (qF (qVar 5)))) (.tp [(.nm 6), (.nm 7)]) [6, 7] (fun ps => some (true, ps)) Y_law_sums_1)
def L_law_sums_1 : S :=
  (sClr [4, 5, 6, 7] (sAug 3 (fun i j => i + j) (gB (l1 dSumA) [C_law_sums_1])))
def b_law_sums : S :=
  (sSeq (sAsg (.nm 3) (gQ (qC (.int 0))))
  (sSeq (sClr [4, 5, 6, 7] (sFor (itG2 itZ (gQ (qF (q2 dIx (q2 dIx (qVar 0) (qVar 1)) (qC (.int 1))))) (gQ (qF (q2 dIx (q2 dIx (qVar 0) (qVar 2)) (qC (.int 1)))))) (.tp [(.nm 4), (.nm 5)]) [4, 5, 6, 7]
 L_law_sums_1))
  (sRet (gMv 3))))
def f_law_sums : List D → Option D := runQ 3 5 b_law_sums
/-! patched: 0 picture, 1 writes, 2 found, 3 row, 4 col, 5 cells, 6 here -/
def Y_patched_1 : GE :=
  (gQ (qCall (l1 (dList false)) [(qVar 3)]))
def C_patched_1 : GE :=
  (gComp true (itG itL (gQ (qF (qVar 0)))) (.nm 3) [3] (fun ps => some (true, ps)) Y_patched_1)
def L_patched_1 : S :=
  (sSeq (sAsg (.nm 6) (gQ (qF (q2 dIx (qVar 2) (qVar 3)))))
  (sClr [3, 4, 5, 6] (sSet 2 (qVar 3) (gQ (q2 dAddF (q2 dAddF (qSl (qVar 6) none (some (qVar 4))) (qCall (l1 (dList false)) [(qVar 5)])) (qSl (qVar 6) (some (q2 dAddF (qVar 4) (qCall (l1 dLen) [(qVar 5)]))) none))))))
def b_patched : S :=
  (sSeq (sClr [3] (sAsg (.nm 2) C_patched_1))
  (sSeq (sClr [3, 4, 5, 6] (sFor (itG itL (gQ (qF (qVar 1)))) (.tp [(.nm 3), (.nm 4), (.nm 5)]) [3, 4, 5, 6]
 L_patched_1))
  (sRet (gMv 2))))
def f_patched : List D → Option D := runQ 2 5 b_patched
/-! law: 0 script, 1 bag, 2 turn, 3 shape, 4 pictures, 5 one, 6 two, 7 writes, 8 rows, 9 blocks, 10 others, 11 its, 12 row, 13 other, 14 mine, 15 own -/
def L_law_1 : S :=
  (sSeq (sAsg (.nm 7) (gQ (qFz (qCall f_patch [(q2 dIx (q2 dIx (qVar 4) (qVar 5)) (qC (.int 0))), (q2 dIx (q2 dIx (qVar 4) (qVar 6)) (qC (.int 0)))]))))
  (sSeq (sIf (tQ (qT (q2 dNe (qCall f_cost_of [(qVar 7)]) (qCall f_law_sums [(qVar 4), (qVar 5), (qVar 6)]))))
 (sRet (gQ (qC (.bl false))))
 sNx)
  (sClr [6, 7] (sIf (tQ (qT (q2 dNe (qCall f_patched [(q2 dIx (q2 dIx (qVar 4) (qVar 5)) (qC (.int 0))), (qVar 7)]) (q2 dIx (q2 dIx (qVar 4) (qVar 6)) (qC (.int 0))))))
 (sRet (gQ (qC (.bl false))))
 sNx))))
def L_law_2 : S :=
  (sClr [5, 6, 7] (sFor (itG itR1 (gQ (qC (.int 3)))) (.nm 6) [6, 7]
 L_law_1))
def L_law_3 : S :=
  (sClr [12, 13, 14, 15] (sIf (tQ (qNot (qT (qCall f_law_row_priced [(qVar 12), (qVar 13), (qVar 14), (qVar 15), (qVar 3)]))))
 (sRet (gQ (qC (.bl false))))
 sNx))
def L_law_4 : S :=
  (sSeq (sClr [2] (sAsg (.nm 3) (gFz (gCall f_law_shape [.io 1]))))
  (sSeq (sAsg (.nm 4) (gFz (gCall f_law_pictures [.io 1, .vs 3])))
  (sSeq (sClr [5, 6, 7] (sFor (itG itR1 (gQ (qC (.int 3)))) (.nm 5) [5, 6, 7]
 L_law_2))
  (sSeq (sClr [4] (sAsg (.tp [(.tp [(.nm 8), (.nm 9)]), (.tp [(.nm 10), (.nm 11)])]) (gQ (qTup [(q2 dIx (qVar 4) (qC (.int 0))), (q2 dIx (qVar 4) (qC (.int 1)))]))))
  (sClr [3, 8, 9, 10, 11, 12, 13, 14, 15] (sFor (itG itL (gQ (qSl (qCall (dZipL false) [(qVar 8), (qVar 10), (qVar 9), (qVar 11)]) none (some (qC (.int 2)))))) (.tp [(.nm 12), (.nm 13), (.nm 14), (.nm 15)]) [8, 9, 10, 11, 12, 13, 14, 15]
 L_law_3))))))
def b_law : S :=
  (sSeq (sAsg (.nm 1) (gQ (qCall f_law_bag [(qVar 0)])))
  (sSeq (sClr [1, 2, 3, 4, 5, 6, 7, 8, 9, 10, 11, 12, 13, 14, 15] (sFor (itG itR1 (gQ (qC (.int 2)))) (.nm 2) [2, 3, 4, 5, 6, 7, 8, 9, 10, 11, 12, 13, 14, 15]
 L_law_4))
  (sRet (gQ (qC (.bl true))))))
def f_law : List D → Option D := runQ 1 15 b_law
def LawHolds : Prop := ∀ ns : List Int, ns.length ≤ 63 → f_law [.xl (ns.map .int)] = some (.bl true)
end
end Pv
namespace Pv
open PySem
/-- the bag -/
structure Bag where
  a : Int
  b : Int
  k : Nat
  cs : List Int
def Bag.d (B : Bag) : D := .lst true [.int B.a, .int B.b, .int B.k, .lst false (B.cs.map .int)]
def Bag.ok (B : Bag) : Prop := 0 ≤ B.a ∧ 0 ≤ B.b ∧ B.b < 2147483647 ∧ (∀ c ∈ B.cs, 0 ≤ c) ∧ B.cs.length ≤ 63
theorem cell_at (cs : List Int) (k : Nat) : (cs.drop k ++ [0])[0]? = some (cs.getD k 0) := by
  by_cases h : k < cs.length
  · rw [List.getElem?_append_left (by rw [List.length_drop]; omega), List.getElem?_drop]
    simp [List.getD, h]
  · rw [List.drop_of_length_le (by omega)]
    simp [List.getD, List.getElem?_eq_none (Nat.le_of_not_lt h)]
theorem take_ok (B : Bag) (h : B.ok) (m : Int) (h1 : 0 < m) (h2 : m < 1073741824) : ∃ (v : Int) (B' : Bag), f_law_take [B.d, .int m] = some (.int v, [B'.d]) ∧ B'.ok ∧ 0 ≤ v ∧ v < m := by
  obtain ⟨a, b, k, cs⟩ := B
  obtain ⟨q1, q2, q3, q4, q5⟩ := h
  simp only [] at q1 q2 q3 q4 q5
  have hc : 0 ≤ cs.getD k 0 := by
    rw [List.getD_eq_getElem?_getD]
    cases e : cs[k]? with
    | none => exact Int.le_refl 0
    | some c => exact q4 c (List.mem_of_getElem? e)
  have e1 : (cutP (cs.map D.int) (some (k : Int)) none).length + 1 < cap := by
    rw [cutP_from, List.length_drop, List.length_map]; show _ < 1000000; omega
  have e2 : isFL (cutP (cs.map D.int) (some (k : Int)) none) = true := by rw [cutP_mapD]; exact isFL_map (fun _ => rfl) _
  have e3 : atP (cutP (cs.map D.int) (some (k : Int)) none ++ [D.int 0]) 0 = some (D.int (cs.getD k 0)) := by
    rw [atP_0, cutP_from, ← List.map_drop, show [D.int 0] = [(0 : Int)].map D.int from rfl, ← List.map_append, List.getElem?_map, cell_at]; rfl
  have e4 : isFL (cs.map D.int) = true := isFL_map (fun _ => rfl) _
  simp only [Bag.d]
  unfold f_law_take b_law_take
  generalize hcc : cs.getD k 0 = c at *
  have d1 : dvOk m := ⟨h1, h2⟩
  have d7 : dvOk 7 := ⟨by decide, by decide⟩
  have m1 : ∀ i : Int, (i % 1000000007).natAbs < 18446744073709551616 := fun i => by omega
  by_cases ha : a = 0
  · subst ha
    by_cases hb : 1000000000000000000 ≤ c
    · have hb2 : 0 < c := by omega
      have hb3 : c ≠ 0 := by omega
      simp [-Bag.mk.injEq, atP_0, atP_1, atP_2, atP_3, D.pl, D.dep, eqv, isFL, D.isF, e1, e2, e3, e4, ixP, hb, hb2, hb3, h1, d1, d7, m1]
      exact ⟨_, ⟨c / m, _, k + 1, cs⟩, ⟨rfl, rfl, rfl, rfl, rfl⟩, ⟨Int.ediv_nonneg hc (by omega), Int.emod_nonneg _ (by decide), Int.emod_lt_of_pos _ (by decide), q4, q5⟩, Int.emod_nonneg _ (by omega), Int.emod_lt_of_pos _ h1⟩
    · simp [atP_0, atP_1, atP_2, atP_3, D.pl, D.dep, eqv, isFL, D.isF, e1, e2, e3, e4, ixP, hb, h1, d1, d7, m1]
      exact ⟨_, ⟨0, _, k + 1, cs⟩, ⟨rfl, rfl, rfl, rfl, rfl⟩, ⟨Int.le_refl 0, Int.emod_nonneg _ (by decide), Int.emod_lt_of_pos _ (by decide), q4, q5⟩, Int.emod_nonneg _ (by omega), Int.emod_lt_of_pos _ h1⟩
  · have ha2 : 0 < a := by omega
    simp [atP_0, atP_1, atP_2, atP_3, D.pl, D.dep, eqv, isFL, D.isF, e1, e2, e3, e4, ixP, ha, ha2, h1, d1, d7, m1]
    exact ⟨_, ⟨a / m, b, k, cs⟩, ⟨rfl, rfl, rfl, rfl, rfl⟩, ⟨Int.ediv_nonneg q1 (by omega), q2, q3, q4, q5⟩, Int.emod_nonneg _ (by omega), Int.emod_lt_of_pos _ h1⟩
/-- one of some things -/
theorem one_ok (B : Bag) (h : B.ok) (ts : List D) (o : Bool) (n1 : ts ≠ []) (n2 : ts.length < 1000000) (hf : isFL ts = true) : ∃ (x : D) (B' : Bag), x ∈ ts ∧ f_law_one [B.d, .lst o ts] = some (x, [B'.d]) ∧ B'.ok := by
  have hl : 0 < ts.length := List.length_pos_iff.mpr n1
  obtain ⟨v, B', e, ok, v0, v1⟩ := take_ok B h ts.length (by omega) (by omega)
  obtain ⟨j, rfl⟩ := Int.eq_ofNat_of_zero_le v0
  have hj : j < ts.length := by omega
  refine ⟨ts[j], B', List.getElem_mem hj, ?_, ok⟩
  have hx : (ts[j]).isF = true := isFL_get hf (List.getElem?_eq_getElem hj)
  unfold f_law_one b_law_one
  simp [e, atP_nat, List.getElem?_eq_getElem hj, hx, D.isF]
end Pv

/-! k65M2: cells, blocks, spots_of, Change. -/
namespace Pv
open PySem
abbrev Cell := Str × Str × Str
def cD (c : Cell) : D := .tup [.str c.1, .str c.2.1, .str c.2.2]
@[simp] theorem cD_isF (c : Cell) : (cD c).isF = true := rfl
@[simp] theorem cD_pl (c : Cell) : (cD c).pl = true := rfl
@[simp] theorem cD_dep (c : Cell) : (cD c).dep = 1 := rfl
theorem cD_eqv (c e : Cell) : eqv (cD c) (cD e) = decide (c = e) := by
  obtain ⟨a, b, d⟩ := c
  obtain ⟨a', b', d'⟩ := e
  simp only [cD, eqv, eqvL, Bool.and_true]
  by_cases h1 : a = a' <;> by_cases h2 : b = b' <;> by_cases h3 : d = d' <;> simp [h1, h2, h3]
abbrev rowD (r : List Cell) : D := .lst false (r.map cD)
@[simp] theorem row_isFL (r : List Cell) : isFL (r.map cD) = true := isFL_map cD_isF r
@[simp] theorem row_plL (r : List Cell) : plL (r.map cD) = true := plL_map cD_pl r
theorem row_depL (r : List Cell) : depL (r.map cD) ≤ 1 := depL_map (f := cD) (n := 1) (fun c => Nat.le_of_eq (cD_dep c)) r
/-- a block: its first cell has a sign, the others none -/
def Blk (b : List Cell) : Prop := ∃ c r, b = c :: r ∧ c.1 ≠ ("" : Str) ∧ ∀ e ∈ r, e.1 = ("" : Str)
def spD (p : Nat × Nat) : D := .tup [.int p.1, .int p.2]
def spotsOf : Nat → List (List Cell) → List (Nat × Nat)
  | _, [] => []
  | k, b :: bs => (k, b.length) :: spotsOf (k + b.length) bs
theorem set_last {α : Type} (ys : List α) (x y : α) : (ys ++ [x]).set ys.length y = ys ++ [y] := by simp
theorem ixP_last {n : Nat} : ixP (n + 1) (-1) = some n := by
  unfold ixP
  rw [if_neg (by decide), if_pos (by omega)]
  congr 1
  omega
theorem spots_turnA (R : D) (xs : List D) (k : Nat) (c : Cell) (h : c.1 ≠ ("" : Str)) (hl : xs.length < cap) : turn (.tp [.nm 2, .nm 3]) [2, 3] L_spots_of_1 (.tup [.int k, cD c]) [.vw R, .ow (.lst true xs), .no, .no] = some (.nx, [.vw R, .ow (.lst true (xs ++ [.tup [.int k, .int 1]])), .no, .no]) := by
  unfold L_spots_of_1
  simp [cD, atP_0, atP_1, D.pl, D.dep, eqv, isFL, D.isF, h, hl]
theorem spots_turnB (R : D) (xs : List D) (k a b : Nat) (c : Cell) (h : c.1 = ("" : Str)) : turn (.tp [.nm 2, .nm 3]) [2, 3] L_spots_of_1 (.tup [.int k, cD c]) [.vw R, .ow (.lst true (xs ++ [.tup [.int a, .int b]])), .no, .no] = some (.nx, [.vw R, .ow (.lst true (xs ++ [.tup [.int a, .int (b + 1)]])), .no, .no]) := by
  unfold L_spots_of_1
  simp [cD, atP_0, atP_1, atP_last, D.pl, D.dep, eqv, isFL, D.isF, h, ixP_last, set_last]
abbrev tgS : Tg := .tp [.nm 2, .nm 3]
theorem spots_tail (R : D) (xs : List D) (rest : List Cell) : ∀ (r : List Cell) (k a b : Nat), (∀ e ∈ r, e.1 = ("" : Str)) →
    forP tgS [2, 3] L_spots_of_1 (enumFr k ((r ++ rest).map cD)) [.vw R, .ow (.lst true (xs ++ [.tup [.int a, .int b]])), .no, .no] = forP tgS [2, 3] L_spots_of_1 (enumFr (k + r.length) (rest.map cD)) [.vw R, .ow (.lst true (xs ++ [.tup [.int a, .int ((b + r.length : Nat) : Int)]])), .no, .no]
  | [], k, a, b, _ => rfl
  | c :: r, k, a, b, h => by
    have e1 := spots_turnB R xs k a b c (h c List.mem_cons_self)
    rw [List.cons_append, List.map_cons, enumFr, forP_nx e1]
    have e2 := spots_tail R xs rest r (k + 1) a (b + 1) (fun e he => h e (List.mem_cons_of_mem _ he))
    rw [show ((b + 1 : Nat) : Int) = (b : Int) + 1 from rfl] at e2
    rw [e2, List.length_cons, show k + 1 + r.length = k + (r.length + 1) by omega, show b + 1 + r.length = b + (r.length + 1) by omega]
theorem spots_blocks (R : D) : ∀ (bs : List (List Cell)) (k : Nat) (xs : List D), (∀ b ∈ bs, Blk b) → xs.length + bs.length ≤ cap →
    forP tgS [2, 3] L_spots_of_1 (enumFr k (bs.flatten.map cD)) [.vw R, .ow (.lst true xs), .no, .no] = some (.nx, [.vw R, .ow (.lst true (xs ++ (spotsOf k bs).map spD)), .no, .no])
  | [], k, xs, _, _ => by simp [spotsOf, enumFr, forP_nil]
  | b :: bs, k, xs, h, hl => by
    obtain ⟨c, r, rfl, h1, h2⟩ := h b List.mem_cons_self
    rw [List.length_cons] at hl
    have e1 := spots_turnA R xs k c h1 (by omega)
    rw [List.flatten_cons, List.cons_append, List.map_cons, enumFr, forP_nx e1]
    have e2 := spots_tail R xs bs.flatten r (k + 1) k 1 h2
    rw [show ((1 : Nat) : Int) = 1 from rfl] at e2
    rw [e2]
    have e3 := spots_blocks R bs (k + 1 + r.length) (xs ++ [.tup [.int k, .int ((1 + r.length : Nat) : Int)]]) (fun b hb => h b (List.mem_cons_of_mem _ hb)) (by rw [List.length_append, List.length_singleton]; omega)
    rw [e3]
    simp only [spotsOf, List.map_cons, spD, List.length_cons, List.append_assoc, List.cons_append, List.nil_append]
    rw [show k + 1 + r.length = k + (r.length + 1) by omega, show 1 + r.length = r.length + 1 by omega]
theorem spots_ok (bs : List (List Cell)) (h : ∀ b ∈ bs, Blk b) (hl : bs.length ≤ cap) : f_spots_of [rowD bs.flatten] = some (.lst true ((spotsOf 0 bs).map spD)) := by
  show f_spots_of [.lst false (bs.flatten.map cD)] = _
  have e := spots_blocks (.lst false (bs.flatten.map cD)) bs 0 [] h (by rw [List.length_nil]; omega)
  have hf : isFL (bs.flatten.map cD) = true := row_isFL _
  generalize bs.flatten.map cD = r at *
  unfold f_spots_of b_spots_of
  simp only [List.nil_append] at e
  simp [D.isF, e, isFL, hf]
/-! ### a trail of changes: what each block is, and is to be -/
structure Tr where
  ps : List (List Cell × List Cell)
def Tr.one (t : Tr) : List Cell := (t.ps.map (·.1)).flatten
def Tr.two (t : Tr) : List Cell := (t.ps.map (·.2)).flatten
def Tr.ok (t : Tr) : Prop := t.ps.length ≤ 1000 ∧ ∀ p ∈ t.ps, p.1.length = p.2.length ∧ Blk p.2 ∧ p.2.length ≤ 1000
def Tr.n (t : Tr) : Nat := t.ps.length
def Tr.spots (t : Tr) : List (Nat × Nat) := spotsOf 0 (t.ps.map (·.2))
def Tr.d (o : Bool) (t : Tr) : D := .ins o 0 ["before", "behind", "spots"] [rowD t.one, rowD t.two, .lst false (t.spots.map spD)]
theorem spD_isF (p : Nat × Nat) : (spD p).isF = true := rfl
theorem tr_isF (t : Tr) : (t.d false).isF = true := by
  simp [Tr.d, D.isF, isFL, isFL_map spD_isF]
theorem frz_rows (ds : List D) (h : isFL ds = true) (o : Bool) : D.frz (.lst o ds) = .lst false ds := by
  simp only [D.frz, frzL_id ds h]
theorem mk_ok (t : Tr) (h : t.ok) : mkI 0 f_Change_init [rowD t.one, rowD t.two] = some (t.d true) := by
  have e : f_spots_of [rowD t.two] = some (.lst true (t.spots.map spD)) := spots_ok _ (fun b hb => by
    obtain ⟨p, hp, rfl⟩ := List.mem_map.mp hb
    exact (h.2 p hp).2.1) (by rw [List.length_map]; exact Nat.le_trans h.1 (by decide))
  have e2 : D.frz (.lst true (t.spots.map spD)) = .lst false (t.spots.map spD) := frz_rows _ (isFL_map spD_isF _) _
  unfold f_Change_init b_Change_init
  simp [putFd, lkF, e, e2, Tr.d]
/-! ### the moves -/
/-- the moves from block at, in state st: same tells whether the block stays -/
def mvs (at_ st : Nat) (same : Bool) (size : Nat) : List (Int × Str × (Nat × Nat)) :=
  (if same then [((0 : Int), ("pass" : Str), (at_ + 1, 0))] else []) ++ [if st = 0 then (4 + (size : Int), ("begin" : Str), (at_ + 1, 1)) else ((size : Int), ("on" : Str), (at_ + 1, 1))]
def Tr.mv (t : Tr) (q : Nat × Nat) : List (Int × Str × (Nat × Nat)) := match t.ps[q.1]? with
  | some p => mvs q.1 q.2 (decide (p.1 = p.2)) p.2.length
  | none => []
theorem spots_len : ∀ (bs : List (List Cell)) (k : Nat), (spotsOf k bs).length = bs.length
  | [], _ => rfl
  | b :: bs, k => by simp [spotsOf, spots_len bs]
theorem spots_at : ∀ (ps : List (List Cell × List Cell)) (k i : Nat) (p : List Cell × List Cell), ps[i]? = some p → ∃ o, (spotsOf k (ps.map (·.2)))[i]? = some (o, p.2.length) ∧ k ≤ o ∧
    ∀ (w1 w2 : List Cell), (∀ q ∈ ps, q.1.length = q.2.length) → ((ps.map (·.1)).flatten.take (o - k + p.2.length)).drop (o - k) = p.1 ∧ ((ps.map (·.2)).flatten.take (o - k + p.2.length)).drop (o - k) = p.2
  | [], k, i, p, h => by simp at h
  | q :: ps, k, 0, p, h => by
    cases h
    refine ⟨k, rfl, Nat.le_refl _, fun _ _ hq => ?_⟩
    have hl := hq q List.mem_cons_self
    rw [Nat.sub_self, Nat.zero_add, List.drop_zero, List.drop_zero, List.map_cons, List.flatten_cons, List.map_cons, List.flatten_cons]
    exact ⟨List.take_left' hl, List.take_left' rfl⟩
  | q :: ps, k, i + 1, p, h => by
    obtain ⟨o, e1, e2, e3⟩ := spots_at ps (k + q.2.length) i p h
    refine ⟨o, e1, by omega, fun w1 w2 hq => ?_⟩
    obtain ⟨e4, e5⟩ := e3 w1 w2 (fun r hr => hq r (List.mem_cons_of_mem _ hr))
    have hl := hq q List.mem_cons_self
    rw [List.map_cons, List.flatten_cons, List.map_cons, List.flatten_cons]
    have a1 : o - k = q.1.length + (o - (k + q.2.length)) := by omega
    have a2 : o - k = q.2.length + (o - (k + q.2.length)) := by omega
    constructor
    · rw [a1, Nat.add_assoc, List.take_length_add_append, List.drop_length_add_append]; exact e4
    · rw [a2, Nat.add_assoc, List.take_length_add_append, List.drop_length_add_append]; exact e5
theorem mv_end (t : Tr) (o : Bool) (st : Nat) : f_Change_moves_from [t.d o, nD (t.n, st)] = some (.lst false []) := by
  have e : t.spots.length = t.n := by unfold Tr.spots Tr.n; rw [spots_len, List.length_map]
  unfold f_Change_moves_from b_Change_moves_from
  simp [Tr.d, nD, lkF, e, D.isF, isFL, D.pl, D.dep, eqv]
theorem mv_ok (t : Tr) (h : t.ok) (o : Bool) (q : Nat × Nat) (hq : q.1 < t.n) : f_Change_moves_from [t.d o, nD q] = some (.lst true ((t.mv q).map mD)) := by
  obtain ⟨a, st⟩ := q
  have e : t.spots.length = t.n := by unfold Tr.spots Tr.n; rw [spots_len, List.length_map]
  have hn : ¬ (a : Int) = (t.n : Int) := by simp only at hq; omega
  obtain ⟨p, hp⟩ : ∃ p, t.ps[a]? = some p := ⟨_, List.getElem?_eq_getElem hq⟩
  obtain ⟨off, e1, _, e2⟩ := spots_at t.ps 0 a p hp
  obtain ⟨e3, e4⟩ := e2 [] [] (fun q hq => (h.2 q hq).1)
  rw [Nat.sub_zero] at e3 e4
  have e5 : atP (t.spots.map spD) (a : Int) = some (spD (off, p.2.length)) := by
    rw [atP_nat, List.getElem?_map]; unfold Tr.spots; rw [e1]; rfl
  have e6 : cutP (t.one.map cD) (some (off : Int)) (some ((off : Int) + (p.2.length : Int))) = p.1.map cD := by
    rw [← Int.natCast_add, cutP_mid, ← List.map_take, ← List.map_drop]; unfold Tr.one; rw [e3]
  have e7 : cutP (t.two.map cD) (some (off : Int)) (some ((off : Int) + (p.2.length : Int))) = p.2.map cD := by
    rw [← Int.natCast_add, cutP_mid, ← List.map_take, ← List.map_drop]; unfold Tr.two; rw [e4]
  have e8 : depL (p.1.map cD) ≤ 39 := by have := row_depL p.1; omega
  have e9 : depL (p.2.map cD) ≤ 39 := by have := row_depL p.2; omega
  unfold f_Change_moves_from b_Change_moves_from
  unfold Tr.mv mvs
  rw [hp]
  by_cases hs : p.1 = p.2
  · by_cases h0 : st = 0
    · subst h0
      simp [Tr.d, nD, mD, spD, lkF, e, e5, e6, e7, e8, e9, cap, hs, hn, D.isF, isFL, D.pl, D.dep, eqv, eqvL_map cD_eqv]
    · simp [Tr.d, nD, mD, spD, lkF, e, e5, e6, e7, e8, e9, cap, hs, h0, hn, D.isF, isFL, D.pl, D.dep, eqv, eqvL_map cD_eqv]
  · by_cases h0 : st = 0
    · subst h0
      simp [Tr.d, nD, mD, spD, lkF, e, e5, e6, e7, e8, e9, cap, hs, hn, D.isF, isFL, D.pl, D.dep, eqv, eqvL_map cD_eqv]
    · simp [Tr.d, nD, mD, spD, lkF, e, e5, e6, e7, e8, e9, cap, hs, h0, hn, D.isF, isFL, D.pl, D.dep, eqv, eqvL_map cD_eqv]
end Pv

/-! k65M3: cheapest, settle, priced. -/
namespace Pv
open PySem
theorem mv_any (t : Tr) (h : t.ok) (o : Bool) (q : Nd) (hq : q.1 ≤ t.n) : ∃ o', f_Change_moves_from [t.d o, nD q] = some (.lst o' ((t.mv q).map mD)) := by
  by_cases e : q.1 < t.n
  · exact ⟨true, mv_ok t h o q e⟩
  · have e2 : q.1 = t.n := by omega
    obtain ⟨a, st⟩ := q
    simp only at e2
    subst e2
    refine ⟨false, ?_⟩
    have e3 : t.mv (t.n, st) = [] := by unfold Tr.mv Tr.n; simp
    rw [mv_end, e3]; rfl
theorem mv_frz (ms : List Mv) (o : Bool) : D.frz (.lst o (ms.map mD)) = .lst false (ms.map mD) := by
  simp only [D.frz, frzL_id _ (isFL_map mD_isF ms)]
theorem cheapest_turn (T N : D) (o : Bool) (ks : List Nd) (v : Nd → Option Int) (f : Option Int) (m : Mv) (hm : m.2.2 ∈ ks) :
    turn (.tp [.nm 4, .nm 5, .nm 6]) [4, 5, 6, 7] L_cheapest_1 (mD m) [.vw T, .vw (pdD o ks v), .vw N, .ow (oD f), .no, .no, .no, .no] = some (.nx, [.vw T, .vw (pdD o ks v), .vw N, .ow (oD (chStep v f m)), .no, .no, .no, .no]) := by
  obtain ⟨c, nm, b⟩ := m
  simp only at hm
  unfold L_cheapest_1
  simp only [mD, pdD]
  cases hv : v b with
  | none => simp [lk_pd, hm, hv, oD, chStep, D.isF]
  | some r =>
    cases f with
    | none => simp [lk_pd, hm, hv, oD, chStep, D.isF]
    | some x =>
      by_cases hx : c + r < x
      · simp [lk_pd, hm, hv, oD, chStep, D.isF, hx]
      · simp [lk_pd, hm, hv, oD, chStep, D.isF, hx]
theorem cheapest_ok (t : Tr) (h : t.ok) (o o2 : Bool) (ks : List Nd) (v : Nd → Option Int) (q : Nd) (hq : q.1 ≤ t.n) (hk : q ∈ ks) (hm : ∀ m ∈ t.mv q, m.2.2 ∈ ks) :
    f_cheapest [t.d o, pdD o2 ks v, nD q] = some (oD (cheap v (t.mv q) (v q))) := by
  obtain ⟨o', e⟩ := mv_any t h o q hq
  have e2 := forP_fold (t := .tp [.nm 4, .nm 5, .nm 6]) (dead := [4, 5, 6, 7]) (body := L_cheapest_1) mD (fun f => [.vw (t.d o), .vw (pdD o2 ks v), .vw (nD q), .ow (oD f), .no, .no, .no, .no]) (chStep v) (t.mv q) (v q)
    (fun f m hmm => cheapest_turn _ _ o2 ks v f m (hm m hmm))
  have e3 := mv_frz (t.mv q) o'
  have e4 := isFL_map mD_isF (t.mv q)
  simp only [Tr.d, pdD] at e e2 ⊢
  unfold f_cheapest b_cheapest
  simp [lk_pd, hk, e, e2, e3, e4]
  rfl
end Pv
namespace Pv
open PySem
theorem settle_turn (t : Tr) (h : t.ok) (o : Bool) (ks : List Nd) (v : Nd → Option Int) (b : Bool) (Hr : D) (q : Nd) (hq : q.1 ≤ t.n) (hk : q ∈ ks) (hm : ∀ m ∈ t.mv q, m.2.2 ∈ ks) (hl : ks.length < cap) :
    turn (.nm 4) [4, 5] L_settle_1 (nD q) [.vw (t.d o), .io (pdD true ks v), .vw Hr, .ow (.bl b), .no, .no] = some (.nx, [.vw (t.d o), .io (pdD true ks (passStep t.mv (v, b) q).1), .vw Hr, .ow (.bl (passStep t.mv (v, b) q).2), .no, .no]) := by
  have e := cheapest_ok t h o true ks v q hq hk hm
  have ea : addk ks q = ks := by unfold addk; rw [if_pos hk]
  have ep := put_pd ks v q (cheap v (t.mv q) (v q))
  rw [ea] at ep
  simp only [pdD] at e ep ⊢
  unfold L_settle_1
  by_cases hc : cheap v (t.mv q) (v q) = v q
  · have e1 : passStep t.mv (v, b) q = (v, b) := by unfold passStep; rw [if_pos hc]
    rw [e1]
    simp [lk_pd, hk, e, oD_eqv, hc]
  · have e1 : passStep t.mv (v, b) q = (updv v q (cheap v (t.mv q) (v q)), true) := by unfold passStep; rw [if_neg hc]
    rw [e1]
    simp [lk_pd, hk, e, oD_eqv, hc, ep, hl]
theorem settle_pass (t : Tr) (h : t.ok) (o : Bool) (ks : List Nd) (here : List Nd) (hq : ∀ q ∈ here, q.1 ≤ t.n) (hk : ∀ q ∈ here, q ∈ ks) (hm : ∀ q ∈ here, ∀ m ∈ t.mv q, m.2.2 ∈ ks) (hl : ks.length < cap) (v : Nd → Option Int) (b : Bool) :
    L_settle_2 [.vw (t.d o), .io (pdD true ks v), .vw (.lst false (here.map nD)), .ow (.bl b), .no, .no] = some (.nx, [.vw (t.d o), .io (pdD true ks (here.foldl (passStep t.mv) (v, false)).1), .vw (.lst false (here.map nD)), .ow (.bl (here.foldl (passStep t.mv) (v, false)).2), .no, .no]) := by
  have e := forP_fold (t := .nm 4) (dead := [4, 5]) (body := L_settle_1) nD (fun s : (Nd → Option Int) × Bool => [.vw (t.d o), .io (pdD true ks s.1), .vw (.lst false (here.map nD)), .ow (.bl s.2), .no, .no]) (passStep t.mv) here (v, false)
    (fun s q hqq => settle_turn t h o ks s.1 s.2 _ q (hq q hqq) (hk q hqq) (hm q hqq) hl)
  have e4 := isFL_map nD_isF here
  unfold L_settle_2
  simp [e, e4, D.isF]
theorem settle_ok (t : Tr) (h : t.ok) (o : Bool) (ks : List Nd) (here : List Nd) (nd : here.Nodup) (hq : ∀ q ∈ here, q.1 ≤ t.n) (hk : ∀ q ∈ here, q ∈ ks) (hm : ∀ q ∈ here, ∀ m ∈ t.mv q, m.2.2 ∈ ks) (ho : ∀ q ∈ here, ∀ m ∈ t.mv q, m.2.2 ∉ here) (hl : ks.length < cap) (v : Nd → Option Int) :
    f_settle [t.d o, pdD true ks v, .lst false (here.map nD)] = some (.non, [pdD true ks (oneP t.mv here v)]) := by
  have p1 := settle_pass t h o ks here hq hk hm hl v true
  have i1 := pass_fst t.mv here v false nd ho
  have p2 := settle_pass t h o ks here hq hk hm hl (oneP t.mv here v) true
  rw [pass_id t.mv (oneP t.mv here v) false here (oneP_fix t.mv here v ho)] at p2
  rw [i1] at p1
  have w : whileP T_settle_1 [4, 5] L_settle_2 fuel [.vw (t.d o), .io (pdD true ks v), .vw (.lst false (here.map nD)), .ow (.bl true), .no, .no] = some (.nx, [.vw (t.d o), .io (pdD true ks (oneP t.mv here v)), .vw (.lst false (here.map nD)), .ow (.bl false), .no, .no]) := by
    show whileP T_settle_1 [4, 5] L_settle_2 (999997 + 1 + 1 + 1) _ = _
    rw [whileP_nx (by simp [T_settle_1]) p1]
    cases hb : (here.foldl (passStep t.mv) (v, false)).2 with
    | false =>
      simp only [clr, List.set_cons_succ, List.set_cons_zero]
      exact whileP_end (by simp [T_settle_1])
    | true =>
      simp only [clr, List.set_cons_succ, List.set_cons_zero]
      rw [whileP_nx (by simp [T_settle_1]) p2]
      simp only [clr, List.set_cons_succ, List.set_cons_zero]
      exact whileP_end (by simp [T_settle_1])
  unfold f_settle b_settle
  simp [w]
end Pv

/-! k65M4: priced. -/
namespace Pv
open PySem
theorem tr_len (t : Tr) : t.spots.length = t.n := by unfold Tr.spots Tr.n; rw [spots_len, List.length_map]
theorem last_ok (t : Tr) (o : Bool) : f_Change_last_at [t.d o] = some (.int t.n) := by
  unfold f_Change_last_at b_Change_last_at
  simp [Tr.d, lkF, tr_len]
theorem end_ok (t : Tr) (o : Bool) (q : Nd) : f_Change_is_end [t.d o, nD q] = some (.bl (decide (q.1 = t.n))) := by
  unfold f_Change_is_end b_Change_is_end
  by_cases h : q.1 = t.n
  · simp [Tr.d, nD, lkF, tr_len, D.isF, D.pl, D.dep, eqv, atP_0, h]
  · have : ¬ (q.1 : Int) = (t.n : Int) := by omega
    simp [Tr.d, nD, lkF, tr_len, D.isF, D.pl, D.dep, eqv, atP_0, h, this]
theorem nodes_ok (t : Tr) (o : Bool) (a : Nat) : f_Change_nodes_at [t.d o, .int a] = some (.lst false ([(a, 0), (a, 1)].map nD)) := by
  unfold f_Change_nodes_at b_Change_nodes_at
  simp [nD, D.isF, isFL]
theorem first_ok (t : Tr) (o : Bool) : f_Change_first_node [t.d o] = some (nD (0, 0)) := by
  unfold f_Change_first_node b_Change_first_node
  simp [nD, D.isF, isFL]
/-- the least cost behind: of what is the same (true) and how large, from state st -/
def PL : List (Bool × Nat) → Nat → Int
  | [], _ => 0
  | (e, s) :: L, st => if e = true then (if (if st = 0 then 4 + (s : Int) else (s : Int)) + PL L 1 < 0 + PL L 0 then (if st = 0 then 4 + (s : Int) else (s : Int)) + PL L 1 else 0 + PL L 0) else (if st = 0 then 4 + (s : Int) else (s : Int)) + PL L 1
def Tr.es (t : Tr) : List (Bool × Nat) := t.ps.map fun p => (decide (p.1 = p.2), p.2.length)
def Tr.P (t : Tr) (q : Nd) : Int := PL (t.es.drop q.1) q.2
def keysB (n k : Nat) : List Nd := (List.range k).flatMap fun j => [(n - j, 0), (n - j, 1)]
theorem keysB_succ (n k : Nat) : keysB n (k + 1) = keysB n k ++ [(n - k, 0), (n - k, 1)] := by
  unfold keysB
  rw [List.range_succ, List.flatMap_append]
  rfl
theorem mem_keysB {n k : Nat} (h : k ≤ n + 1) (q : Nd) : q ∈ keysB n k ↔ (n < q.1 + k ∧ q.1 ≤ n ∧ q.2 < 2) := by
  unfold keysB
  simp only [List.mem_flatMap, List.mem_range, List.mem_cons, List.not_mem_nil, or_false]
  constructor
  · rintro ⟨j, hj, e | e⟩ <;> subst e <;> refine ⟨?_, ?_, ?_⟩ <;> simp only <;> omega
  · rintro ⟨h1, h2, h3⟩
    refine ⟨n - q.1, by omega, ?_⟩
    obtain ⟨a, b⟩ := q
    simp only at h1 h2 h3 ⊢
    rw [show n - (n - a) = a by omega]
    rcases (show b = 0 ∨ b = 1 by omega) with e | e <;> simp [e]
theorem keysB_len (n k : Nat) : (keysB n k).length = 2 * k := by
  induction k with
  | zero => rfl
  | succ k ih => rw [keysB_succ, List.length_append, ih]; simp; omega
def Tr.vv (t : Tr) (k : Nat) : Nd → Option Int := fun q => if q ∈ keysB t.n k then some (t.P q) else none
theorem P_step (t : Tr) (q : Nd) (p : List Cell × List Cell) (hp : t.ps[q.1]? = some p) : t.P q = (if p.1 = p.2 then (if (if q.2 = 0 then 4 + (p.2.length : Int) else (p.2.length : Int)) + t.P (q.1 + 1, 1) < 0 + t.P (q.1 + 1, 0) then (if q.2 = 0 then 4 + (p.2.length : Int) else (p.2.length : Int)) + t.P (q.1 + 1, 1) else 0 + t.P (q.1 + 1, 0))
    else (if q.2 = 0 then 4 + (p.2.length : Int) else (p.2.length : Int)) + t.P (q.1 + 1, 1)) := by
  have hl : q.1 < t.es.length := by unfold Tr.es; rw [List.length_map]; exact (List.getElem?_eq_some_iff.mp hp).1
  have e : t.es.drop q.1 = (decide (p.1 = p.2), p.2.length) :: t.es.drop (q.1 + 1) := by
    rw [List.drop_eq_getElem_cons hl]
    congr 1
    have : t.es[q.1]? = some (decide (p.1 = p.2), p.2.length) := by unfold Tr.es; rw [List.getElem?_map, hp]; rfl
    rw [List.getElem?_eq_getElem hl] at this
    exact Option.some.inj this
  unfold Tr.P
  rw [e]
  simp only [PL, decide_eq_true_eq]
theorem P_end (t : Tr) (st : Nat) : t.P (t.n, st) = 0 := by
  unfold Tr.P
  rw [List.drop_of_length_le (by unfold Tr.es Tr.n; rw [List.length_map]; exact Nat.le_refl _)]
  rfl
/-- what a level's nodes come to -/
theorem cheap_level (t : Tr) (v : Nd → Option Int) (a st : Nat) (ha : a ≤ t.n) (h0 : a = t.n → v (a, st) = some 0) (h1 : a < t.n → v (a, st) = none) (hv : a < t.n → v (a + 1, 0) = some (t.P (a + 1, 0)) ∧ v (a + 1, 1) = some (t.P (a + 1, 1))) :
    cheap v (t.mv (a, st)) (v (a, st)) = some (t.P (a, st)) := by
  by_cases e : a = t.n
  · have e3 : t.mv (a, st) = [] := by unfold Tr.mv Tr.n at *; simp [e]
    rw [e3, h0 e, e, P_end]
    rfl
  · have hlt : a < t.n := by omega
    obtain ⟨p, hp⟩ : ∃ p, t.ps[a]? = some p := ⟨_, List.getElem?_eq_getElem hlt⟩
    obtain ⟨v0, v1⟩ := hv hlt
    rw [h1 hlt, P_step t (a, st) p hp]
    unfold Tr.mv mvs
    simp only [hp]
    by_cases hs : p.1 = p.2 <;> by_cases h0' : st = 0 <;> simp [cheap, chStep, hs, h0', v0, v1]
    all_goals (split <;> rfl)
theorem priced_turn1 (t : Tr) (o : Bool) (ks : List Nd) (v : Nd → Option Int) (Hr : D) (q : Nd) (hl : ks.length + 1 < cap) :
    turn (.nm 4) [4] L_priced_1 (nD q) [.vw (t.d o), .ow (pdD true ks v), .no, .ow Hr, .no] = some (.nx, [.vw (t.d o), .ow (pdD true (addk ks q) (updv v q (if q.1 = t.n then some 0 else none))), .no, .ow Hr, .no]) := by
  have e := end_ok t o q
  have e2 := put_non ks v q
  have e3 := put_int (addk ks q) (updv v q none) q 0
  rw [addk_same (mem_addk ks q), updv_updv] at e3
  have l1 : ks.length < cap := by omega
  have l2 := addk_len ks q
  have l3 : (addk ks q).length < cap := by omega
  simp only [pdD, Tr.d] at e e2 e3 ⊢
  unfold L_priced_1
  by_cases h : q.1 = t.n
  · rw [if_pos h]
    simp [e, e2, e3, h, l1, l3, D.isF]
  · rw [if_neg h]
    simp [e, e2, e3, h, l1, l3, D.isF]
def Tr.st (t : Tr) (o : Bool) (k : Nat) : PS := [.vw (t.d o), .ow (pdD true (keysB t.n k) (t.vv k)), .no, .no, .no]
theorem priced_turn2 (t : Tr) (h : t.ok) (o : Bool) (k : Nat) (hk : k < t.n + 1) :
    turn (.nm 2) [2, 3, 4] L_priced_2 (.int k) (t.st o k) = some (.nx, t.st o (k + 1)) := by
  have hn : t.n ≤ 1000 := h.1
  have hk' : k ≤ t.n + 1 := by omega
  obtain ⟨a, hak⟩ : ∃ a, a + k = t.n := ⟨t.n - k, by omega⟩
  have hak2 : t.n - k = a := by omega
  have ha : a ≤ t.n := by omega
  have m0 : (a, 0) ∉ keysB t.n k := fun z => by have := ((mem_keysB hk' _).mp z).1; simp only at this; omega
  have m1 : (a, 1) ∉ keysB t.n k := fun z => by have := ((mem_keysB hk' _).mp z).1; simp only at this; omega
  have kl : (keysB t.n k).length = 2 * k := keysB_len _ _
  have kl2 : (keysB t.n (k + 1)).length = 2 * (k + 1) := keysB_len _ _
  obtain ⟨x, hx⟩ : ∃ x : Option Int, x = if a = t.n then some 0 else none := ⟨_, rfl⟩
  have t0 := priced_turn1 t o (keysB t.n k) (t.vv k) (.lst false ([(a, 0), (a, 1)].map nD)) (a, 0) (by rw [kl]; show _ < 1000000; omega)
  have t1 := priced_turn1 t o (keysB t.n k ++ [(a, 0)]) (updv (t.vv k) (a, 0) x) (.lst false ([(a, 0), (a, 1)].map nD)) (a, 1) (by rw [List.length_append, kl]; show _ < 1000000; simp; omega)
  rw [addk_new m0] at t0
  simp only [← hx] at t0 t1
  rw [addk_new (by simp [m1])] at t1
  have ek : keysB t.n k ++ [(a, 0)] ++ [(a, 1)] = keysB t.n (k + 1) := by rw [keysB_succ, List.append_assoc, hak2]; rfl
  rw [ek] at t1
  obtain ⟨v2, hv2⟩ : ∃ v2 : Nd → Option Int, v2 = updv (updv (t.vv k) (a, 0) x) (a, 1) x := ⟨_, rfl⟩
  rw [← hv2] at t1
  have i0 : v2 (a, 0) = x := by simp [hv2, updv]
  have i1 : v2 (a, 1) = x := by simp [hv2, updv]
  have i2 : ∀ q : Nd, q ≠ (a, 0) → q ≠ (a, 1) → v2 q = t.vv k q := fun q h1 h2 => by simp only [hv2, updv]; rw [if_neg h2, if_neg h1]
  have f1 : forP (.nm 4) [4] L_priced_1 ([(a, 0), (a, 1)].map nD) [.vw (t.d o), .ow (pdD true (keysB t.n k) (t.vv k)), .no, .ow (.lst false ([(a, 0), (a, 1)].map nD)), .no] = some (.nx, [.vw (t.d o), .ow (pdD true (keysB t.n (k + 1)) v2), .no, .ow (.lst false ([(a, 0), (a, 1)].map nD)), .no]) := by
    show forP (.nm 4) [4] L_priced_1 [nD (a, 0), nD (a, 1)] _ = _
    rw [forP_nx t0, forP_nx t1]
    rfl
  have tgt : ∀ q ∈ [(a, 0), (a, 1)], ∀ m ∈ t.mv q, m.2.2.1 = a + 1 ∧ m.2.2.2 < 2 ∧ a < t.n := fun q hq m hm => by
    have hq1 : q.1 = a := by simp at hq; rcases hq with e | e <;> rw [e]
    unfold Tr.mv at hm
    cases hp : t.ps[q.1]? with
    | none => rw [hp] at hm; simp at hm
    | some p =>
      rw [hp] at hm
      have hlt := (List.getElem?_eq_some_iff.mp hp).1
      rw [hq1] at hlt
      unfold mvs at hm
      simp only [List.mem_append, List.mem_singleton] at hm
      rcases hm with hm | hm
      · split at hm
        · simp at hm; rw [hm]; simp only; rw [hq1]; exact ⟨rfl, by decide, hlt⟩
        · simp at hm
      · rw [hm]; split <;> (simp only; rw [hq1]; exact ⟨rfl, by decide, hlt⟩)
  have f2 := settle_ok t h o (keysB t.n (k + 1)) [(a, 0), (a, 1)] (by simp) (fun q hq => by simp at hq; rcases hq with e | e <;> rw [e] <;> exact ha) (fun q hq => by rw [← ek]; simp at hq ⊢; rcases hq with e | e <;> simp [e])
    (fun q hq m hm => by
      obtain ⟨e1, e2, e3⟩ := tgt q hq m hm
      refine (mem_keysB (by omega) _).mpr ⟨by omega, by omega, e2⟩) (fun q hq m hm z => by
      obtain ⟨e1, e2, e3⟩ := tgt q hq m hm
      simp at z
      rcases z with z | z <;> (rw [z] at e1; simp only at e1; omega)) (by rw [kl2]; show _ < 1000000; omega) v2
  have hlev : ∀ st, st < 2 → cheap v2 (t.mv (a, st)) (v2 (a, st)) = some (t.P (a, st)) := fun st hst => by
    have ex : v2 (a, st) = x := by rcases (show st = 0 ∨ st = 1 by omega) with e | e <;> rw [e] <;> assumption
    refine cheap_level t v2 a st ha (fun e => by rw [ex, hx]; exact if_pos e) (fun e => by rw [ex, hx]; exact if_neg (by omega)) fun hlt => ?_
    have kk : ∀ s, s < 2 → v2 (a + 1, s) = some (t.P (a + 1, s)) := fun s hs => by
      rw [i2 _ (by simp) (by simp)]
      unfold Tr.vv
      rw [if_pos ((mem_keysB hk' _).mpr ⟨(by simp only; omega), (show a + 1 ≤ t.n by omega), hs⟩)]
    exact ⟨kk 0 (by decide), kk 1 (by decide)⟩
  have ev : oneP t.mv [(a, 0), (a, 1)] v2 = t.vv (k + 1) := by
    funext q
    unfold oneP
    by_cases h0 : q = (a, 0)
    · subst h0
      rw [if_pos (by simp), hlev 0 (by decide)]
      unfold Tr.vv
      rw [if_pos ((mem_keysB (by omega) _).mpr ⟨by simp only; omega, ha, by simp only; omega⟩)]
    · by_cases h1 : q = (a, 1)
      · subst h1
        rw [if_pos (by simp), hlev 1 (by decide)]
        unfold Tr.vv
        rw [if_pos ((mem_keysB (by omega) _).mpr ⟨by simp only; omega, ha, by simp only; omega⟩)]
      · rw [if_neg (by simp [h0, h1]), i2 q h0 h1]
        unfold Tr.vv
        have : q ∈ keysB t.n k ↔ q ∈ keysB t.n (k + 1) := by
          rw [← ek]
          simp only [List.mem_append, List.mem_cons, List.not_mem_nil, or_false, or_assoc]
          exact ⟨fun z => .inl z, fun z => z.elim id fun z => z.elim (fun z => absurd z h0) fun z => absurd z h1⟩
        by_cases hq : q ∈ keysB t.n k
        · rw [if_pos hq, if_pos (this.mp hq)]
        · rw [if_neg hq, if_neg fun z => hq (this.mpr z)]
  rw [ev] at f2
  have l0 := last_ok t o
  have l1 := nodes_ok t o a
  have l2 := isFL_map nD_isF [(a, 0), (a, 1)]
  have ea : (t.n : Int) - (k : Int) = (a : Int) := by omega
  have l3 : D.frz (.lst false ([(a, 0), (a, 1)].map nD)) = .lst false ([(a, 0), (a, 1)].map nD) := by simp only [D.frz, frzL_id _ l2]
  generalize [(a, 0), (a, 1)].map nD = hr at *
  simp only [Tr.st]
  unfold L_priced_2
  simp only [Tr.d] at l0 l1 f1 f2 ⊢
  simp [l0, l1, l2, l3, ea, f1, f2, D.isF]
theorem priced_ok (t : Tr) (h : t.ok) (o : Bool) : f_priced [t.d o] = some (pdD true (keysB t.n (t.n + 1)) (t.vv (t.n + 1))) := by
  have hn : t.n ≤ 1000 := h.1
  have l0 := last_ok t o
  obtain ⟨σ', e1, e2⟩ := forP_inv (t := .nm 2) (dead := [2, 3, 4]) (body := L_priced_2) (fun k : Nat => D.int (k : Int)) (fun k σ => σ = t.st o k) (List.range (t.n + 1)) 0 (t.st o 0)
    (fun j x σ hj hi => by
      obtain ⟨rfl, hlt⟩ := range_get hj
      rw [Nat.zero_add] at hi ⊢
      subst hi
      exact ⟨_, priced_turn2 t h o x hlt, rfl⟩) rfl
  rw [List.length_range, Nat.zero_add] at e2
  subst e2
  have hs := itR1_nat (i := (t.n : Int) + 1) (t.n + 1) (Int.natCast_succ _).symm (by omega)
  have e3 : t.st o 0 = [.vw (t.d o), .ow (.dic true true [] []), .no, .no, .no] := by simp [Tr.st, pdD, keysB]
  rw [e3] at e1
  simp only [Tr.st] at e1
  unfold f_priced b_priced
  simp only [Tr.d] at l0 e1 ⊢
  simp [-itR1, l0, e1, hs]
end Pv

/-! k65M5: first_least, way_of, walked, fair. -/
namespace Pv
open PySem
def Tr.pr (t : Tr) : Nd → Option Int := t.vv (t.n + 1)
def Tr.ks (t : Tr) : List Nd := keysB t.n (t.n + 1)
theorem mem_ks (t : Tr) (q : Nd) : q ∈ t.ks ↔ (q.1 ≤ t.n ∧ q.2 < 2) := by
  unfold Tr.ks
  rw [mem_keysB (Nat.le_refl _)]
  exact ⟨fun h => h.2, fun h => ⟨by omega, h⟩⟩
theorem pr_at (t : Tr) (q : Nd) (h : q.1 ≤ t.n) (h2 : q.2 < 2) : t.pr q = some (t.P q) := by
  unfold Tr.pr Tr.vv
  exact if_pos ((mem_ks t q).mpr ⟨h, h2⟩)
theorem first_rt (T : D) (o : Bool) (ks : List Nd) (v : Nd → Option Int) (q : Nd) (m : Mv) (r : Int) (hq : q ∈ ks) (hm : m.2.2 ∈ ks) (hr : v m.2.2 = some r) (hp : v q = some (m.1 + r)) :
    ∃ σ', turn (.tp [.nm 3, .nm 4, .nm 5]) [3, 4, 5] L_first_least_1 (mD m) [.vw T, .vw (pdD o ks v), .vw (nD q), .no, .no, .no] = some (.rt (.tup [.str m.2.1, nD m.2.2]), σ') := by
  obtain ⟨c, nm, b⟩ := m
  simp only at hm hr hp
  unfold L_first_least_1
  simp [mD, pdD, lk_pd, hm, hq, hr, hp, oD, D.pl, D.dep, eqv, D.isF, isFL]
theorem first_nx (T : D) (o : Bool) (ks : List Nd) (v : Nd → Option Int) (q : Nd) (m : Mv) (r p : Int) (hq : q ∈ ks) (hm : m.2.2 ∈ ks) (hr : v m.2.2 = some r) (hp : v q = some p) (hne : m.1 + r ≠ p) :
    turn (.tp [.nm 3, .nm 4, .nm 5]) [3, 4, 5] L_first_least_1 (mD m) [.vw T, .vw (pdD o ks v), .vw (nD q), .no, .no, .no] = some (.nx, [.vw T, .vw (pdD o ks v), .vw (nD q), .no, .no, .no]) := by
  obtain ⟨c, nm, b⟩ := m
  simp only at hm hr hp hne
  unfold L_first_least_1
  simp [mD, pdD, lk_pd, hm, hq, hr, hp, oD, D.pl, D.dep, eqv, D.isF, isFL, hne]
def nmS (st : Nat) : Str := if st = 0 then ("begin" : Str) else ("on" : Str)
/-- the way: the first of the least moves -/
def WL : List (Bool × Nat) → Nat → List Str
  | [], _ => []
  | (e, s) :: L, st => if e = true ∧ 0 + PL L 0 = PL ((e, s) :: L) st then ("pass" : Str) :: WL L 0 else nmS st :: WL L 1
def Tr.nxt (t : Tr) (q : Nd) : Str × Nd := match t.ps[q.1]? with
  | some p => if p.1 = p.2 ∧ 0 + t.P (q.1 + 1, 0) = t.P q then (("pass" : Str), (q.1 + 1, 0)) else (nmS q.2, (q.1 + 1, 1))
  | none => (("" : Str), q)
theorem first_least_ok (t : Tr) (h : t.ok) (o o2 : Bool) (q : Nd) (hq : q.1 < t.n) (h2 : q.2 < 2) :
    f_first_least [t.d o, pdD o2 t.ks t.pr, nD q] = some (.tup [.str (t.nxt q).1, nD (t.nxt q).2]) := by
  obtain ⟨o', e⟩ := mv_any t h o q (by omega)
  have e3 := mv_frz (t.mv q) o'
  have e4 := isFL_map mD_isF (t.mv q)
  obtain ⟨p, hp⟩ : ∃ p, t.ps[q.1]? = some p := ⟨_, List.getElem?_eq_getElem hq⟩
  have kq : q ∈ t.ks := (mem_ks t q).mpr ⟨by omega, h2⟩
  have k0 : (q.1 + 1, 0) ∈ t.ks := (mem_ks t _).mpr ⟨hq, (by simp only; omega)⟩
  have k1 : (q.1 + 1, 1) ∈ t.ks := (mem_ks t _).mpr ⟨hq, (by simp only; omega)⟩
  have p0 := pr_at t (q.1 + 1, 0) hq (by simp only; omega)
  have p1 := pr_at t (q.1 + 1, 1) hq (by simp only; omega)
  have pq := pr_at t q (by omega) h2
  have ps := P_step t q p hp
  have em : t.mv q = mvs q.1 q.2 (decide (p.1 = p.2)) p.2.length := by unfold Tr.mv; rw [hp]
  have en : t.nxt q = if p.1 = p.2 ∧ 0 + t.P (q.1 + 1, 0) = t.P q then (("pass" : Str), (q.1 + 1, 0)) else (nmS q.2, (q.1 + 1, 1)) := by unfold Tr.nxt; rw [hp]
  -- the last move
  let m2 : Mv := if q.2 = 0 then (4 + (p.2.length : Int), ("begin" : Str), (q.1 + 1, 1)) else ((p.2.length : Int), ("on" : Str), (q.1 + 1, 1))
  have b1 : m2.2.2 = (q.1 + 1, 1) := by simp only [m2]; split <;> rfl
  have b2 : m2.2.1 = nmS q.2 := by simp only [m2, nmS]; split <;> rfl
  have b3 : m2.1 = if q.2 = 0 then 4 + (p.2.length : Int) else (p.2.length : Int) := by simp only [m2]; split <;> rfl
  rw [← b3] at ps
  have key : ∃ σ', forP (.tp [.nm 3, .nm 4, .nm 5]) [3, 4, 5] L_first_least_1 ((t.mv q).map mD) [.vw (t.d o), .vw (pdD o2 t.ks t.pr), .vw (nD q), .no, .no, .no] = some (.rt (.tup [.str (t.nxt q).1, nD (t.nxt q).2]), σ') := by
    have last : t.P q = m2.1 + t.P (q.1 + 1, 1) → ∃ σ', forP (.tp [.nm 3, .nm 4, .nm 5]) [3, 4, 5] L_first_least_1 [mD m2] [.vw (t.d o), .vw (pdD o2 t.ks t.pr), .vw (nD q), .no, .no, .no] = some (.rt (.tup [.str (nmS q.2), nD (q.1 + 1, 1)]), σ') := fun hw => by
      obtain ⟨σ', r⟩ := first_rt (t.d o) o2 t.ks t.pr q m2 (t.P (q.1 + 1, 1)) kq (by rw [b1]; exact k1) (by rw [b1]; exact p1) (by rw [pq, hw])
      rw [b1, b2] at r
      exact ⟨σ', forP_rt r⟩
    by_cases hs : p.1 = p.2
    · have em2 : (t.mv q).map mD = [mD ((0 : Int), ("pass" : Str), (q.1 + 1, 0)), mD m2] := by
        rw [em]; simp only [mvs, hs, decide_true, if_true, m2]; rfl
      rw [em2]
      by_cases hp0 : 0 + t.P (q.1 + 1, 0) = t.P q
      · obtain ⟨σ', r⟩ := first_rt (t.d o) o2 t.ks t.pr q ((0 : Int), ("pass" : Str), (q.1 + 1, 0)) (t.P (q.1 + 1, 0)) kq k0 p0 (by rw [pq, hp0])
        rw [en, if_pos ⟨hs, hp0⟩]
        exact ⟨σ', forP_rt r⟩
      · rw [forP_nx (first_nx (t.d o) o2 t.ks t.pr q ((0 : Int), ("pass" : Str), (q.1 + 1, 0)) (t.P (q.1 + 1, 0)) (t.P q) kq k0 p0 pq hp0), en, if_neg (fun z => hp0 z.2)]
        refine last ?_
        rw [if_pos hs] at ps
        split at ps
        · exact ps
        · exact absurd ps.symm hp0
    · have em2 : (t.mv q).map mD = [mD m2] := by
        rw [em]; simp only [mvs, hs, decide_false, m2]; rfl
      rw [em2, en, if_neg (fun z => hs z.1)]
      refine last ?_
      rw [if_neg hs] at ps
      exact ps
  obtain ⟨σ', key⟩ := key
  simp only [Tr.d] at e key ⊢
  unfold f_first_least b_first_least
  simp [e, e3, e4, key]
end Pv

/-! k65M6: way_of. -/
namespace Pv
open PySem
theorem es_cons (t : Tr) (a : Nat) (p : List Cell × List Cell) (hp : t.ps[a]? = some p) : t.es.drop a = (decide (p.1 = p.2), p.2.length) :: t.es.drop (a + 1) := by
  have hl : a < t.es.length := by unfold Tr.es; rw [List.length_map]; exact (List.getElem?_eq_some_iff.mp hp).1
  rw [List.drop_eq_getElem_cons hl]
  congr 1
  have : t.es[a]? = some (decide (p.1 = p.2), p.2.length) := by unfold Tr.es; rw [List.getElem?_map, hp]; rfl
  rw [List.getElem?_eq_getElem hl] at this
  exact Option.some.inj this
theorem WL_step (t : Tr) (a st : Nat) (ha : a < t.n) : ∃ s', WL (t.es.drop a) st = (t.nxt (a, st)).1 :: WL (t.es.drop (a + 1)) s' ∧ (t.nxt (a, st)).2 = (a + 1, s') ∧ s' < 2 := by
  obtain ⟨p, hp⟩ : ∃ p, t.ps[a]? = some p := ⟨_, List.getElem?_eq_getElem ha⟩
  have e := es_cons t a p hp
  have en : t.nxt (a, st) = if p.1 = p.2 ∧ 0 + t.P (a + 1, 0) = t.P (a, st) then (("pass" : Str), (a + 1, 0)) else (nmS st, (a + 1, 1)) := by unfold Tr.nxt; simp only [hp]
  have e1 : PL (t.es.drop (a + 1)) 0 = t.P (a + 1, 0) := rfl
  have e2 : PL (t.es.drop a) st = t.P (a, st) := rfl
  rw [en]
  rw [e] at e2 ⊢
  simp only [WL, decide_eq_true_eq, e1, e2]
  split
  · exact ⟨0, rfl, rfl, by decide⟩
  · exact ⟨1, rfl, rfl, by decide⟩
theorem P_nonneg : ∀ (L : List (Bool × Nat)) (st : Nat), 0 ≤ PL L st
  | [], st => Int.le_refl 0
  | (e, s) :: L, st => by
    have h0 := P_nonneg L 0
    have h1 := P_nonneg L 1
    simp only [PL]
    split <;> split <;> (try split) <;> omega
theorem P_pos (t : Tr) (q : Nd) : 0 ≤ t.P q := P_nonneg _ _
def Tr.wst (t : Tr) (o : Bool) (a st : Nat) (ns : List Str) : PS := [.vw (t.d o), .ow (pdD false t.ks t.pr), .ow (nD (a, st)), .ow (.lst true (ns.map .str)), .no]
theorem way_test (t : Tr) (o : Bool) (a st : Nat) (ns : List Str) (ha : a ≤ t.n) (hs : st < 2) : T_way_of_1 (t.wst o a st ns) = some (decide (a ≠ t.n), t.wst o a st ns) := by
  have e := end_ok t o (a, st)
  have kq : (a, st) ∈ t.ks := (mem_ks t _).mpr ⟨ha, hs⟩
  have pq := pr_at t (a, st) ha hs
  simp only [Tr.wst, Tr.d, pdD] at e ⊢
  unfold T_way_of_1
  by_cases h : a = t.n
  · subst h
    rw [P_end] at pq
    simp [e, lk_pd, kq, pq, oD]
  · simp [e, lk_pd, kq, pq, oD, h]
theorem way_turn (t : Tr) (h : t.ok) (o : Bool) (a st : Nat) (ns : List Str) (ha : a < t.n) (hs : st < 2) (hl : ns.length < 1000000) : ∃ σ', L_way_of_1 (t.wst o a st ns) = some (.nx, σ') ∧ clr [4] σ' = t.wst o (t.nxt (a, st)).2.1 (t.nxt (a, st)).2.2 (ns ++ [(t.nxt (a, st)).1]) := by
  have e := first_least_ok t h o false (a, st) ha hs
  have hl2 : (ns.map D.str).length < cap := by rw [List.length_map]; exact hl
  simp only [Tr.wst, Tr.d, pdD] at e ⊢
  unfold L_way_of_1
  simp [e, D.frz, frzL, D.isF, hl]
theorem way_loop (t : Tr) (h : t.ok) (o : Bool) : ∃ st, st < 2 ∧ whileP T_way_of_1 [4] L_way_of_1 fuel (t.wst o 0 0 []) = some (.nx, t.wst o t.n st (WL t.es 0)) := by
  have hn : t.n ≤ 1000 := h.1
  have := whileP_inv (t := T_way_of_1) (dead := [4]) (body := L_way_of_1)
    (fun m σ => ∃ a st ns, m + a = t.n ∧ st < 2 ∧ ns.length = a ∧ ns ++ WL (t.es.drop a) st = WL t.es 0 ∧ σ = t.wst o a st ns)
    (fun σ => ∃ st, st < 2 ∧ σ = t.wst o t.n st (WL t.es 0)) (fun m σ hi => by
      obtain ⟨a, st, ns, h1, h2, h3, h4, rfl⟩ := hi
      have ht := way_test t o a st ns (by omega) h2
      by_cases ha : a = t.n
      · left
        subst ha
        refine ⟨t.wst o t.n st ns, by rw [ht]; simp, st, h2, ?_⟩
        have : t.es.drop t.n = [] := List.drop_of_length_le (by unfold Tr.es Tr.n; rw [List.length_map]; exact Nat.le_refl _)
        rw [this] at h4
        simp only [WL, List.append_nil] at h4
        rw [h4]
      · right
        have hlt : a < t.n := by omega
        obtain ⟨σ', e1, e2⟩ := way_turn t h o a st ns hlt h2 (by omega)
        obtain ⟨s', w1, w2, w3⟩ := WL_step t a st hlt
        refine ⟨_, σ', m - 1, by rw [ht]; simp only [ne_eq, ha, not_false_eq_true, decide_true], e1, by omega, a + 1, s', ns ++ [(t.nxt (a, st)).1], by omega, w3, by rw [List.length_append, h3]; rfl, ?_, ?_⟩
        · rw [List.append_assoc, List.singleton_append, ← w1]; exact h4
        · rw [e2, w2]) t.n fuel (t.wst o 0 0 []) (fuel_lt (by omega)) ⟨0, 0, [], by omega, by decide, rfl, rfl, rfl⟩
  obtain ⟨σ', e, st, h1, rfl⟩ := this
  exact ⟨st, h1, e⟩
def wayD (t : Tr) : D := .tup [.int (t.P (0, 0)), .lst false ((WL t.es 0).map .str)]
theorem strs_isFL (ns : List Str) : isFL (ns.map .str) = true := isFL_map (fun _ => rfl) ns
theorem way_ok (t : Tr) (h : t.ok) (o : Bool) : f_way_of [t.d o] = some (wayD t) := by
  obtain ⟨st, _, w⟩ := way_loop t h o
  have e1 := priced_ok t h o
  have e2 := first_ok t o
  have e3 := frz_pd true (keysB t.n (t.n + 1)) (t.vv (t.n + 1))
  have kq : (0, 0) ∈ t.ks := (mem_ks t _).mpr ⟨Nat.zero_le _, by simp only; omega⟩
  have pq := pr_at t (0, 0) (Nat.zero_le _) (by simp only; omega)
  have e4 := frzL_id _ (strs_isFL (WL t.es 0))
  have e5 := strs_isFL (WL t.es 0)
  have e6 := frzL_id _ (vals_isF t.ks t.pr)
  simp only [Tr.wst, List.map_nil] at w
  change f_priced [t.d o] = some (pdD true t.ks t.pr) at e1
  change (pdD true t.ks t.pr).frz = pdD false t.ks t.pr at e3
  unfold f_way_of b_way_of
  simp only [Tr.d, pdD] at e1 e2 e3 w ⊢
  simp [e1, e2, e3, w, lk_pd, kq, pq, oD, D.frz, e4, e5, e6, D.isF, isFL, wayD]
end Pv

/-! k80M7: fair. -/
namespace Pv
open PySem
def nodesB (k : Nat) : List Nd := (List.range k).flatMap fun j => [(j, 0), (j, 1)]
theorem nodesB_succ (k : Nat) : nodesB (k + 1) = nodesB k ++ [(k, 0), (k, 1)] := by
  unfold nodesB
  rw [List.range_succ, List.flatMap_append]
  rfl
theorem nodesB_len (k : Nat) : (nodesB k).length = 2 * k := by
  induction k with
  | zero => rfl
  | succ k ih => rw [nodesB_succ, List.length_append, ih]; simp; omega
theorem mem_nodesB {k : Nat} {q : Nd} (h : q ∈ nodesB k) : q.1 < k ∧ q.2 < 2 := by
  unfold nodesB at h
  simp only [List.mem_flatMap, List.mem_range, List.mem_cons, List.not_mem_nil, or_false] at h
  obtain ⟨j, hj, e | e⟩ := h <;> subst e <;> exact ⟨hj, by simp only; omega⟩
theorem all_nodes_ok (t : Tr) (h : t.ok) (o : Bool) : f_all_nodes [t.d o] = some (.lst true ((nodesB (t.n + 1)).map nD)) := by
  have hn : t.n ≤ 1000 := h.1
  have l0 := last_ok t o
  obtain ⟨σ', e1, e2⟩ := forP_inv (t := .nm 2) (dead := [2]) (body := L_all_nodes_1) (fun k : Nat => D.int (k : Int)) (fun k σ => σ = [.vw (t.d o), .ow (.lst true ((nodesB k).map nD)), .no]) (List.range (t.n + 1)) 0 [.vw (t.d o), .ow (.lst true []), .no]
    (fun j x σ hj hi => by
      obtain ⟨rfl, hlt⟩ := range_get hj
      rw [Nat.zero_add] at hi ⊢
      subst hi
      refine ⟨_, ?_, rfl⟩
      have l1 := nodes_ok t o x
      have l2 : (nodesB x).length + 2 < cap := by rw [nodesB_len]; show _ < 1000000; omega
      have l4 : isFL ((nodesB x).map nD) = true := isFL_map nD_isF _
      rw [nodesB_succ, List.map_append]
      simp only [Tr.d] at l1 ⊢
      unfold L_all_nodes_1
      simp [l1, l2, D.frz, frzL, isFL]) rfl
  rw [List.length_range, Nat.zero_add] at e2
  subst e2
  have hs := itR1_nat (i := (t.n : Int) + 1) (t.n + 1) (Int.natCast_succ _).symm (by omega)
  simp only [Tr.d] at e1 l0 ⊢
  unfold f_all_nodes b_all_nodes
  simp [-itR1, l0, e1, hs, D.isF, isFL, D.pl, plL, D.dep, depL, eqv, eqvL, atP_0, atP_1, atP_2, atP_3, isFL_app]
theorem price_ok (x : Option Int) : f_is_price [oD x] = some (.bl true) := by
  unfold f_is_price b_is_price
  cases x <;> simp [oD, tyD, isiT]
theorem mv_tgt (t : Tr) (q : Nd) (m : Mv) (hm : m ∈ t.mv q) : q.1 < t.n ∧ m.2.2.1 ≤ t.n ∧ m.2.2.2 < 2 ∧ t.P q ≤ m.1 + t.P m.2.2 := by
  unfold Tr.mv at hm
  cases hp : t.ps[q.1]? with
  | none => rw [hp] at hm; simp at hm
  | some p =>
    rw [hp] at hm
    have hlt : q.1 < t.n := (List.getElem?_eq_some_iff.mp hp).1
    have ps := P_step t q p hp
    unfold mvs at hm
    simp only [List.mem_append, List.mem_singleton] at hm
    rcases hm with hm | hm
    · split at hm
      · rename_i hs
        simp only [decide_eq_true_eq] at hs
        simp only [List.mem_singleton] at hm
        subst hm
        refine ⟨hlt, hlt, by simp only; omega, ?_⟩
        rw [if_pos hs] at ps
        simp only
        generalize (if q.2 = 0 then 4 + (p.2.length : Int) else (p.2.length : Int)) = w at ps
        split at ps <;> omega
      · simp at hm
    · subst hm
      have hw : ∀ {x y : Mv}, (if q.2 = 0 then x else y) = if q.2 = 0 then x else y := rfl
      by_cases h0 : q.2 = 0
      · simp only [h0, if_true] at ps ⊢
        refine ⟨hlt, hlt, by omega, ?_⟩
        split at ps <;> (try split at ps) <;> omega
      · simp only [h0, if_false] at ps ⊢
        refine ⟨hlt, hlt, by omega, ?_⟩
        split at ps <;> (try split at ps) <;> omega
theorem fair_at_ok (t : Tr) (h : t.ok) (o o2 : Bool) (q : Nd) (hq : q.1 ≤ t.n) (h2 : q.2 < 2) : f_fair_at [t.d o, pdD o2 t.ks t.pr, nD q] = some (.bl true) := by
  obtain ⟨o', e⟩ := mv_any t h o q hq
  have e3 := mv_frz (t.mv q) o'
  have e4 := isFL_map mD_isF (t.mv q)
  have kq : q ∈ t.ks := (mem_ks t q).mpr ⟨hq, h2⟩
  have pq := pr_at t q hq h2
  have e5 := end_ok t o q
  have loop : forP (.tp [.nm 4, .nm 5, .nm 6]) [4, 5, 6, 7] L_fair_at_1 ((t.mv q).map mD) [.vw (t.d o), .vw (pdD o2 t.ks t.pr), .vw (nD q), .ow (.int (t.P q)), .no, .no, .no, .no] = some (.nx, [.vw (t.d o), .vw (pdD o2 t.ks t.pr), .vw (nD q), .ow (.int (t.P q)), .no, .no, .no, .no]) := by
    have := forP_fold (t := .tp [.nm 4, .nm 5, .nm 6]) (dead := [4, 5, 6, 7]) (body := L_fair_at_1) mD (fun _ : Unit => [.vw (t.d o), .vw (pdD o2 t.ks t.pr), .vw (nD q), .ow (.int (t.P q)), .no, .no, .no, .no]) (fun _ _ => ()) (t.mv q) () (fun _ m hm => by
      obtain ⟨h3, h4, h5, h6⟩ := mv_tgt t q m hm
      have km : m.2.2 ∈ t.ks := (mem_ks t _).mpr ⟨h4, h5⟩
      have pm := pr_at t m.2.2 h4 h5
      obtain ⟨c, nm, b⟩ := m
      simp only at km pm h6
      have h7 : ¬ c + t.P b < t.P q := by omega
      simp only [pdD]
      unfold L_fair_at_1
      simp [mD, lk_pd, km, pm, oD, D.isF, h7])
    exact this
  simp only [Tr.d, pdD] at e e5 loop ⊢
  unfold f_fair_at b_fair_at
  by_cases hn : q.1 = t.n
  · have pz : t.P q = 0 := by
      obtain ⟨a, st⟩ := q
      simp only at hn
      rw [hn]
      exact P_end t st
    rw [pz] at loop pq
    simp [e, e3, e4, e5, loop, lk_pd, kq, pq, oD, hn, D.isF]
  · simp [e, e3, e4, e5, loop, lk_pd, kq, pq, oD, hn, D.isF]
theorem fair_ok (t : Tr) (h : t.ok) (o o2 : Bool) : f_fair [t.d o, pdD o2 t.ks t.pr] = some (.bl true) := by
  have hn : t.n ≤ 1000 := h.1
  have e1 := all_nodes_ok t h o
  have e2 := isFL_map nD_isF (nodesB (t.n + 1))
  have e3 : D.frz (.lst true ((nodesB (t.n + 1)).map nD)) = .lst false ((nodesB (t.n + 1)).map nD) := by simp only [D.frz, frzL_id _ e2]
  have e4 : (t.ks.map nk).length = ((nodesB (t.n + 1)).map nD).length := by rw [List.length_map, List.length_map, nodesB_len]; unfold Tr.ks; rw [keysB_len]
  let N : D := .lst false ((nodesB (t.n + 1)).map nD)
  have l1 : forP (.nm 3) [3] L_fair_1 ((nodesB (t.n + 1)).map nD) [.vw (t.d o), .vw (pdD o2 t.ks t.pr), .ow N, .no] = some (.nx, [.vw (t.d o), .vw (pdD o2 t.ks t.pr), .ow N, .no]) := by
    exact forP_fold (t := .nm 3) (dead := [3]) (body := L_fair_1) nD (fun _ : Unit => [.vw (t.d o), .vw (pdD o2 t.ks t.pr), .ow N, .no]) (fun _ _ => ()) (nodesB (t.n + 1)) () (fun _ q hq => by
      have m := mem_nodesB hq
      have kq : q ∈ t.ks := (mem_ks t q).mpr ⟨by omega, m.2⟩
      have pz := price_ok (t.pr q)
      simp only [pdD]
      unfold L_fair_1
      simp [lk_pd, kq, pz])
  obtain ⟨σ', l2, s', rfl⟩ := forP_inv (t := .nm 3) (dead := [2, 3]) (body := L_fair_2) nD (fun _ σ => ∃ s, σ = [.vw (t.d o), .vw (pdD o2 t.ks t.pr), s, .no]) (nodesB (t.n + 1)) 0 [.vw (t.d o), .vw (pdD o2 t.ks t.pr), .ow N, .no] (fun j q σ hq hi => by
      obtain ⟨s, rfl⟩ := hi
      have m := mem_nodesB (List.mem_of_getElem? hq)
      have fz := fair_at_ok t h o o2 q (by omega) m.2
      refine ⟨[.vw (t.d o), .vw (pdD o2 t.ks t.pr), .no, .no], ?_, .no, rfl⟩
      simp only [pdD, Tr.d] at fz ⊢
      unfold L_fair_2
      simp [fz]) ⟨_, rfl⟩
  simp only [List.length_map] at e4
  simp only [Tr.d, pdD, N] at e1 l1 l2 ⊢
  unfold f_fair b_fair
  simp [e1, e2, e3, e4, l1, l2, tyD, isiT, D.isF, isFL, D.pl, plL, D.dep, depL, eqv, eqvL, atP_0, atP_1, atP_2, atP_3, isFL_app]
end Pv

/-! k65M8: row_writes. -/
namespace Pv
open PySem
abbrev Wr := Nat × Nat × List Cell
def wD (w : Wr) : D := .tup [.int w.1, .int w.2.1, rowD w.2.2]
@[simp] theorem wD_isF (w : Wr) : (wD w).isF = true := by simp [wD, D.isF, isFL, D.pl, plL, D.dep, depL, eqv, eqvL, atP_0, atP_1, atP_2, atP_3, isFL_app]
@[simp] theorem rowD_isF (r : List Cell) : (rowD r).isF = true := by simp [D.isF, isFL, D.pl, plL, D.dep, depL, eqv, eqvL, atP_0, atP_1, atP_2, atP_3, isFL_app]
abbrev Pr := List Cell × List Cell
def esL (ps : List Pr) : List (Bool × Nat) := ps.map fun p => (decide (p.1 = p.2), p.2.length)
def opL (r : Nat) : Option (Nat × List Cell) → List Wr
  | none => []
  | some (c, cs) => [(r, c, cs)]
def opS : Option (Nat × List Cell) → Nat
  | none => 0
  | some _ => 1
/-- the writes of a row: cl closed, op open -/
def WS (r : Nat) : Nat → List Pr → List Wr → Option (Nat × List Cell) → List Wr
  | _, [], cl, op => cl ++ opL r op
  | k, p :: ps, cl, op =>
    if p.1 = p.2 ∧ 0 + PL (esL ps) 0 = PL (esL (p :: ps)) (opS op) then WS r (k + p.2.length) ps (cl ++ opL r op) none
    else match op with
      | none => WS r (k + p.2.length) ps cl (some (k, p.2))
      | some (c, cs) => WS r (k + p.2.length) ps cl (some (c, cs ++ p.2))
abbrev tgW : Tg := .tp [.tp [.nm 6, .nm 7], .nm 8]
def wst (r : Nat) (one : D) (two : List Cell) (ws : List Wr) (s : Sl) : PS := [.vw (.int r), .vw one, .vw (rowD two), .ow (.lst true (ws.map wD)), .no, s, .no, .no, .no, .no, .no]
theorem cut_mid (two pre y post : List Cell) (e : two = pre ++ (y ++ post)) : cutP (two.map cD) (some (pre.length : Int)) (some ((pre.length : Int) + (y.length : Int))) = y.map cD := by
  rw [← Int.natCast_add, cutP_mid, ← List.map_take, ← List.map_drop, e, List.take_length_add_append, List.drop_left, List.take_left]
theorem w_pass (r : Nat) (one : D) (two : List Cell) (ws : List Wr) (s : Sl) (k l : Nat) : turn tgW [5, 6, 7, 8, 9, 10] L_row_writes_1 (.tup [spD (k, l), .str "pass"]) (wst r one two ws s) = some (.nx, wst r one two ws .no) := by
  unfold L_row_writes_1
  simp [wst, spD, D.isF, isFL, D.pl, plL, D.dep, depL, eqv, eqvL, atP_0, atP_1, atP_2, atP_3, isFL_app]
theorem w_begin (r : Nat) (one : D) (two pre y post : List Cell) (e : two = pre ++ (y ++ post)) (ws : List Wr) (s : Sl) (hl : ws.length < 1000000) : turn tgW [5, 6, 7, 8, 9, 10] L_row_writes_1 (.tup [spD (pre.length, y.length), .str "begin"]) (wst r one two ws s) = some (.nx, wst r one two (ws ++ [(r, pre.length, y)]) .no) := by
  have e1 := cut_mid two pre y post e
  have h2 : ws.length < cap := hl
  unfold L_row_writes_1
  simp [wst, spD, e1, h2, wD, D.isF, isFL, D.pl, plL, D.dep, depL, eqv, eqvL, atP_0, atP_1, atP_2, atP_3, isFL_app]
theorem w_on (r : Nat) (one : D) (two pre y post cs : List Cell) (c : Nat) (e : two = pre ++ (y ++ post)) (ws : List Wr) (s : Sl) (hl : ws.length < 1000000) (hc : cs.length + y.length < 1000000) : turn tgW [5, 6, 7, 8, 9, 10] L_row_writes_1 (.tup [spD (pre.length, y.length), .str "on"]) (wst r one two (ws ++ [(r, c, cs)]) s) = some (.nx, wst r one two (ws ++ [(r, c, cs ++ y)]) .no) := by
  have e1 := cut_mid two pre y post e
  have h2 : ws.length < cap := hl
  have h3 : cs.length + y.length < cap := hc
  unfold L_row_writes_1
  simp [wst, spD, e1, h2, h3, wD, D.isF, isFL, D.pl, plL, D.dep, depL, eqv, eqvL, atP_0, atP_1, atP_2, atP_3, isFL_app]
theorem w_loop (r : Nat) (one : D) (two : List Cell) (h2 : two.length < 1000) : ∀ (ps : List Pr) (pre : List Cell) (cl : List Wr) (op : Option (Nat × List Cell)) (s : Sl), two = pre ++ (ps.map (·.2)).flatten → (∀ p ∈ ps, p.1.length = p.2.length) → cl.length + ps.length < 2000 → (∀ c cs, op = some (c, cs) → c + cs.length = pre.length) →
    ∃ s', forP tgW [5, 6, 7, 8, 9, 10] L_row_writes_1 (zipD ((spotsOf pre.length (ps.map (·.2))).map spD) ((WL (esL ps) (opS op)).map .str)) (wst r one two (cl ++ opL r op) s) = some (.nx, wst r one two (WS r pre.length ps cl op) s')
  | [], pre, cl, op, s, _, _, _, _ => ⟨s, rfl⟩
  | p :: ps, pre, cl, op, s, e, hp, hl, ho => by
    rw [List.map_cons, List.flatten_cons] at e
    rw [List.length_cons] at hl
    have e' : two = (pre ++ p.2) ++ (ps.map (·.2)).flatten := by rw [e, List.append_assoc]
    have elen : (pre ++ p.2).length = pre.length + p.2.length := List.length_append
    have hp' : ∀ q ∈ ps, q.1.length = q.2.length := fun q hq => hp q (List.mem_cons_of_mem _ hq)
    have l2 : pre.length + p.2.length ≤ two.length := by rw [e', List.length_append, elen]; omega
    have ew : WL (esL (p :: ps)) (opS op) = if p.1 = p.2 ∧ 0 + PL (esL ps) 0 = PL (esL (p :: ps)) (opS op) then ("pass" : Str) :: WL (esL ps) 0 else nmS (opS op) :: WL (esL ps) 1 := by
      simp only [esL, List.map_cons, WL, decide_eq_true_eq]
    have el : (cl ++ opL r op).length ≤ cl.length + 1 := by
      rw [List.length_append]
      cases op with
      | none => simp [opL]
      | some x => simp [opL]
    rw [ew]
    simp only [WS]
    by_cases hc : p.1 = p.2 ∧ 0 + PL (esL ps) 0 = PL (esL (p :: ps)) (opS op)
    · rw [if_pos hc, if_pos hc]
      obtain ⟨s', ih⟩ := w_loop r one two h2 ps (pre ++ p.2) (cl ++ opL r op) none .no e' hp' (by omega) (fun _ _ z => by cases z)
      rw [elen] at ih
      refine ⟨s', ?_⟩
      simp only [List.map_cons, spotsOf, zipD]
      rw [forP_nx (w_pass r one two _ s _ _)]
      simp only [opL, List.append_nil] at ih
      exact ih
    · rw [if_neg hc, if_neg hc]
      cases op with
      | none =>
        obtain ⟨s', ih⟩ := w_loop r one two h2 ps (pre ++ p.2) cl (some (pre.length, p.2)) .no e' hp' (by omega) (fun c cs z => by cases z; exact elen.symm)
        rw [elen] at ih
        refine ⟨s', ?_⟩
        simp only [List.map_cons, spotsOf, zipD, opS, nmS, if_true, opL, List.append_nil] at ih ⊢
        rw [forP_nx (w_begin r one two pre p.2 _ e _ s (by omega))]
        exact ih
      | some x =>
        obtain ⟨c, cs⟩ := x
        have hcs := ho c cs rfl
        obtain ⟨s', ih⟩ := w_loop r one two h2 ps (pre ++ p.2) cl (some (c, cs ++ p.2)) .no e' hp' (by omega) (fun c' cs' z => by cases z; rw [List.length_append, elen]; omega)
        rw [elen] at ih
        refine ⟨s', ?_⟩
        have n1 : nmS (opS (some (c, cs))) = ("on" : Str) := rfl
        rw [n1]
        simp only [List.map_cons, spotsOf, zipD, opS, opL] at ih ⊢
        rw [forP_nx (w_on r one two pre p.2 _ cs c e _ s (by omega) (by omega))]
        exact ih
def Tr.ws (t : Tr) (r : Nat) : List Wr := WS r 0 t.ps [] none
theorem row_writes_ok (t : Tr) (h : t.ok) (h2 : t.two.length < 1000) (r : Nat) : f_row_writes [.int r, rowD t.one, rowD t.two] = some (.lst true ((t.ws r).map wD)) := by
  have hn : t.n ≤ 1000 := h.1
  have e1 := mk_ok t h
  have e2 := way_ok t h true
  have e3 : f_spots_of [rowD t.two] = some (.lst true (t.spots.map spD)) := spots_ok _ (fun b hb => by
    obtain ⟨p, hp, rfl⟩ := List.mem_map.mp hb
    exact (h.2 p hp).2.1) (by rw [List.length_map]; exact Nat.le_trans h.1 (by decide))
  have e4 : D.frz (.lst true (t.spots.map spD)) = .lst false (t.spots.map spD) := frz_rows _ (isFL_map spD_isF _) _
  have e5 := isFL_map spD_isF t.spots
  have e6 := strs_isFL (WL t.es 0)
  have e7 : (wayD t).frz = wayD t := by simp [wayD, D.frz, frzL, frzL_id _ e6]
  obtain ⟨s', l⟩ := w_loop r (rowD t.one) t.two h2 t.ps [] [] none (.ow (.lst false ((WL t.es 0).map .str))) rfl (fun p hp => (h.2 p hp).1) (by show 0 + t.n < 2000; omega) (fun _ _ z => by cases z)
  simp only [opL, List.append_nil, opS, List.length_nil] at l
  change forP tgW _ _ (zipD (t.spots.map spD) ((WL t.es 0).map .str)) _ = some (_, wst r (rowD t.one) t.two (t.ws r) s') at l
  simp only [wst, List.map_nil] at l
  unfold f_row_writes b_row_writes
  simp only [wayD] at e2 e7
  simp [-mkI, e1, e2, e3, e4, e5, e6, e7, l, D.isF, isFL, D.pl, plL, D.dep, depL, eqv, eqvL, atP_0, atP_1, atP_2, atP_3, isFL_app]
end Pv

/-! k65M9: patch, patched, cost_of. -/
namespace Pv
open PySem
def picD (P : List (List Cell)) : D := .lst false (P.map rowD)
theorem pic_isFL (P : List (List Cell)) : isFL (P.map rowD) = true := isFL_map rowD_isF P
theorem wr_isFL (ws : List Wr) : isFL (ws.map wD) = true := isFL_map wD_isF ws
theorem WS_len (r : Nat) : ∀ (ps : List Pr) (k : Nat) (cl : List Wr) (op : Option (Nat × List Cell)), (WS r k ps cl op).length ≤ cl.length + (opL r op).length + ps.length
  | [], k, cl, op => by simp [WS]
  | p :: ps, k, cl, op => by
    simp only [WS]
    split
    · have := WS_len r ps (k + p.2.length) (cl ++ opL r op) none
      simp only [opL, List.length_nil, List.length_append, List.length_cons] at this ⊢
      omega
    · cases op with
      | none =>
        have := WS_len r ps (k + p.2.length) cl (some (k, p.2))
        simp only [opL, List.length_cons, List.length_nil] at this ⊢
        omega
      | some x =>
        have := WS_len r ps (k + p.2.length) cl (some (x.1, x.2 ++ p.2))
        simp only [opL, List.length_cons, List.length_nil] at this ⊢
        omega
theorem ws_len (t : Tr) (r : Nat) : (t.ws r).length ≤ t.n := by
  have := WS_len r t.ps 0 [] none
  simp only [opL, List.length_nil] at this
  unfold Tr.ws Tr.n
  omega
def PW : Nat → List Tr → List Wr
  | _, [] => []
  | r, t :: ts => t.ws r ++ PW (r + 1) ts
theorem PW_snoc : ∀ (ts : List Tr) (r : Nat) (t : Tr), PW r (ts ++ [t]) = PW r ts ++ t.ws (r + ts.length)
  | [], r, t => by simp [PW]
  | u :: ts, r, t => by
    simp only [List.cons_append, PW, PW_snoc ts, List.append_assoc, List.length_cons]
    rw [show r + 1 + ts.length = r + (ts.length + 1) by omega]
theorem PW_len : ∀ (ts : List Tr) (r : Nat), (∀ t ∈ ts, t.n ≤ 1000) → (PW r ts).length ≤ ts.length * 1000
  | [], r, _ => by simp [PW]
  | t :: ts, r, h => by
    have h1 := ws_len t r
    have h2 := h t List.mem_cons_self
    have h3 := PW_len ts (r + 1) fun u hu => h u (List.mem_cons_of_mem _ hu)
    simp only [PW, List.length_append, List.length_cons]
    omega
theorem patch_ok (ts : List Tr) (h : ∀ t ∈ ts, t.ok) (h2 : ∀ t ∈ ts, t.two.length < 1000) (hl : ts.length ≤ 900) : f_patch [picD (ts.map Tr.one), picD (ts.map Tr.two)] = some (.lst true ((PW 0 ts).map wD)) := by
  obtain ⟨σ', e1, e2⟩ := forP_inv (t := .nm 3) (dead := [3]) (body := L_patch_1) (fun k : Nat => D.int (k : Int)) (fun k σ => σ = [.vw (picD (ts.map Tr.one)), .vw (picD (ts.map Tr.two)), .ow (.lst true ((PW 0 (ts.take k)).map wD)), .no]) (List.range ts.length) 0 [.vw (picD (ts.map Tr.one)), .vw (picD (ts.map Tr.two)), .ow (.lst true []), .no]
    (fun j x σ hj hi => by
      obtain ⟨rfl, hlt⟩ := range_get hj
      rw [Nat.zero_add] at hi ⊢
      subst hi
      refine ⟨_, ?_, rfl⟩
      have hx : ts[x]? = some ts[x] := List.getElem?_eq_getElem hlt
      have tk : ts.take (x + 1) = ts.take x ++ [ts[x]] := by rw [List.take_add_one, hx]; rfl
      have hm : ts[x] ∈ ts := List.getElem_mem hlt
      have e := row_writes_ok ts[x] (h _ hm) (h2 _ hm) x
      have l1 := ws_len ts[x] x
      have l2 := PW_len (ts.take x) 0 fun t ht => (h t (List.mem_of_mem_take ht)).1
      have l3 : (ts.take x).length = x := by rw [List.length_take]; omega
      have l4 := (h _ hm).1
      have l5 : (PW 0 (ts.take x)).length + (ts[x].ws x).length < cap := by show _ < 1000000; unfold Tr.n at l1; omega
      have f1 := frz_rows _ (wr_isFL (ts[x].ws x)) true
      have f2 := wr_isFL (ts[x].ws x)
      have g1 : ((ts.map Tr.one).map rowD)[x]? = some (rowD ts[x].one) := by rw [List.getElem?_map, List.getElem?_map, hx]; rfl
      have g2 : ((ts.map Tr.two).map rowD)[x]? = some (rowD ts[x].two) := by rw [List.getElem?_map, List.getElem?_map, hx]; rfl
      rw [tk, PW_snoc, l3, Nat.zero_add, List.map_append]
      unfold L_patch_1
      simp only [picD]
      generalize (ts.map Tr.one).map rowD = A1 at g1 ⊢
      generalize (ts.map Tr.two).map rowD = A2 at g2 ⊢
      simp [atP_nat, g1, g2, e, f1, f2, l5]) rfl
  rw [List.length_range, Nat.zero_add] at e2
  subst e2
  rw [List.take_length] at e1
  have hs := itR1_nat (i := (ts.length : Int)) ts.length rfl (by omega)
  unfold f_patch b_patch
  simp only [picD] at e1 ⊢
  have ln : ((ts.map Tr.one).map rowD).length = ts.length := by rw [List.length_map, List.length_map]
  generalize (ts.map Tr.one).map rowD = A1 at e1 ln ⊢
  generalize (ts.map Tr.two).map rowD = A2 at e1 ⊢
  simp [-itR1, e1, hs, ln, D.isF, isFL, D.pl, plL, D.dep, depL, eqv, eqvL, atP_0, atP_1, atP_2, atP_3, isFL_app]
/-! ### patched -/
def splice (row : List Cell) (w : Wr) : List Cell := row.take w.2.1 ++ w.2.2 ++ row.drop (w.2.1 + w.2.2.length)
def apW (P : List (List Cell)) (w : Wr) : List (List Cell) := P.set w.1 (splice (P.getD w.1 []) w)
theorem splice_len (row : List Cell) (w : Wr) (h : w.2.1 + w.2.2.length ≤ row.length) : (splice row w).length = row.length := by
  unfold splice
  rw [List.length_append, List.length_append, List.length_take, List.length_drop]
  omega
/-- a write that fits -/
def fitW (P : List (List Cell)) (w : Wr) : Prop := w.1 < P.length ∧ w.2.1 + w.2.2.length ≤ (P.getD w.1 []).length
theorem getD_set (P : List (List Cell)) (i j : Nat) (x : List Cell) (h : i < P.length) : (P.set i x).getD j [] = if j = i then x else P.getD j [] := by
  rw [List.getD_eq_getElem?_getD, List.getD_eq_getElem?_getD, List.getElem?_set]
  by_cases e : i = j
  · subst e; simp [h]
  · rw [if_neg e, if_neg (fun z => e z.symm)]
theorem fit_ap (P : List (List Cell)) (w u : Wr) (hw : fitW P w) (hu : fitW P u) : fitW (apW P w) u := by
  unfold fitW apW at *
  rw [List.length_set, getD_set _ _ _ _ hw.1]
  refine ⟨hu.1, ?_⟩
  split
  · rename_i e
    rw [splice_len _ _ hw.2, ← e]
    exact hu.2
  · exact hu.2
theorem ap_rows (P : List (List Cell)) (w : Wr) (hw : fitW P w) (h : ∀ r ∈ P, r.length < 1000) : ∀ r ∈ apW P w, r.length < 1000 := fun r hr => by
  rcases List.mem_or_eq_of_mem_set hr with e | e
  · exact h r e
  · rw [e, splice_len _ _ hw.2, List.getD_eq_getElem?_getD, List.getElem?_eq_getElem hw.1]
    exact h _ (List.getElem_mem hw.1)
abbrev ptS (pic ws : D) (P : List (List Cell)) : PS := [.vw pic, .vw ws, .ow (.lst true (P.map rowD)), .no, .no, .no, .no]
theorem patched_turn (pic ws : D) (P : List (List Cell)) (w : Wr) (hw : fitW P w) (h : ∀ r ∈ P, r.length < 1000) : turn (.tp [.nm 3, .nm 4, .nm 5]) [3, 4, 5, 6] L_patched_1 (wD w) (ptS pic ws P) = some (.nx, ptS pic ws (apW P w)) := by
  obtain ⟨r, c, cs⟩ := w
  obtain ⟨hr, hc⟩ := hw
  simp only at hr hc
  have g : P[r]? = some P[r] := List.getElem?_eq_getElem hr
  have gd : P.getD r [] = P[r] := by rw [List.getD_eq_getElem?_getD, g]; rfl
  rw [gd] at hc
  have hl := h _ (List.getElem_mem hr)
  have e1 : (P.map rowD)[r]? = some (rowD P[r]) := by rw [List.getElem?_map, g]; rfl
  have e2 : cutP ((P[r]).map cD) none (some (c : Int)) = ((P[r]).take c).map cD := by rw [cutP_to, List.map_take]
  have e3 : cutP ((P[r]).map cD) (some ((c : Int) + (cs.length : Int))) none = ((P[r]).drop (c + cs.length)).map cD := by rw [← Int.natCast_add, cutP_from, List.map_drop]
  have l1 : ((P[r]).take c).length + cs.length < cap := by rw [List.length_take]; show _ < 1000000; omega
  have l2 : ((P[r]).take c).length + (cs.length + ((P[r]).drop (c + cs.length)).length) < cap := by rw [List.length_take, List.length_drop]; show _ < 1000000; omega
  have l3 : ixP (P.map rowD).length (r : Int) = some r := by rw [ixP_nat, List.length_map, if_pos hr]
  have e4 : (P.map rowD).set r (rowD (splice P[r] (r, c, cs))) = (apW P (r, c, cs)).map rowD := by
    unfold apW
    rw [gd, List.map_set]
  unfold splice at e4
  simp only [List.map_append] at e4
  unfold L_patched_1
  simp only [ptS, ← e4]
  generalize P.map rowD = A at e1 l3 ⊢
  generalize (P[r]).take c = T at *
  generalize (P[r]).drop (c + cs.length) = U at *
  simp [Nat.add_assoc, wD, atP_nat, e1, e2, e3, l1, l2, l3, D.isF, isFL, D.pl, plL, D.dep, depL, eqv, eqvL, atP_0, atP_1, atP_2, atP_3, isFL_app]
  simp only [rowD, List.map_append]
theorem patched_ok (P : List (List Cell)) (ws : List Wr) (hP : P.length ≤ 1000) (h : ∀ r ∈ P, r.length < 1000) (hw : ∀ w ∈ ws, fitW P w) : f_patched [picD P, .lst false (ws.map wD)] = some (.lst true ((ws.foldl apW P).map rowD)) := by
  have loop : ∀ (us : List Wr) (P' : List (List Cell)), (∀ r ∈ P', r.length < 1000) → (∀ w ∈ us, fitW P' w) → forP (.tp [.nm 3, .nm 4, .nm 5]) [3, 4, 5, 6] L_patched_1 (us.map wD) (ptS (picD P) (.lst false (ws.map wD)) P') = some (.nx, ptS (picD P) (.lst false (ws.map wD)) (us.foldl apW P')) := by
    intro us
    induction us with
    | nil => intro P' _ _; rfl
    | cons w us ih =>
      intro P' h1 h2
      have hw0 := h2 w List.mem_cons_self
      rw [List.map_cons, forP_nx (patched_turn _ _ P' w hw0 h1), ih (apW P' w) (ap_rows P' w hw0 h1) fun u hu => fit_ap P' w u hw0 (h2 u (List.mem_cons_of_mem _ hu))]
      rfl
  have l := loop ws P h hw
  have c := compP_map (t := .nm 3) (own := [3]) (ifs := fun ps => some (true, ps)) (elt := Y_patched_1) (σ := [.vw (picD P), .vw (.lst false (ws.map wD)), .no, .no, .no, .no, .no]) rowD rowD P (fun r hr => by
    unfold Y_patched_1
    simp [D.isF, isFL, D.pl, plL, D.dep, depL, eqv, eqvL, atP_0, atP_1, atP_2, atP_3, isFL_app]) (by show _ ≤ 1000000; omega)
  have e1 := pic_isFL P
  have e2 := wr_isFL ws
  simp only [ptS, picD] at l c ⊢
  unfold f_patched b_patched C_patched_1
  generalize P.map rowD = A at l c e1 ⊢
  generalize ws.map wD = B at l c e2 ⊢
  simp [c, l, e1, e2, D.isF, isFL, D.pl, plL, D.dep, depL, eqv, eqvL, atP_0, atP_1, atP_2, atP_3, isFL_app]
/-! ### cost_of -/
def costs (ws : List Wr) : Int := (ws.map fun w => 4 + (w.2.2.length : Int)).sum
theorem intsD_map (ns : List Int) : intsD (ns.map .int) = some ns := by
  induction ns with
  | nil => rfl
  | cons n ns ih => simp [intsD, ih]
theorem cost_ok (ws : List Wr) (hl : ws.length ≤ 1000000) : f_cost_of [.lst false (ws.map wD)] = some (.int (costs ws)) := by
  have c := compP_map (t := .tp [.nm 1, .nm 2, .nm 3]) (own := [1, 2, 3]) (ifs := fun ps => some (true, ps)) (elt := Y_cost_of_1) (σ := [.vw (.lst false (ws.map wD)), .no, .no, .no]) wD (fun w => .int (4 + (w.2.2.length : Int))) ws (fun w hw => by
    unfold Y_cost_of_1
    simp [wD, D.isF, isFL, D.pl, plL, D.dep, depL, eqv, eqvL, atP_0, atP_1, atP_2, atP_3, isFL_app]) hl
  have e2 := wr_isFL ws
  have e3 : ws.map (fun w => D.int (4 + (w.2.2.length : Int))) = (ws.map fun w => 4 + (w.2.2.length : Int)).map .int := by rw [List.map_map]; rfl
  rw [e3] at c
  have e4 := intsD_map (ws.map fun w => 4 + (w.2.2.length : Int))
  unfold costs
  unfold f_cost_of b_cost_of C_cost_of_1
  generalize (ws.map fun w => 4 + (w.2.2.length : Int)) = M at c e4 ⊢
  generalize ws.map wD = B at c e2 ⊢
  simp [c, e2, e4, D.isF, isFL, D.pl, plL, D.dep, depL, eqv, eqvL, atP_0, atP_1, atP_2, atP_3, isFL_app]
end Pv

/-! k65M10: what the writes cost and do. -/
namespace Pv
open PySem
theorem costs_append (a b : List Wr) : costs (a ++ b) = costs a + costs b := by
  unfold costs
  rw [List.map_append, List.sum_append]
theorem PL_open (ps : List Pr) (p : Pr) (st : Nat) (h : ¬ (p.1 = p.2 ∧ 0 + PL (esL ps) 0 = PL (esL (p :: ps)) st)) : PL (esL (p :: ps)) st = (if st = 0 then 4 + (p.2.length : Int) else (p.2.length : Int)) + PL (esL ps) 1 := by
  have e : PL (esL (p :: ps)) st = if p.1 = p.2 then (if (if st = 0 then 4 + (p.2.length : Int) else (p.2.length : Int)) + PL (esL ps) 1 < 0 + PL (esL ps) 0 then (if st = 0 then 4 + (p.2.length : Int) else (p.2.length : Int)) + PL (esL ps) 1 else 0 + PL (esL ps) 0) else (if st = 0 then 4 + (p.2.length : Int) else (p.2.length : Int)) + PL (esL ps) 1 := by
    by_cases hp : p.1 = p.2 <;> simp [esL, PL, hp]
  generalize hw : (if st = 0 then 4 + (p.2.length : Int) else (p.2.length : Int)) = w at e ⊢
  by_cases hp : p.1 = p.2
  · rw [if_pos hp] at e
    split at e
    · exact e
    · exact absurd ⟨hp, e.symm⟩ h
  · rw [if_neg hp] at e
    exact e
theorem WS_cost (r : Nat) : ∀ (ps : List Pr) (k : Nat) (cl : List Wr) (op : Option (Nat × List Cell)), costs (WS r k ps cl op) = costs cl + costs (opL r op) + PL (esL ps) (opS op)
  | [], k, cl, op => by simp only [WS, costs_append, esL, List.map_nil, PL, Int.add_zero]
  | p :: ps, k, cl, op => by
    simp only [WS]
    by_cases h : p.1 = p.2 ∧ 0 + PL (esL ps) 0 = PL (esL (p :: ps)) (opS op)
    · rw [if_pos h, WS_cost r ps, costs_append, ← h.2]
      simp only [opL, opS]
      have : costs [] = 0 := rfl
      omega
    · rw [if_neg h, PL_open ps p _ h]
      cases op with
      | none =>
        rw [if_pos (show opS none = 0 from rfl)]
        simp only []
        rw [WS_cost r ps]
        simp only [opL, opS, costs, List.map_nil, List.map_cons, List.sum_nil, List.sum_cons]
        omega
      | some x =>
        rw [if_neg (show ¬ opS (some x) = 0 from Nat.one_ne_zero)]
        simp only []
        rw [WS_cost r ps]
        simp only [opL, opS, costs, List.map_nil, List.map_cons, List.sum_nil, List.sum_cons, List.length_append]
        omega
theorem ws_cost (t : Tr) (r : Nat) : costs (t.ws r) = t.P (0, 0) := by
  unfold Tr.ws
  rw [WS_cost]
  show (0 : Int) + 0 + PL (esL t.ps) 0 = PL (t.es.drop 0) 0
  rw [List.drop_zero, Int.add_zero, Int.zero_add]
  rfl
theorem WS_fit (r : Nat) : ∀ (ps : List Pr) (k : Nat) (cl : List Wr) (op : Option (Nat × List Cell)), (∀ w ∈ cl, w.1 = r ∧ w.2.1 + w.2.2.length ≤ k) → (∀ c cs, op = some (c, cs) → c + cs.length = k) →
    ∀ w ∈ WS r k ps cl op, w.1 = r ∧ w.2.1 + w.2.2.length ≤ k + ((ps.map (·.2)).flatten).length
  | [], k, cl, op, h, ho, w, hw => by
    simp only [WS, List.mem_append] at hw
    rcases hw with hw | hw
    · have := h w hw
      exact ⟨this.1, by simpa using this.2⟩
    · cases op with
      | none => simp [opL] at hw
      | some x =>
        simp only [opL, List.mem_singleton] at hw
        subst hw
        have := ho x.1 x.2 rfl
        exact ⟨rfl, by simp; omega⟩
  | p :: ps, k, cl, op, h, ho, w, hw => by
    rw [List.map_cons, List.flatten_cons, List.length_append, ← Nat.add_assoc]
    simp only [WS] at hw
    split at hw
    · refine WS_fit r ps (k + p.2.length) _ none (fun u hu => ?_) (fun _ _ z => by cases z) w hw
      rw [List.mem_append] at hu
      rcases hu with hu | hu
      · have := h u hu; exact ⟨this.1, by omega⟩
      · cases op with
        | none => simp [opL] at hu
        | some x =>
          simp only [opL, List.mem_singleton] at hu
          subst hu
          have := ho x.1 x.2 rfl
          exact ⟨rfl, by simp only; omega⟩
    · cases op with
      | none => exact WS_fit r ps (k + p.2.length) cl (some (k, p.2)) (fun u hu => by have := h u hu; exact ⟨this.1, by omega⟩) (fun c cs z => by cases z; rfl) w hw
      | some x =>
        have hx := ho x.1 x.2 rfl
        exact WS_fit r ps (k + p.2.length) cl (some (x.1, x.2 ++ p.2)) (fun u hu => by have := h u hu; exact ⟨this.1, by omega⟩) (fun c cs z => by cases z; rw [List.length_append]; omega) w hw
theorem ws_fit (t : Tr) (r : Nat) : ∀ w ∈ t.ws r, w.1 = r ∧ w.2.1 + w.2.2.length ≤ t.two.length := fun w hw => by
  have := WS_fit r t.ps 0 [] none (fun _ z => by cases z) (fun _ _ z => by cases z) w hw
  rw [Nat.zero_add] at this
  exact this
theorem splice_at (pre x y post : List Cell) (r k : Nat) (hk : k = pre.length) (hx : x.length = y.length) : splice (pre ++ (x ++ post)) (r, k, y) = (pre ++ y) ++ post := by
  subst hk
  unfold splice
  simp only
  rw [List.take_left, List.drop_length_add_append, ← hx, List.drop_left]
theorem splice_ext (R : List Cell) (r c : Nat) (cs y pre x post : List Cell) (h : splice R (r, c, cs) = pre ++ (x ++ post)) (hk : c + cs.length = pre.length) (hc : c + cs.length ≤ R.length) (hx : x.length = y.length) : splice R (r, c, cs ++ y) = (pre ++ y) ++ post := by
  unfold splice at *
  simp only at h ⊢
  have l1 : (R.take c ++ cs).length = pre.length := by rw [List.length_append, List.length_take]; omega
  obtain ⟨e1, e2⟩ := List.append_inj h l1
  rw [← List.append_assoc, e1, List.length_append, ← Nat.add_assoc, ← List.drop_drop, e2, ← hx, List.drop_left]
theorem WS_splice (r : Nat) (one : List Cell) : ∀ (ps : List Pr) (pre : List Cell) (cl : List Wr) (op : Option (Nat × List Cell)), (∀ p ∈ ps, p.1.length = p.2.length) → (cl ++ opL r op).foldl splice one = pre ++ (ps.map (·.1)).flatten → (cl.foldl splice one).length = (pre ++ (ps.map (·.1)).flatten).length → (∀ c cs, op = some (c, cs) → c + cs.length = pre.length) →
    (WS r pre.length ps cl op).foldl splice one = pre ++ (ps.map (·.2)).flatten
  | [], pre, cl, op, _, e, _, _ => by simpa only [WS, List.map_nil, List.flatten_nil] using e
  | p :: ps, pre, cl, op, hp, e, el, ho => by
    have hx := hp p List.mem_cons_self
    have hp' : ∀ q ∈ ps, q.1.length = q.2.length := fun q hq => hp q (List.mem_cons_of_mem _ hq)
    rw [List.map_cons, List.flatten_cons] at e el
    rw [List.map_cons, List.flatten_cons, ← List.append_assoc]
    have elen : (pre ++ p.2).length = pre.length + p.2.length := List.length_append
    have ell : (cl.foldl splice one).length = ((pre ++ p.2) ++ (ps.map (·.1)).flatten).length := by
      rw [el]; simp only [List.length_append]; omega
    simp only [WS, ← elen]
    by_cases h : p.1 = p.2 ∧ 0 + PL (esL ps) 0 = PL (esL (p :: ps)) (opS op)
    · rw [if_pos h]
      refine WS_splice r one ps (pre ++ p.2) _ none hp' ?_ ?_ (fun _ _ z => by cases z)
      · show ((cl ++ opL r op) ++ []).foldl splice one = _
        rw [List.append_nil, e, h.1, List.append_assoc]
      · rw [e, h.1, List.append_assoc]
    · rw [if_neg h]
      cases op with
      | none =>
        simp only [opL, List.append_nil] at e
        refine WS_splice r one ps (pre ++ p.2) cl (some (pre.length, p.2)) hp' ?_ ell (fun c cs z => by cases z; exact elen.symm)
        simp only [opL, List.foldl_append, List.foldl_cons, List.foldl_nil]
        rw [e]
        exact splice_at pre p.1 p.2 _ r _ rfl hx
      | some x =>
        obtain ⟨c, cs⟩ := x
        have hcs := ho c cs rfl
        simp only [opL, List.foldl_append, List.foldl_cons, List.foldl_nil] at e
        refine WS_splice r one ps (pre ++ p.2) cl (some (c, cs ++ p.2)) hp' ?_ ell (fun c' cs' z => by cases z; rw [List.length_append, elen]; omega)
        simp only [opL, List.foldl_append, List.foldl_cons, List.foldl_nil]
        refine splice_ext _ r c cs p.2 pre p.1 _ e hcs ?_ hx
        rw [el, List.length_append]
        omega
theorem ws_splice (t : Tr) (h : t.ok) (r : Nat) : (t.ws r).foldl splice t.one = t.two :=
  WS_splice r t.one t.ps [] [] none (fun p hp => (h.2 p hp).1) rfl rfl (fun _ _ z => by cases z)
theorem ap_same (r : Nat) : ∀ (ws : List Wr) (P : List (List Cell)), r < P.length → (∀ w ∈ ws, w.1 = r) → ws.foldl apW P = P.set r (ws.foldl splice (P.getD r []))
  | [], P, hr, _ => by
    rw [List.foldl_nil, List.foldl_nil, List.getD_eq_getElem?_getD, List.getElem?_eq_getElem hr]
    simp
  | w :: ws, P, hr, h => by
    have hw := h w List.mem_cons_self
    rw [List.foldl_cons, List.foldl_cons, ap_same r ws (apW P w) (by unfold apW; rw [List.length_set]; exact hr) fun u hu => h u (List.mem_cons_of_mem _ hu)]
    unfold apW
    rw [hw, getD_set _ _ _ _ hr, if_pos rfl, List.set_set]
theorem PW_apply : ∀ (ts : List Tr) (done : List (List Cell)), (∀ t ∈ ts, t.ok) → (PW done.length ts).foldl apW (done ++ ts.map Tr.one) = done ++ ts.map Tr.two
  | [], done, _ => rfl
  | t :: ts, done, h => by
    have hr : done.length < (done ++ (t :: ts).map Tr.one).length := by rw [List.length_append]; simp
    have g : (done ++ (t :: ts).map Tr.one).getD done.length [] = t.one := by
      rw [List.getD_eq_getElem?_getD, List.getElem?_append_right (Nat.le_refl _), Nat.sub_self]; rfl
    rw [PW, List.foldl_append, ap_same done.length (t.ws done.length) _ hr fun w hw => (ws_fit t _ w hw).1, g, ws_splice t (h t List.mem_cons_self)]
    have e : (done ++ (t :: ts).map Tr.one).set done.length t.two = (done ++ [t.two]) ++ ts.map Tr.one := by
      rw [List.set_append_right _ _ (Nat.le_refl _), Nat.sub_self]; simp
    have e2 : done.length + 1 = (done ++ [t.two]).length := by simp
    rw [e, e2, PW_apply ts (done ++ [t.two]) fun u hu => h u (List.mem_cons_of_mem _ hu)]
    simp
theorem tr_lens (t : Tr) (h : t.ok) : t.one.length = t.two.length := by
  have : ∀ ps : List Pr, (∀ p ∈ ps, p.1.length = p.2.length) → ((ps.map (·.1)).flatten).length = ((ps.map (·.2)).flatten).length := by
    intro ps
    induction ps with
    | nil => intro _; rfl
    | cons p ps ih =>
      intro hp
      rw [List.map_cons, List.map_cons, List.flatten_cons, List.flatten_cons, List.length_append, List.length_append, ih fun q hq => hp q (List.mem_cons_of_mem _ hq), hp p List.mem_cons_self]
  exact this t.ps fun p hp => (h.2 p hp).1
theorem PW_fit : ∀ (ts : List Tr) (done : List (List Cell)), (∀ t ∈ ts, t.ok) → ∀ w ∈ PW done.length ts, fitW (done ++ ts.map Tr.one) w
  | [], done, _, w, hw => by cases hw
  | t :: ts, done, h, w, hw => by
    rw [PW, List.mem_append] at hw
    have e2 : done.length + 1 = (done ++ [t.one]).length := by simp
    rcases hw with hw | hw
    · obtain ⟨h1, h2⟩ := ws_fit t _ w hw
      refine ⟨by rw [h1, List.length_append]; simp, ?_⟩
      have g : (done ++ (t :: ts).map Tr.one).getD done.length [] = t.one := by
        rw [List.getD_eq_getElem?_getD, List.getElem?_append_right (Nat.le_refl _), Nat.sub_self]; rfl
      rw [h1, g, tr_lens t (h t List.mem_cons_self)]
      exact h2
    · rw [e2] at hw
      have := PW_fit ts (done ++ [t.one]) (fun u hu => h u (List.mem_cons_of_mem _ hu)) w hw
      rw [List.append_assoc, List.singleton_append] at this
      exact this
theorem PW_cost : ∀ (ts : List Tr) (r : Nat), costs (PW r ts) = (ts.map fun t => t.P (0, 0)).sum
  | [], r => rfl
  | t :: ts, r => by rw [PW, costs_append, ws_cost, PW_cost ts, List.map_cons, List.sum_cons]
end Pv

/-! k80N1: letters of cells; what least comes to. -/
namespace Pv
open PySem
/-- a great letter -/
def isG (s : Str) : Bool := !sLt s "A" && !sLt "Z" s
/-- a letter's cells -/
def LetOk (l : List Cell) : Prop := ∃ (s i g : Str), s ≠ ("" : Str) ∧ ((isG s = false ∧ l = [(s, i, g)]) ∨ (isG s = true ∧ l = [(s, i, g), ("", i, g)]))
theorem let_blk {l : List Cell} (h : LetOk l) : Blk l := by
  obtain ⟨s, i, g, hs, ⟨_, rfl⟩ | ⟨_, rfl⟩⟩ := h
  · exact ⟨(s, i, g), [], rfl, hs, fun e he => by simp at he⟩
  · exact ⟨(s, i, g), [("", i, g)], rfl, hs, fun e he => by simp at he; rw [he]⟩
theorem let_len {l : List Cell} (h : LetOk l) : 1 ≤ l.length ∧ l.length ≤ 2 := by
  obtain ⟨s, i, g, hs, ⟨_, rfl⟩ | ⟨_, rfl⟩⟩ := h <;> simp
theorem let_head {l : List Cell} (h : LetOk l) : ∃ s i g r, l = (s, i, g) :: r ∧ l.length = if isG s then 2 else 1 := by
  obtain ⟨s, i, g, hs, ⟨e, rfl⟩ | ⟨e, rfl⟩⟩ := h
  · exact ⟨s, i, g, [], rfl, by simp [e]⟩
  · exact ⟨s, i, g, _, rfl, by simp [e]⟩
/-- a run of letters -/
abbrev LB := List (List Cell)
/-- a row cut at the letters of another -/
def cutB : List Cell → LB → List (List Cell × List Cell)
  | _, [] => []
  | one, l :: ls => (one.take l.length, l) :: cutB (one.drop l.length) ls
def trB (one : List Cell) (ls : LB) : Tr := ⟨cutB one ls⟩
theorem cutB_two : ∀ (ls : LB) (one : List Cell), (cutB one ls).map (·.2) = ls
  | [], _ => rfl
  | l :: ls, one => by simp [cutB, cutB_two ls]
theorem cutB_one : ∀ (ls : LB) (one : List Cell), one.length = ls.flatten.length → ((cutB one ls).map (·.1)).flatten = one
  | [], one, h => by
    have : one = [] := by simpa using h
    simp [cutB, this]
  | l :: ls, one, h => by
    simp only [List.flatten_cons, List.length_append] at h
    simp only [cutB, List.map_cons, List.flatten_cons]
    rw [cutB_one ls (one.drop l.length) (by rw [List.length_drop]; omega), List.take_append_drop]
theorem trB_two (one : List Cell) (ls : LB) : (trB one ls).two = ls.flatten := by unfold Tr.two trB; rw [cutB_two]
theorem trB_one (one : List Cell) (ls : LB) (h : one.length = ls.flatten.length) : (trB one ls).one = one := cutB_one ls one h
theorem cutB_len : ∀ (ls : LB) (one : List Cell), (cutB one ls).length = ls.length
  | [], _ => rfl
  | l :: ls, one => by simp [cutB, cutB_len ls]
theorem trB_n (one : List Cell) (ls : LB) : (trB one ls).n = ls.length := cutB_len ls one
theorem cutB_mem : ∀ (ls : LB) (one : List Cell), one.length = ls.flatten.length → ∀ p ∈ cutB one ls, p.1.length = p.2.length ∧ p.2 ∈ ls
  | [], _, _, p, h => by simp [cutB] at h
  | l :: ls, one, h, p, hp => by
    simp only [List.flatten_cons, List.length_append] at h
    simp only [cutB, List.mem_cons] at hp
    rcases hp with rfl | hp
    · exact ⟨by simp only [List.length_take]; omega, List.mem_cons_self⟩
    · obtain ⟨h1, h2⟩ := cutB_mem ls _ (by rw [List.length_drop]; omega) p hp
      exact ⟨h1, List.mem_cons_of_mem _ h2⟩
theorem trB_ok (one : List Cell) (ls : LB) (h : one.length = ls.flatten.length) (hl : ∀ l ∈ ls, LetOk l) (hn : ls.length ≤ 1000) : (trB one ls).ok := by
  refine ⟨by unfold trB; simp only [cutB_len]; exact hn, fun p hp => ?_⟩
  obtain ⟨h1, h2⟩ := cutB_mem ls one h p hp
  exact ⟨h1, let_blk (hl _ h2), by have := (let_len (hl _ h2)).2; omega⟩
def esB (one : List Cell) (ls : LB) : List (Bool × Nat) := (trB one ls).es
theorem esB_nil (one : List Cell) : esB one [] = [] := rfl
theorem esB_cons (one : List Cell) (l : List Cell) (ls : LB) : esB one (l :: ls) = (decide (one.take l.length = l), l.length) :: esB (one.drop l.length) ls := rfl
theorem esB_append : ∀ (xs ys : LB) (a b : List Cell), a.length = xs.flatten.length → esB (a ++ b) (xs ++ ys) = esB a xs ++ esB b ys
  | [], ys, a, b, h => by
    have : a = [] := by simpa using h
    simp [this, esB_nil]
  | l :: xs, ys, a, b, h => by
    simp only [List.flatten_cons, List.length_append] at h
    rw [List.cons_append, esB_cons, esB_cons, List.take_append_of_le_length (by omega), List.drop_append_of_le_length (by omega), esB_append xs ys _ b (by rw [List.length_drop]; omega)]
    rfl
theorem esB_same : ∀ (ls : LB), esB ls.flatten ls = ls.map fun l => (true, l.length)
  | [] => rfl
  | l :: ls => by
    rw [esB_cons, List.flatten_cons, List.map_cons]
    simp [esB_same ls]
/-! ### prices -/
theorem PL_cons (e : Bool) (s : Nat) (L : List (Bool × Nat)) (st : Nat) : PL ((e, s) :: L) st = if e = true then min ((if st = 0 then 4 + (s : Int) else (s : Int)) + PL L 1) (PL L 0) else (if st = 0 then 4 + (s : Int) else (s : Int)) + PL L 1 := by
  simp only [PL]
  by_cases he : e = true
  · rw [if_pos he, if_pos he]
    omega
  · rw [if_neg he, if_neg he]
/-- what stands behind costs the same from both states -/
theorem PL_behind (B : List (Bool × Nat)) (c : Int) (h0 : PL B 0 = c) (h1 : PL B 1 = c) : ∀ (A : List (Bool × Nat)) (st : Nat), st < 2 → PL (A ++ B) st = PL A st + c
  | [], st, h => by
    have e : PL B st = c := by
      rcases (show st = 0 ∨ st = 1 by omega) with rfl | rfl <;> assumption
    simp [PL, e]
  | (e, s) :: A, st, h => by
    rw [List.cons_append, PL_cons, PL_cons, PL_behind B c h0 h1 A 0 (by decide), PL_behind B c h0 h1 A 1 (by decide)]
    split <;> omega
theorem PL_10 : ∀ L : List (Bool × Nat), PL L 1 ≤ PL L 0 ∧ PL L 0 ≤ PL L 1 + 4
  | [] => by simp [PL]
  | (e, s) :: L => by
    have h := PL_10 L
    rw [PL_cons, PL_cons]
    simp only [if_true]
    split <;> omega
/-- the cells -/
def tot (L : List (Bool × Nat)) : Int := (L.map fun p => (p.2 : Int)).sum
theorem tot_nonneg : ∀ L : List (Bool × Nat), 0 ≤ tot L
  | [] => by simp [tot]
  | p :: L => by
    have := tot_nonneg L
    unfold tot at *
    simp only [List.map_cons, List.sum_cons]
    omega
/-- through equal letters -/
theorem PL_wall (B : List (Bool × Nat)) : ∀ (W : List (Bool × Nat)), (∀ p ∈ W, p.1 = true) → PL (W ++ B) 0 = PL B 0 ∧ PL (W ++ B) 1 = min (PL B 0) (tot W + PL B 1)
  | [], _ => by
    have := PL_10 B
    refine ⟨rfl, ?_⟩
    have e : tot [] = 0 := rfl
    rw [e, List.nil_append]
    omega
  | (e, s) :: W, h => by
    have he : e = true := h (e, s) List.mem_cons_self
    subst he
    obtain ⟨h0, h1⟩ := PL_wall B W fun p hp => h p (List.mem_cons_of_mem _ hp)
    have h2 := PL_10 B
    have h3 := tot_nonneg W
    have e3 : tot ((true, s) :: W) = (s : Int) + tot W := by simp [tot]
    rw [List.cons_append, PL_cons, PL_cons, h0, h1, e3]
    simp only [if_true]
    constructor
    · omega
    · have : ¬ (1 : Nat) = 0 := by decide
      rw [if_neg this]
      omega
theorem PL_walls (W B : List (Bool × Nat)) (h : ∀ p ∈ W, p.1 = true) (h4 : 4 ≤ tot W) : PL (W ++ B) 0 = PL B 0 ∧ PL (W ++ B) 1 = PL B 0 := by
  obtain ⟨h0, h1⟩ := PL_wall B W h
  have h2 := PL_10 B
  exact ⟨h0, by rw [h1]; omega⟩
/-- the cheapest, gone through from the front -/
def fw : List (Bool × Nat) → Int → Int → Int × Int
  | [], r, g => (r, g)
  | (e, s) :: L, r, g => fw L (if e = true then min r g else 999999) (min (r + 4) g + s)
theorem fw_PL : ∀ (L : List (Bool × Nat)) (r g : Int), min r g + (tot L + 5 * L.length) ≤ 900000 → min (fw L r g).1 (fw L r g).2 = min (r + PL L 0) (g + PL L 1)
  | [], r, g, _ => by simp [fw, PL]
  | (e, s) :: L, r, g, h => by
    have e3 : tot ((e, s) :: L) = (s : Int) + tot L := by simp [tot]
    have h3 := tot_nonneg L
    have h2 := PL_10 L
    rw [e3, List.length_cons] at h
    simp only [fw]
    rw [PL_cons, PL_cons]
    have hi : ¬ (1 : Nat) = 0 := by decide
    simp only [if_true, if_neg hi]
    rw [fw_PL L _ _ (by split <;> omega)]
    split
    · omega
    · omega
end Pv

/-! k80N2: least; the making of letters. -/
namespace Pv
open PySem
theorem isFL_rows (r : List Cell) : isFL (r.map cD) = true := row_isFL r
def lstS (one : D) (ls : D) (r g : Int) (k : Nat) : PS := [.vw one, .vw ls, .ow (.int r), .ow (.int g), .ow (.int k), .no, .no, .no]
theorem chain_isG (s : Str) (x : Option D) : True := trivial
theorem least_turn (one pre l post : List Cell) (two : List Cell) (hl : LetOk l) (h2 : two = pre ++ (l ++ post)) (h1 : one.length = two.length) (hn : two.length ≤ 1000) (r g : Int) :
    ∃ σ', L_law_least_1 (lstS (rowD one) (rowD two) r g pre.length) = some (.nx, σ') ∧ clr [5, 6, 7] σ' = lstS (rowD one) (rowD two) (if (one.drop pre.length).take l.length = l then min r g else 999999) (min (r + 4) g + l.length) (pre ++ l).length := by
  obtain ⟨s, i, gr, rest, e, el⟩ := let_head hl
  have ha : atP (two.map cD) (pre.length : Int) = some (cD (s, i, gr)) := by
    rw [atP_nat, List.getElem?_map, h2, List.getElem?_append_right (Nat.le_refl _), Nat.sub_self, e]; rfl
  have hf : isFL (one.map cD) = true := row_isFL one
  have hf2 : isFL (two.map cD) = true := row_isFL two
  have cA : ∀ m : Int, m = (l.length : Int) → cutP (one.map cD) (some (pre.length : Int)) (some ((pre.length : Int) + m)) = ((one.drop pre.length).take l.length).map cD := fun m hm => by
    subst hm
    rw [← Int.natCast_add, cutP_mid, ← List.map_take, ← List.map_drop, List.drop_take, Nat.add_sub_cancel_left]
  have cB : ∀ m : Int, m = (l.length : Int) → cutP (two.map cD) (some (pre.length : Int)) (some ((pre.length : Int) + m)) = l.map cD := fun m hm => by
    subst hm
    rw [← Int.natCast_add, cutP_mid, ← List.map_take, ← List.map_drop, h2, List.take_length_add_append, List.drop_left, List.take_left]
  have d1 : depL (((one.drop pre.length).take l.length).map cD) ≤ 39 := by have := row_depL ((one.drop pre.length).take l.length); omega
  have d2 : depL (l.map cD) ≤ 39 := by have := row_depL l; omega
  generalize hX : (one.drop pre.length).take l.length = X at *
  have hlen : ((pre ++ l).length : Int) = (pre.length : Int) + (l.length : Int) := by simp
  have fin : ∀ m : Int, m = (l.length : Int) → min (r + 4) g + m = min (r + 4) g + (l.length : Int) ∧ (pre.length : Int) + m = ((pre ++ l).length : Int) := fun m hm => by rw [hlen, hm]; exact ⟨rfl, rfl⟩
  cases z : sLt s "A" <;> cases y : sLt "Z" s
  · have hg : isG s = true := by unfold isG; rw [z, y]; rfl
    have hll : l.length = 2 := by rw [el, if_pos hg]
    have c1 := cA 2 (by omega)
    have c2 := cB 2 (by omega)
    by_cases hx : X = l
    · rw [lstS]
      unfold L_law_least_1
      simp [D.isF, isFL, D.pl, plL, D.dep, depL, eqv, eqvL, atP_0, atP_1, atP_2, atP_3, isFL_app, ha, cD, z, y, c1, c2, hf, hf2, d1, d2, eqvL_map cD_eqv, hx, lstS]
      refine ⟨?_, ?_, ?_⟩ <;> (try split) <;> omega
    · rw [lstS]
      unfold L_law_least_1
      simp [D.isF, isFL, D.pl, plL, D.dep, depL, eqv, eqvL, atP_0, atP_1, atP_2, atP_3, isFL_app, ha, cD, z, y, c1, c2, hf, hf2, d1, d2, eqvL_map cD_eqv, hx, lstS]
      refine ⟨?_, ?_⟩ <;> (try split) <;> omega
  · have hg : ¬ isG s = true := by unfold isG; rw [z, y]; decide
    have hll : l.length = 1 := by rw [el, if_neg hg]
    have c1 := cA 1 (by omega)
    have c2 := cB 1 (by omega)
    by_cases hx : X = l
    · rw [lstS]
      unfold L_law_least_1
      simp [D.isF, isFL, D.pl, plL, D.dep, depL, eqv, eqvL, atP_0, atP_1, atP_2, atP_3, isFL_app, ha, cD, z, y, c1, c2, hf, hf2, d1, d2, eqvL_map cD_eqv, hx, lstS]
      refine ⟨?_, ?_, ?_⟩ <;> (try split) <;> omega
    · rw [lstS]
      unfold L_law_least_1
      simp [D.isF, isFL, D.pl, plL, D.dep, depL, eqv, eqvL, atP_0, atP_1, atP_2, atP_3, isFL_app, ha, cD, z, y, c1, c2, hf, hf2, d1, d2, eqvL_map cD_eqv, hx, lstS]
      refine ⟨?_, ?_⟩ <;> (try split) <;> omega
  · have hg : ¬ isG s = true := by unfold isG; rw [z, y]; decide
    have hll : l.length = 1 := by rw [el, if_neg hg]
    have c1 := cA 1 (by omega)
    have c2 := cB 1 (by omega)
    by_cases hx : X = l
    · rw [lstS]
      unfold L_law_least_1
      simp [D.isF, isFL, D.pl, plL, D.dep, depL, eqv, eqvL, atP_0, atP_1, atP_2, atP_3, isFL_app, ha, cD, z, y, c1, c2, hf, hf2, d1, d2, eqvL_map cD_eqv, hx, lstS]
      refine ⟨?_, ?_, ?_⟩ <;> (try split) <;> omega
    · rw [lstS]
      unfold L_law_least_1
      simp [D.isF, isFL, D.pl, plL, D.dep, depL, eqv, eqvL, atP_0, atP_1, atP_2, atP_3, isFL_app, ha, cD, z, y, c1, c2, hf, hf2, d1, d2, eqvL_map cD_eqv, hx, lstS]
      refine ⟨?_, ?_⟩ <;> (try split) <;> omega
  · have hg : ¬ isG s = true := by unfold isG; rw [z, y]; decide
    have hll : l.length = 1 := by rw [el, if_neg hg]
    have c1 := cA 1 (by omega)
    have c2 := cB 1 (by omega)
    by_cases hx : X = l
    · rw [lstS]
      unfold L_law_least_1
      simp [D.isF, isFL, D.pl, plL, D.dep, depL, eqv, eqvL, atP_0, atP_1, atP_2, atP_3, isFL_app, ha, cD, z, y, c1, c2, hf, hf2, d1, d2, eqvL_map cD_eqv, hx, lstS]
      refine ⟨?_, ?_, ?_⟩ <;> (try split) <;> omega
    · rw [lstS]
      unfold L_law_least_1
      simp [D.isF, isFL, D.pl, plL, D.dep, depL, eqv, eqvL, atP_0, atP_1, atP_2, atP_3, isFL_app, ha, cD, z, y, c1, c2, hf, hf2, d1, d2, eqvL_map cD_eqv, hx, lstS]
      refine ⟨?_, ?_⟩ <;> (try split) <;> omega
theorem least_loop (one two : List Cell) (h1 : one.length = two.length) (hn : two.length ≤ 1000) : ∀ (ls : LB) (pre : List Cell) (r g : Int) (n : Nat), (∀ l ∈ ls, LetOk l) → two = pre ++ ls.flatten → ls.length < n →
    whileP T_law_least_1 [5, 6, 7] L_law_least_1 n (lstS (rowD one) (rowD two) r g pre.length) = some (.nx, lstS (rowD one) (rowD two) (fw (esB (one.drop pre.length) ls) r g).1 (fw (esB (one.drop pre.length) ls) r g).2 two.length)
  | [], pre, r, g, n, _, h2, hlt => by
    obtain ⟨m, rfl⟩ : ∃ m, n = m + 1 := ⟨n - 1, by omega⟩
    have e : two = pre := by simpa using h2
    rw [e] at *
    exact whileP_end (by simp [T_law_least_1, lstS, esB_nil, fw])
  | l :: ls, pre, r, g, n, hl, h2, hlt => by
    obtain ⟨m, rfl⟩ : ∃ m, n = m + 1 := ⟨n - 1, by omega⟩
    rw [List.length_cons] at hlt
    have hll := hl l List.mem_cons_self
    have h2' : two = pre ++ (l ++ ls.flatten) := h2
    obtain ⟨σ', e1, e2⟩ := least_turn one pre l ls.flatten two hll h2' h1 hn r g
    have hlen := (let_len hll).1
    have hc : (pre.length : Int) < two.length := by rw [h2']; simp; omega
    rw [whileP_nx (σ1 := lstS (rowD one) (rowD two) r g pre.length) (by simp [T_law_least_1, lstS, hc]) e1, e2]
    have ih := least_loop one two h1 hn ls (pre ++ l) (if (one.drop pre.length).take l.length = l then min r g else 999999) (min (r + 4) g + l.length) m (fun x hx => hl x (List.mem_cons_of_mem _ hx)) (by rw [h2', List.append_assoc]) (by omega)
    rw [ih, esB_cons, List.drop_drop, List.length_append]
    simp only [fw, decide_eq_true_eq]
theorem least_ok (one : List Cell) (ls : LB) (h : one.length = ls.flatten.length) (hl : ∀ l ∈ ls, LetOk l) (hn : ls.flatten.length ≤ 1000) : f_law_least [rowD one, rowD ls.flatten] = some (.int (PL (esB one ls) 0)) := by
  have hk : ls.length ≤ ls.flatten.length := by
    clear h hn
    induction ls with
    | nil => simp
    | cons l ls ih =>
      have := (let_len (hl l List.mem_cons_self)).1
      have := ih fun x hx => hl x (List.mem_cons_of_mem _ hx)
      simp only [List.flatten_cons, List.length_append, List.length_cons]
      omega
  have w := least_loop one ls.flatten h hn ls [] 0 999999 fuel hl rfl (by unfold fuel; omega)
  have ht : tot (esB one ls) + 5 * (esB one ls).length ≤ 6000 := by
    have e1 : (esB one ls).length = ls.length := by unfold esB Tr.es trB; rw [List.length_map, cutB_len]
    have e2 : tot (esB one ls) = (ls.flatten.length : Int) := by
      clear w hk hn e1
      induction ls generalizing one with
      | nil => rfl
      | cons l ls ih =>
        have hh : one.length = l.length + ls.flatten.length := by simpa using h
        have := ih (one.drop l.length) (by rw [List.length_drop]; omega) fun x hx => hl x (List.mem_cons_of_mem _ hx)
        rw [esB_cons]
        unfold tot at *
        simp only [List.map_cons, List.sum_cons, List.flatten_cons, List.length_append]
        omega
    rw [e1, e2]
    omega
  have f := fw_PL (esB one ls) 0 999999 (by omega)
  have hp := PL_10 (esB one ls)
  have hpos := P_nonneg (esB one ls) 0
  rw [List.length_nil, List.drop_zero] at w
  generalize fw (esB one ls) 0 999999 = q at *
  obtain ⟨a, b⟩ := q
  simp only at w f
  have hf : min a b = PL (esB one ls) 0 := by rw [f]; omega
  have hf2 : (if b < a then b else a) = PL (esB one ls) 0 := by rw [← hf]; omega
  unfold lstS at w
  unfold f_law_least b_law_least
  simp at w
  simp [D.isF, isFL, D.pl, plL, D.dep, depL, eqv, eqvL, atP_0, atP_1, atP_2, atP_3, isFL_app, w, hf2]
end Pv

/-! k80N3: the law's own letters and shapes. -/
namespace Pv
open PySem
theorem str_one (B : Bag) (h : B.ok) (L : List Str) (n1 : L ≠ []) (n2 : L.length < 1000000) : ∃ (a : Str) (B' : Bag), a ∈ L ∧ f_law_one [B.d, .lst false (L.map .str)] = some (.str a, [B'.d]) ∧ B'.ok := by
  obtain ⟨x, B', hx, e, ok⟩ := one_ok B h (L.map .str) false (by simp [n1]) (by rw [List.length_map]; exact n2) (strs_isFL L)
  obtain ⟨a, ha, rfl⟩ := List.mem_map.mp hx
  exact ⟨a, B', ha, e, ok⟩
/-- letters, and how many cells -/
structure LbOk (n : Nat) (ls : LB) : Prop where
  let_ : ∀ l ∈ ls, LetOk l
  len : ls.flatten.length = n
theorem g_a : sLt "a" "A" = false ∧ sLt "Z" "a" = true := by decide
theorem g_b : sLt "b" "A" = false ∧ sLt "Z" "b" = true := by decide
theorem g_sp : sLt " " "A" = true ∧ sLt "Z" " " = false := by decide
theorem g_A : sLt "A" "A" = false ∧ sLt "Z" "A" = false := by decide
theorem g_B : sLt "B" "A" = false ∧ sLt "Z" "B" = false := by decide
def blS (B : Bag) (n : Nat) (ls : LB) : PS := [.io B.d, .vw (.int n), .ow (.lst true (ls.flatten.map cD)), .no, .no, .no, .no]
theorem snoc_map (ls : LB) (l : List Cell) : ((ls ++ [l]).flatten).map cD = ls.flatten.map cD ++ l.map cD := by
  rw [List.flatten_append, List.map_append]; simp
theorem blk_turn (B : Bag) (h : B.ok) (n : Nat) (hn : n ≤ 1000) (ls : LB) (hl : ∀ l ∈ ls, LetOk l) (hlen : ls.flatten.length ≤ n) (k : Int) :
    ∃ B' ls', B'.ok ∧ (∀ l ∈ ls', LetOk l) ∧ ls'.flatten.length ≤ n ∧ min (ls.flatten.length + 1) n ≤ ls'.flatten.length ∧ turn (.nm 3) [3, 4, 5, 6] L_law_block_cells_1 (.int k) (blS B n ls) = some (.nx, blS B' n ls') := by
  by_cases hlt : ls.flatten.length < n
  · obtain ⟨a1, B1, m1, e1, ok1⟩ := str_one B h [("a" : Str), ("b" : Str), (" " : Str), ("A" : Str), ("B" : Str)] (by simp) (by simp)
    obtain ⟨a2, B2, m2, e2, ok2⟩ := str_one B1 ok1 [("." : Str), ("a" : Str)] (by simp) (by simp)
    obtain ⟨a3, B3, m3, e3, ok3⟩ := str_one B2 ok2 [("." : Str), ("b" : Str)] (by simp) (by simp)
    simp only [List.map_cons, List.map_nil] at e1 e2 e3
    have add : ∀ l : List Cell, LetOk l → ls.flatten.length + l.length ≤ n → turn (.nm 3) [3, 4, 5, 6] L_law_block_cells_1 (.int k) (blS B n ls) = some (.nx, blS B3 n (ls ++ [l])) →
        ∃ B' ls', B'.ok ∧ (∀ l ∈ ls', LetOk l) ∧ ls'.flatten.length ≤ n ∧ min (ls.flatten.length + 1) n ≤ ls'.flatten.length ∧ turn (.nm 3) [3, 4, 5, 6] L_law_block_cells_1 (.int k) (blS B n ls) = some (.nx, blS B' n ls') := fun l h1 h2 h3 => by
      have h4 := (let_len h1).1
      refine ⟨B3, ls ++ [l], ok3, fun x hx => ?_, by simp only [List.flatten_append, List.length_append, List.flatten_singleton]; exact h2, by simp only [List.flatten_append, List.length_append, List.flatten_singleton]; omega, h3⟩
      rcases List.mem_append.mp hx with q | q
      · exact hl x q
      · rw [List.mem_singleton.mp q]; exact h1
    have l9 : (ls.flatten.map cD).length + 2 < cap := by rw [List.length_map]; show _ < 1000000; omega
    have l2 : ((ls.flatten.map cD).length : Int) < (n : Int) := by rw [List.length_map]; omega
    have l3 : (ls.flatten.map cD).length = ls.flatten.length := List.length_map ..
    have l4 := row_isFL ls.flatten
    obtain ⟨⟨a_1, a_2⟩, ⟨b_1, b_2⟩, ⟨s_1, s_2⟩, ⟨A_1, A_2⟩, B_1, B_2⟩ : (_ ∧ _) ∧ (_ ∧ _) ∧ (_ ∧ _) ∧ (_ ∧ _) ∧ _ ∧ _ := ⟨g_a, g_b, g_sp, g_A, g_B⟩
    have one : ∀ s : Str, s ≠ "" → isG s = false → ∀ i g, LetOk [(s, i, g)] := fun s h1 h2 i g => ⟨s, i, g, h1, .inl ⟨h2, rfl⟩⟩
    have two : ∀ s : Str, s ≠ "" → isG s = true → ∀ i g, LetOk [(s, i, g), ("", i, g)] := fun s h1 h2 i g => ⟨s, i, g, h1, .inr ⟨h2, rfl⟩⟩
    simp only [List.mem_cons, List.not_mem_nil, or_false] at m1
    have run : ∀ l : List Cell, (turn (.nm 3) [3, 4, 5, 6] L_law_block_cells_1 (.int k) [.io B.d, .vw (.int n), .ow (.lst true (ls.flatten.map cD)), .no, .no, .no, .no] = some (.nx, [.io B3.d, .vw (.int n), .ow (.lst true (ls.flatten.map cD ++ l.map cD)), .no, .no, .no, .no])) →
        turn (.nm 3) [3, 4, 5, 6] L_law_block_cells_1 (.int k) (blS B n ls) = some (.nx, blS B3 n (ls ++ [l])) := fun l e => by
      unfold blS
      rw [snoc_map]
      exact e
    have l0 : (ls.flatten.map cD).length < cap := by omega
    have l1 : (ls.flatten.map cD).length + 1 < cap := by omega
    have hfit : ls.flatten.length + [("a", a2, a3)].length ≤ n := by simp only [List.length_singleton]; omega
    rcases m1 with q | q | q | q | q
    · subst q
      refine add [("a", a2, a3)] (one _ (by simp) (by unfold isG; rw [a_1, a_2]; rfl) _ _) hfit (run _ ?_)
      unfold L_law_block_cells_1
      generalize ls.flatten.map cD = R at *
      simp [e1, e2, e3, l0, l1, l2, l4, D.frz, D.isF, isFL, D.pl, plL, D.dep, depL, eqv, eqvL, atP_0, atP_1, atP_2, atP_3, isFL_app, cD, a_1, a_2]
    · subst q
      refine add [("b", a2, a3)] (one _ (by simp) (by unfold isG; rw [b_1, b_2]; rfl) _ _) hfit (run _ ?_)
      unfold L_law_block_cells_1
      generalize ls.flatten.map cD = R at *
      simp [e1, e2, e3, l0, l1, l2, l4, D.frz, D.isF, isFL, D.pl, plL, D.dep, depL, eqv, eqvL, atP_0, atP_1, atP_2, atP_3, isFL_app, cD, b_1, b_2]
    · subst q
      refine add [(" ", ".", a3)] (one _ (by simp) (by unfold isG; rw [s_1, s_2]; rfl) _ _) hfit (run _ ?_)
      unfold L_law_block_cells_1
      generalize ls.flatten.map cD = R at *
      simp [e1, e2, e3, l0, l1, l2, l4, D.frz, D.isF, isFL, D.pl, plL, D.dep, depL, eqv, eqvL, atP_0, atP_1, atP_2, atP_3, isFL_app, cD, s_1, s_2]
    · subst q
      by_cases hx : (n : Int) < ((ls.flatten.map cD).length : Int) + 2
      · refine add [("a", a2, a3)] (one _ (by simp) (by unfold isG; rw [a_1, a_2]; rfl) _ _) hfit (run _ ?_)
        unfold L_law_block_cells_1
        generalize ls.flatten.map cD = R at *
        simp [e1, e2, e3, l0, l1, l2, l4, D.frz, D.isF, isFL, D.pl, plL, D.dep, depL, eqv, eqvL, atP_0, atP_1, atP_2, atP_3, isFL_app, cD, hx, A_1, A_2, a_1, a_2]
      · refine add [("A", a2, a3), ("", a2, a3)] (two _ (by simp) (by unfold isG; rw [A_1, A_2]; rfl) _ _) (by rw [l3] at hx; simp only [List.length_cons, List.length_nil]; omega) (run _ ?_)
        unfold L_law_block_cells_1
        generalize ls.flatten.map cD = R at *
        simp [e1, e2, e3, l0, l1, l2, l4, D.frz, D.isF, isFL, D.pl, plL, D.dep, depL, eqv, eqvL, atP_0, atP_1, atP_2, atP_3, isFL_app, cD, hx, A_1, A_2]
    · subst q
      by_cases hx : (n : Int) < ((ls.flatten.map cD).length : Int) + 2
      · refine add [("a", a2, a3)] (one _ (by simp) (by unfold isG; rw [a_1, a_2]; rfl) _ _) hfit (run _ ?_)
        unfold L_law_block_cells_1
        generalize ls.flatten.map cD = R at *
        simp [e1, e2, e3, l0, l1, l2, l4, D.frz, D.isF, isFL, D.pl, plL, D.dep, depL, eqv, eqvL, atP_0, atP_1, atP_2, atP_3, isFL_app, cD, hx, B_1, B_2, a_1, a_2]
      · refine add [("B", a2, a3), ("", a2, a3)] (two _ (by simp) (by unfold isG; rw [B_1, B_2]; rfl) _ _) (by rw [l3] at hx; simp only [List.length_cons, List.length_nil]; omega) (run _ ?_)
        unfold L_law_block_cells_1
        generalize ls.flatten.map cD = R at *
        simp [e1, e2, e3, l0, l1, l2, l4, D.frz, D.isF, isFL, D.pl, plL, D.dep, depL, eqv, eqvL, atP_0, atP_1, atP_2, atP_3, isFL_app, cD, hx, B_1, B_2]
  · refine ⟨B, ls, h, hl, hlen, by omega, ?_⟩
    have l2 : ¬ ((ls.flatten.map cD).length : Int) < (n : Int) := by rw [List.length_map]; omega
    unfold blS L_law_block_cells_1
    generalize ls.flatten.map cD = R at *
    simp [l2, D.isF, isFL, D.pl, plL, D.dep, depL, eqv, eqvL, atP_0, atP_1, atP_2, atP_3, isFL_app]
theorem cells_ok (B : Bag) (h : B.ok) (n : Nat) (hn : n ≤ 1000) : ∃ (ls : LB) (B' : Bag), f_law_block_cells [B.d, .int n] = some (.lst true (ls.flatten.map cD), [B'.d]) ∧ B'.ok ∧ LbOk n ls := by
  obtain ⟨σ', e1, B', ls, ok', hl, h1, h2, rfl⟩ := forP_inv (t := .nm 3) (dead := [3, 4, 5, 6]) (body := L_law_block_cells_1) (fun k : Nat => D.int (k : Int)) (fun k σ => ∃ B ls, B.ok ∧ (∀ l ∈ ls, LetOk l) ∧ ls.flatten.length ≤ n ∧ min k n ≤ ls.flatten.length ∧ σ = blS B n ls) (List.range n) 0 (blS B n [])
    (fun j x σ hj hi => by
      obtain ⟨rfl, hlt⟩ := range_get hj
      rw [Nat.zero_add] at hi ⊢
      obtain ⟨B, ls, ok, hl, h1, h2, rfl⟩ := hi
      obtain ⟨B', ls', ok', hl', h1', h2', e⟩ := blk_turn B ok n hn ls hl h1 x
      exact ⟨_, e, B', ls', ok', hl', h1', by omega, rfl⟩)
    ⟨B, [], h, fun l hl => by simp at hl, by simp, by simp, rfl⟩
  rw [List.length_range, Nat.zero_add] at h2
  refine ⟨ls, B', ?_, ok', hl, by omega⟩
  have hs := itR1_nat (i := (n : Int)) n rfl (by omega)
  have e3 : blS B n [] = [.io B.d, .vw (.int n), .ow (.lst true []), .no, .no, .no, .no] := rfl
  rw [e3] at e1
  unfold blS at e1
  unfold f_law_block_cells b_law_block_cells
  simp [-itR1, e1, hs, D.isF, isFL, D.pl, plL, D.dep, depL, eqv, eqvL, atP_0, atP_1, atP_2, atP_3, isFL_app]
def shD (sh : List (Nat × Nat)) : List D := sh.map fun p => .tup [.int p.1, .int p.2]
theorem shD_isFL (sh : List (Nat × Nat)) : isFL (shD sh) = true := isFL_map (fun _ => rfl) sh
/-- what a shape takes -/
def shW (sh : List (Nat × Nat)) : Nat := (sh.map fun p => p.1 + p.2).sum
structure ShOk (sh : List (Nat × Nat)) : Prop where
  one : ∀ p ∈ sh, 1 ≤ p.1 ∧ p.1 ≤ 8 ∧ 4 ≤ p.2 ∧ p.2 ≤ 7
  len : sh.length ≤ 4
def shS (B : Bag) (sh : List (Nat × Nat)) : PS := [.io B.d, .ow (.lst true (shD sh)), .ow (.int 40), .no, .no, .no]
theorem intsD_map2 (ns : List Int) : intsD (ns.map .int) = some ns := by
  induction ns with
  | nil => rfl
  | cons a r ih => simp [intsD, ih]
theorem sh_comp (σ : PS) (h5 : ∃ s, σ[5]? = some s) (sh : List (Nat × Nat)) (hl : sh.length ≤ 1000) (e5 : σ.set 5 .no = σ) : compP (.nm 5) [5] (fun ps => some (true, ps)) Y_law_shape_1 (shD sh) [] σ = some ((sh.map fun p => D.int ((p.1 : Int) + p.2)), σ) := by
  unfold shD
  refine compP_map (fun p : Nat × Nat => D.tup [.int p.1, .int p.2]) (fun p => D.int ((p.1 : Int) + p.2)) sh (fun p hp => ?_) (by show _ ≤ 1000000; omega)
  obtain ⟨s, hs⟩ := h5
  have hlt := (List.getElem?_eq_some_iff.mp hs).1
  unfold Y_law_shape_1
  simp [e5, hlt, intsD, D.isF]
theorem shape_turn (B : Bag) (h : B.ok) (sh : List (Nat × Nat)) (hs : ∀ p ∈ sh, 1 ≤ p.1 ∧ p.1 ≤ 8 ∧ 4 ≤ p.2 ∧ p.2 ≤ 7) (hw : shW sh ≤ 40) (hl : sh.length ≤ 100) (k : Int) :
    ∃ B' sh', B'.ok ∧ (∀ p ∈ sh', 1 ≤ p.1 ∧ p.1 ≤ 8 ∧ 4 ≤ p.2 ∧ p.2 ≤ 7) ∧ shW sh' ≤ 40 ∧ sh'.length ≤ sh.length + 1 ∧ turn (.nm 3) [3, 4, 5] L_law_shape_1 (.int k) (shS B sh) = some (.nx, shS B' sh') := by
  obtain ⟨v, B1, e1, ok1, v0, v1⟩ := take_ok B h 8 (by decide) (by decide)
  obtain ⟨w, B2, e2, ok2, w0, w1⟩ := take_ok B1 ok1 4 (by decide) (by decide)
  obtain ⟨m, rfl⟩ := Int.eq_ofNat_of_zero_le v0
  obtain ⟨g, rfl⟩ := Int.eq_ofNat_of_zero_le w0
  have ec := sh_comp [.io B1.d, .no, .ow (.int 40), .no, .ow (.int (1 + (m : Int))), .no] ⟨_, rfl⟩ sh (by omega) rfl
  have ei : intsD (sh.map fun p => D.int ((p.1 : Int) + p.2)) = some (sh.map fun p => ((p.1 : Int) + p.2)) := by
    have := intsD_map2 (sh.map fun p => ((p.1 : Int) + (p.2 : Int)))
    rw [List.map_map] at this
    exact this
  have es : (sh.map fun p => ((p.1 : Int) + (p.2 : Int))).sum = (shW sh : Int) := by
    clear ec ei hs hw hl
    unfold shW
    induction sh with
    | nil => rfl
    | cons p r ih => simp only [List.map_cons, List.sum_cons, ih]; omega
  have hf := shD_isFL sh
  have hl2 : (shD sh).length < cap := by unfold shD; rw [List.length_map]; show _ < 1000000; omega
  by_cases hc : (shW sh : Int) + (1 + (m : Int)) + 8 ≤ 40
  · refine ⟨B2, sh ++ [(1 + m, 4 + g)], ok2, fun p hp => ?_, ?_, by simp, ?_⟩
    · rcases List.mem_append.mp hp with q | q
      · exact hs p q
      · rw [List.mem_singleton.mp q]; simp only; omega
    · unfold shW at *
      simp only [List.map_append, List.sum_append, List.map_cons, List.map_nil, List.sum_cons, List.sum_nil]
      omega
    · have e9 : shD (sh ++ [(1 + m, 4 + g)]) = shD sh ++ [.tup [.int (1 + (m : Int)), .int (4 + (g : Int))]] := by unfold shD; rw [List.map_append]; simp
      unfold shS
      rw [e9]
      unfold L_law_shape_1
      unfold C_law_shape_1
      generalize shD sh = R at *
      simp [e1, e2, ec, ei, es, hf, hl2, hc, D.isF, isFL, D.pl, plL, D.dep, depL, eqv, eqvL, atP_0, atP_1, atP_2, atP_3, isFL_app]
  · refine ⟨B1, sh, ok1, hs, hw, by omega, ?_⟩
    unfold shS
    unfold L_law_shape_1
    unfold C_law_shape_1
    generalize shD sh = R at *
    simp [e1, ec, ei, es, hf, hl2, hc, D.isF, isFL, D.pl, plL, D.dep, depL, eqv, eqvL, atP_0, atP_1, atP_2, atP_3, isFL_app]
theorem shape_ok (B : Bag) (h : B.ok) : ∃ (sh : List (Nat × Nat)) (B' : Bag), f_law_shape [B.d] = some (.lst true (shD sh), [B'.d]) ∧ B'.ok ∧ ShOk sh ∧ shW sh ≤ 40 := by
  obtain ⟨v, B0, e0, ok0, v0, v1⟩ := take_ok B h 4 (by decide) (by decide)
  obtain ⟨n, rfl⟩ := Int.eq_ofNat_of_zero_le v0
  obtain ⟨σ', e1, B', sh, ok', hs, hw, hl, rfl⟩ := forP_inv (t := .nm 3) (dead := [3, 4, 5]) (body := L_law_shape_1) (fun k : Nat => D.int (k : Int)) (fun k σ => ∃ B sh, B.ok ∧ (∀ p ∈ sh, 1 ≤ p.1 ∧ p.1 ≤ 8 ∧ 4 ≤ p.2 ∧ p.2 ≤ 7) ∧ shW sh ≤ 40 ∧ sh.length ≤ k ∧ σ = shS B sh) (List.range (1 + n)) 0 (shS B0 [])
    (fun j x σ hj hi => by
      obtain ⟨rfl, hlt⟩ := range_get hj
      rw [Nat.zero_add] at hi ⊢
      obtain ⟨B, sh, ok, hs, hw, hl, rfl⟩ := hi
      obtain ⟨B', sh', ok', hs', hw', hl', e⟩ := shape_turn B ok sh hs hw (by omega) x
      exact ⟨_, e, B', sh', ok', hs', hw', by omega, rfl⟩)
    ⟨B0, [], ok0, fun l hl => by simp at hl, by simp [shW], by simp, rfl⟩
  rw [List.length_range, Nat.zero_add] at hl
  refine ⟨sh, B', ?_, ok', ⟨hs, by omega⟩, hw⟩
  have hr := itR1_nat (i := 1 + (n : Int)) (1 + n) (by omega) (by omega)
  have e3 : shS B0 [] = [.io B0.d, .ow (.lst true []), .ow (.int 40), .no, .no, .no] := rfl
  rw [e3] at e1
  unfold shS at e1
  unfold f_law_shape b_law_shape
  simp [-itR1, e0, e1, hr, D.isF, isFL, D.pl, plL, D.dep, depL, eqv, eqvL, atP_0, atP_1, atP_2, atP_3, isFL_app]
end Pv

/-! k80N4: rows of blocks and walls. -/
namespace Pv
open PySem
/-- runs of letters of these lengths -/
def LbsOk : List Nat → List LB → Prop
  | [], [] => True
  | n :: ns, b :: bs => LbOk n b ∧ LbsOk ns bs
  | _, _ => False
theorem lbs_snoc : ∀ {ns : List Nat} {bs : List LB} {n : Nat} {b : LB}, LbsOk ns bs → LbOk n b → LbsOk (ns ++ [n]) (bs ++ [b])
  | [], [], _, _, _, h => ⟨h, trivial⟩
  | [], _ :: _, _, _, h, _ => h.elim
  | _ :: _, [], _, _, h, _ => h.elim
  | n :: ns, b :: bs, _, _, ⟨h1, h2⟩, h => ⟨h1, lbs_snoc h2 h⟩
theorem lbs_len : ∀ {ns : List Nat} {bs : List LB}, LbsOk ns bs → bs.length = ns.length
  | [], [], _ => rfl
  | [], _ :: _, h => h.elim
  | _ :: _, [], h => h.elim
  | n :: ns, b :: bs, ⟨h1, h2⟩ => by rw [List.length_cons, List.length_cons, lbs_len h2]
abbrev bsD (bs : List LB) : List D := bs.map fun b => rowD b.flatten
theorem bsD_isFL (bs : List LB) : isFL (bsD bs) = true := isFL_map (fun b => by simp only [D.isF, row_isFL]; rfl) bs
/-- a comprehension of block cells: which of the pair is asked -/
theorem cells_comp (sel : Nat × Nat → Nat) (σ : Bag → PS) (elt : GE) (t : Tg) (own : List Nat) (sh : List (Nat × Nat)) (hs : ∀ p ∈ sh, sel p ≤ 1000)
    (hel : ∀ (B : Bag), B.ok → ∀ p ∈ sh, ∀ (x : D) (B' : Bag), f_law_block_cells [B.d, .int (sel p)] = some (x, [B'.d]) → x.frz.isF = true → cturn t own (fun ps => some (true, ps)) elt (.tup [.int p.1, .int p.2]) (σ B) = some (some x.frz, σ B'))
    (B : Bag) (h : B.ok) (hl : sh.length ≤ 1000) : ∃ bs B', B'.ok ∧ LbsOk (sh.map sel) bs ∧ compP t own (fun ps => some (true, ps)) elt (shD sh) [] (σ B) = some (bsD bs, σ B') := by
  obtain ⟨acc, σ', e, B', bs, ok', hb, ha, rfl⟩ := compP_inv (t := t) (own := own) (ifs := fun ps => some (true, ps)) (elt := elt) (fun p : Nat × Nat => D.tup [.int p.1, .int p.2]) (fun k acc τ => ∃ B bs, B.ok ∧ LbsOk ((sh.map sel).take k) bs ∧ acc = bsD bs ∧ τ = σ B) sh 0 [] (σ B)
    (fun j x acc τ hj hi => by
      rw [Nat.zero_add] at hi ⊢
      obtain ⟨B, bs, ok, hb, rfl, rfl⟩ := hi
      have hx := List.mem_of_getElem? hj
      have hjl := (List.getElem?_eq_some_iff.mp hj).1
      obtain ⟨ls, B', e, ok', hls⟩ := cells_ok B ok (sel x) (hs x hx)
      have hfz : D.frz (.lst true (ls.flatten.map cD)) = rowD ls.flatten := frz_rows _ (row_isFL _) _
      have hh := hel B ok x hx _ B' e (by rw [hfz]; simp only [D.isF, row_isFL]; rfl)
      have hlb := lbs_len hb
      refine ⟨by rw [List.length_map, hlb, List.length_take]; show _ < 1000000; omega, _, _, hh, B', bs ++ [ls], ok', ?_, ?_, rfl⟩
      · have : (sh.map sel).take (j + 1) = (sh.map sel).take j ++ [sel x] := by rw [List.take_add_one, List.getElem?_map, hj]; rfl
        rw [this]
        exact lbs_snoc hb hls
      · rw [hfz]; simp [bsD])
    ⟨B, [], h, trivial, rfl, rfl⟩
  rw [Nat.zero_add, List.take_of_length_le (by rw [List.length_map]; exact Nat.le_refl _)] at hb
  exact ⟨bs, B', ok', hb, by rw [← ha]; exact e⟩
/-- a row: blocks and walls -/
abbrev RowT := List (LB × LB)
def rlets (ps : RowT) : LB := (ps.map fun p => p.1 ++ p.2).flatten
def rcells (ps : RowT) : List Cell := (rlets ps).flatten
structure RowOk (sh : List (Nat × Nat)) (ps : RowT) : Prop where
  bl : LbsOk (sh.map (·.1)) (ps.map (·.1))
  wl : LbsOk (sh.map (·.2)) (ps.map (·.2))
def rowTD (ps : RowT) : D := .tup [rowD (rcells ps), .lst false (bsD (ps.map (·.1)))]
theorem rowTD_isF (ps : RowT) : (rowTD ps).isF = true := by
  have h := bsD_isFL (ps.map (·.1))
  simp only [rowTD, D.isF, isFL, row_isFL, h]
  rfl
def roS (B : Bag) (S W Bl : D) (r : List Cell) : PS := [.io B.d, .vw S, .vw W, .ow Bl, .ow (rowD r), .no, .no, .no, .no]
theorem zip_bw : ∀ (ps : RowT), zipD (bsD (ps.map (·.1))) (bsD (ps.map (·.2))) = ps.map fun p => D.tup [rowD p.1.flatten, rowD p.2.flatten]
  | [] => rfl
  | p :: ps => by
    have := zip_bw ps
    simp only [List.map_cons, bsD] at this ⊢
    simp only [zipD, this]
theorem ro_turn (B : Bag) (S W Bl : D) (r : List Cell) (p : LB × LB) (hl : r.length + p.1.flatten.length + p.2.flatten.length < 10000) :
    turn (.tp [.nm 7, .nm 8]) [7, 8] L_law_rows_of_1 (.tup [rowD p.1.flatten, rowD p.2.flatten]) (roS B S W Bl r) = some (.nx, roS B S W Bl (r ++ (p.1 ++ p.2).flatten)) := by
  have e : (r ++ (p.1 ++ p.2).flatten).map cD = r.map cD ++ (p.1.flatten.map cD ++ p.2.flatten.map cD) := by simp
  have l1 : (r.map cD).length + (p.1.flatten.map cD).length + (p.2.flatten.map cD).length < cap := by simp only [List.length_map]; show _ < 1000000; omega
  have l2 : (r.map cD).length + (p.1.flatten.map cD).length < cap := by omega
  have f1 := row_isFL r
  have f2 := row_isFL p.1.flatten
  have f3 := row_isFL p.2.flatten
  unfold roS
  rw [rowD, rowD, rowD, rowD, e]
  unfold L_law_rows_of_1
  generalize r.map cD = R at *
  generalize p.1.flatten.map cD = X at *
  generalize p.2.flatten.map cD = Y at *
  simp [D.isF, isFL, D.pl, plL, D.dep, depL, eqv, eqvL, atP_0, atP_1, atP_2, atP_3, isFL_app, l1, l2, f1, f2, f3]
theorem ro_loop (B : Bag) (S W Bl : D) : ∀ (ps : RowT) (r : List Cell), r.length + (rcells ps).length < 10000 →
    forP (.tp [.nm 7, .nm 8]) [7, 8] L_law_rows_of_1 (ps.map fun p => D.tup [rowD p.1.flatten, rowD p.2.flatten]) (roS B S W Bl r) = some (.nx, roS B S W Bl (r ++ rcells ps))
  | [], r, _ => by simp [rcells, rlets, forP]
  | p :: ps, r, h => by
    have e : rcells (p :: ps) = (p.1 ++ p.2).flatten ++ rcells ps := by simp [rcells, rlets]
    rw [e, List.length_append] at h
    have e2 : (p.1 ++ p.2).flatten.length = p.1.flatten.length + p.2.flatten.length := by rw [List.flatten_append, List.length_append]
    rw [List.map_cons, forP_nx (ro_turn B S W Bl r p (by omega)), ro_loop B S W Bl ps _ (by rw [List.length_append]; omega), e, List.append_assoc]
theorem rcells_len : ∀ {sh : List (Nat × Nat)} {ps : RowT}, RowOk sh ps → (rcells ps).length = shW sh
  | [], [], _ => rfl
  | [], _ :: _, ⟨h, _⟩ => h.elim
  | _ :: _, [], ⟨h, _⟩ => h.elim
  | s :: sh, p :: ps, ⟨⟨h1, h2⟩, h3, h4⟩ => by
    have ih := rcells_len (sh := sh) (ps := ps) ⟨h2, h4⟩
    have e : rcells (p :: ps) = (p.1 ++ p.2).flatten ++ rcells ps := by simp [rcells, rlets]
    have e2 : (p.1 ++ p.2).flatten.length = p.1.flatten.length + p.2.flatten.length := by rw [List.flatten_append, List.length_append]
    rw [e, List.length_append, ih, e2, h1.len, h3.len]
    simp [shW]
theorem zip_fstB {xs ys : List LB} (h : xs.length = ys.length) : (xs.zip ys).map (·.1) = xs := by rw [List.map_fst_zip]; omega
theorem zip_sndB {xs ys : List LB} (h : xs.length = ys.length) : (xs.zip ys).map (·.2) = ys := by rw [List.map_snd_zip]; omega
theorem rows_of_ok (B : Bag) (h : B.ok) (sh : List (Nat × Nat)) (hs : ShOk sh) (hw : shW sh ≤ 40) (ws : List LB) (hws : LbsOk (sh.map (·.2)) ws) :
    ∃ (ps : RowT) (B' : Bag), f_law_rows_of [B.d, .lst false (shD sh), .lst false (bsD ws)] = some (rowTD ps, [B'.d]) ∧ B'.ok ∧ RowOk sh ps ∧ ps.map (·.2) = ws := by
  have hsl := hs.len
  obtain ⟨bs, B', ok', hb, e1⟩ := cells_comp (·.1) (fun B => [.io B.d, .vw (.lst false (shD sh)), .vw (.lst false (bsD ws)), .no, .no, .no, .no, .no, .no]) Y_law_rows_of_1 (.tp [.nm 5, .nm 6]) [5, 6] sh (fun p hp => by have := hs.one p hp; omega)
    (fun B ok p hp x B' e hf => by
      unfold Y_law_rows_of_1
      simp [e, hf]) B h (by omega)
  have hbl := lbs_len hb
  have hwl := lbs_len hws
  rw [List.length_map] at hbl hwl
  have hlen : bs.length = ws.length := by omega
  have ok : RowOk sh (bs.zip ws) := ⟨by rw [zip_fstB hlen]; exact hb, by rw [zip_sndB hlen]; exact hws⟩
  have hr := rcells_len ok
  refine ⟨bs.zip ws, B', ?_, ok', ok, zip_sndB hlen⟩
  have e2 := ro_loop B' (.lst false (shD sh)) (.lst false (bsD ws)) (.lst false (bsD bs)) (bs.zip ws) [] (by rw [hr]; simp; omega)
  rw [← zip_bw, zip_fstB hlen, zip_sndB hlen] at e2
  have f1 := shD_isFL sh
  have f2 := bsD_isFL bs
  have f3 := bsD_isFL ws
  have f4 := row_isFL (rcells (bs.zip ws))
  unfold roS at e2
  unfold rowTD
  rw [zip_fstB hlen]
  unfold f_law_rows_of b_law_rows_of C_law_rows_of_1
  simp only [rowD] at e2 ⊢
  simp at e2
  generalize bsD bs = X at *
  generalize bsD ws = Y at *
  generalize shD sh = Z at *
  generalize (rcells (bs.zip ws)).map cD = R at *
  simp [D.isF, isFL, D.pl, plL, D.dep, depL, eqv, eqvL, atP_0, atP_1, atP_2, atP_3, isFL_app, e1, e2, f1, f2, f3, f4]
end Pv

/-! k80N5: pictures of such rows. -/
namespace Pv
open PySem
abbrev PicT := List RowT
structure PicOk (sh : List (Nat × Nat)) (W : List (List LB)) (P : PicT) : Prop where
  len : P.length = W.length
  row : ∀ (r : Nat) (ps : RowT) (ws : List LB), P[r]? = some ps → W[r]? = some ws → RowOk sh ps ∧ ps.map (·.2) = ws
structure WallOk (sh : List (Nat × Nat)) (W : List (List LB)) : Prop where
  wl : ∀ ws ∈ W, LbsOk (sh.map (·.2)) ws
  h1 : 1 ≤ W.length
  h4 : W.length ≤ 4
def rowsTD (P : PicT) : List D := P.map fun ps => rowD (rcells ps)
def blksTD (P : PicT) : List D := P.map fun ps => .lst false (bsD (ps.map (·.1)))
def picTD (P : PicT) : D := .tup [.lst false (rowsTD P), .lst false (blksTD P)]
theorem rowsTD_isF (P : PicT) : isFL (rowsTD P) = true := isFL_map (fun ps => by simp only [D.isF, row_isFL]; rfl) P
theorem blksTD_isF (P : PicT) : isFL (blksTD P) = true := isFL_map (fun ps => by have := bsD_isFL (ps.map (·.1)); simp only [D.isF, this]; rfl) P
theorem picTD_isF (P : PicT) : (picTD P).isF = true := by simp only [picTD, D.isF, isFL, rowsTD_isF, blksTD_isF]; rfl
abbrev wsD (W : List (List LB)) : List D := W.map fun ws => .lst false (bsD ws)
theorem wsD_isFL (W : List (List LB)) : isFL (wsD W) = true := isFL_map (fun ws => by have := bsD_isFL ws; simp only [D.isF, this]; rfl) W
/-- the walls -/
theorem walls_ok (B : Bag) (h : B.ok) (sh : List (Nat × Nat)) (hs : ShOk sh) (H : Nat) (hH : 1 ≤ H ∧ H ≤ 4) :
    ∃ (W : List (List LB)) (B' : Bag), B'.ok ∧ WallOk sh W ∧ compP (.nm 7) [7] (fun ps => some (true, ps)) Y_law_pictures_2 ((List.range H).map fun (k : Nat) => D.int (k : Int)) [] [.io B.d, .vw (.lst false (shD sh)), .ow (.int H), .ow (.lst true []), .no, .no, .no, .no, .no, .no, .no, .no] = some (wsD W, [.io B'.d, .vw (.lst false (shD sh)), .ow (.int H), .ow (.lst true []), .no, .no, .no, .no, .no, .no, .no, .no]) := by
  have hsl := hs.len
  obtain ⟨acc, σ', e, B', W, ok', hw, hl, ha, rfl⟩ := compP_inv (t := .nm 7) (own := [7]) (ifs := fun ps => some (true, ps)) (elt := Y_law_pictures_2) (fun k : Nat => D.int (k : Int)) (fun k acc τ => ∃ (B : Bag) (W : List (List LB)), B.ok ∧ (∀ ws ∈ W, LbsOk (sh.map (·.2)) ws) ∧ W.length = k ∧ acc = wsD W ∧ τ = [.io B.d, .vw (.lst false (shD sh)), .ow (.int H), .ow (.lst true []), .no, .no, .no, .no, .no, .no, .no, .no]) (List.range H) 0 [] [.io B.d, .vw (.lst false (shD sh)), .ow (.int H), .ow (.lst true []), .no, .no, .no, .no, .no, .no, .no, .no]
    (fun j x acc τ hj hi => by
      obtain ⟨rfl, hlt⟩ := range_get hj
      rw [Nat.zero_add] at hi ⊢
      obtain ⟨B, W, ok, hw, hl, rfl, rfl⟩ := hi
      obtain ⟨bs, B', ok', hb, e1⟩ := cells_comp (·.2) (fun B => [.io B.d, .vw (.lst false (shD sh)), .ow (.int H), .ow (.lst true []), .no, .no, .no, .ow (.int x), .no, .no, .no, .no]) Y_law_pictures_1 (.tp [.nm 5, .nm 6]) [5, 6] sh (fun p hp => by have := hs.one p hp; omega)
        (fun B ok p hp y B' e hf => by
          unfold Y_law_pictures_1
          simp [e, hf]) B ok (by omega)
      refine ⟨by rw [List.length_map]; show _ < 1000000; omega, .lst false (bsD bs), _, ?_, B', W ++ [bs], ok', fun ws hws => ?_, by simp [hl], by simp [wsD], rfl⟩
      · have f1 := shD_isFL sh
        have f2 := bsD_isFL bs
        unfold Y_law_pictures_2 C_law_pictures_1
        generalize bsD bs = X at *
        generalize shD sh = Z at *
        simp [D.isF, isFL, D.pl, plL, D.dep, depL, eqv, eqvL, atP_0, atP_1, atP_2, atP_3, isFL_app, e1, f1, f2]
      · rcases List.mem_append.mp hws with q | q
        · exact hw ws q
        · rw [List.mem_singleton.mp q]; exact hb)
    ⟨B, [], h, fun ws hws => by simp at hws, rfl, rfl, rfl⟩
  rw [List.length_range, Nat.zero_add] at hl
  exact ⟨W, B', ok', ⟨hw, by omega, by omega⟩, by rw [← ha]; exact e⟩
def pcS (B : Bag) (sh : List (Nat × Nat)) (W : List (List LB)) (Ps : List PicT) : PS := [.io B.d, .vw (.lst false (shD sh)), .no, .ow (.lst true (Ps.map picTD)), .ow (.lst false (wsD W)), .no, .no, .no, .no, .no, .no, .no]
def pcS8 (B : Bag) (sh : List (Nat × Nat)) (W : List (List LB)) (Ps : List PicT) (k : Int) : PS := [.io B.d, .vw (.lst false (shD sh)), .no, .ow (.lst true (Ps.map picTD)), .ow (.lst false (wsD W)), .no, .no, .no, .ow (.int k), .no, .no, .no]
theorem pics_isFL (Ps : List PicT) : isFL (Ps.map picTD) = true := isFL_map picTD_isF Ps
theorem rows_comp (B : Bag) (h : B.ok) (sh : List (Nat × Nat)) (hs : ShOk sh) (hw : shW sh ≤ 40) (W : List (List LB)) (hW : WallOk sh W) (Ps : List PicT) (k : Int) :
    ∃ (P : PicT) (B' : Bag), B'.ok ∧ PicOk sh W P ∧ compP (.nm 10) [10] (fun ps => some (true, ps)) Y_law_pictures_3 (wsD W) [] (pcS8 B sh W Ps k) = some (P.map rowTD, pcS8 B' sh W Ps k) := by
  have h4 := hW.h4
  obtain ⟨acc, σ', e, B', P, ok', hl, hp, ha, rfl⟩ := compP_inv (t := .nm 10) (own := [10]) (ifs := fun ps => some (true, ps)) (elt := Y_law_pictures_3) (fun ws : List LB => D.lst false (bsD ws)) (fun j acc τ => ∃ (B : Bag) (P : PicT), B.ok ∧ P.length = j ∧ (∀ (r : Nat) (ps : RowT) (ws : List LB), P[r]? = some ps → W[r]? = some ws → RowOk sh ps ∧ ps.map (·.2) = ws) ∧ acc = P.map rowTD ∧ τ = pcS8 B sh W Ps k) W 0 [] (pcS8 B sh W Ps k)
    (fun j x acc τ hj hi => by
      rw [Nat.zero_add] at hi ⊢
      obtain ⟨B, P, ok, hl, hp, rfl, rfl⟩ := hi
      have hjl := (List.getElem?_eq_some_iff.mp hj).1
      obtain ⟨ps, B', e, ok', h1, h2⟩ := rows_of_ok B ok sh hs hw x (hW.wl x (List.mem_of_getElem? hj))
      have ff := rowTD_isF ps
      have fz : (rowTD ps).frz = rowTD ps := frz_id _ ff
      refine ⟨by rw [List.length_map]; show _ < 1000000; omega, rowTD ps, _, ?_, B', P ++ [ps], ok', by simp [hl], fun r ps' ws h3 h4 => ?_, by simp, rfl⟩
      · unfold pcS8 Y_law_pictures_3
        simp [D.isF, isFL, D.pl, plL, D.dep, depL, eqv, eqvL, atP_0, atP_1, atP_2, atP_3, isFL_app, e, fz, ff]
      · rcases Nat.lt_trichotomy r P.length with q | q | q
        · rw [List.getElem?_append_left q] at h3
          exact hp r ps' ws h3 h4
        · subst q
          rw [hl, hj] at h4
          simp at h3
          cases h3
          cases h4
          exact ⟨h1, h2⟩
        · rw [List.getElem?_eq_none (by simp; omega)] at h3
          cases h3)
    ⟨B, [], h, rfl, fun r ps ws h3 => by simp at h3, rfl, rfl⟩
  rw [Nat.zero_add] at hl
  exact ⟨P, B', ok', ⟨hl, hp⟩, by rw [← ha]; exact e⟩
theorem pick_comp (P : PicT) (hP : P.length ≤ 100) (σ : PS) (e7 : σ.set 7 .no = σ) (e11 : σ.set 11 .no = σ) (hl : σ.length = 12) :
    compP (.tp [.nm 7, .nm 11]) [7, 11] (fun ps => some (true, ps)) Y_law_pictures_4 (P.map rowTD) [] σ = some (rowsTD P, σ) ∧ compP (.tp [.nm 7, .nm 11]) [7, 11] (fun ps => some (true, ps)) Y_law_pictures_5 (P.map rowTD) [] σ = some (blksTD P, σ) := by
  constructor
  · refine compP_map rowTD (fun ps => rowD (rcells ps)) P (fun ps hp => ?_) (by show _ ≤ 1000000; omega)
    have f := row_isFL (rcells ps)
    have h11 : ∀ a b, ((σ.set 7 a).set 11 b).set 7 .no = σ.set 11 b := fun a b => by rw [List.set_comm _ _ (by decide), List.set_set, e7]
    unfold Y_law_pictures_4 rowTD
    generalize (rcells ps).map cD = R at *
    simp [D.isF, isFL, D.pl, plL, D.dep, depL, eqv, eqvL, atP_0, atP_1, atP_2, atP_3, isFL_app, hl, f, e7, e11, h11, List.getElem?_set]
  · refine compP_map rowTD (fun ps => .lst false (bsD (ps.map (·.1)))) P (fun ps hp => ?_) (by show _ ≤ 1000000; omega)
    have f := bsD_isFL (ps.map (·.1))
    have h11 : ∀ a b, ((σ.set 7 a).set 11 b).set 7 .no = σ.set 11 b := fun a b => by rw [List.set_comm _ _ (by decide), List.set_set, e7]
    unfold Y_law_pictures_5 rowTD
    generalize bsD (ps.map (·.1)) = R at *
    simp [D.isF, isFL, D.pl, plL, D.dep, depL, eqv, eqvL, atP_0, atP_1, atP_2, atP_3, isFL_app, hl, f, e7, e11, h11, List.getElem?_set]
end Pv

/-! k80N6: the pictures. -/
namespace Pv
open PySem
theorem pic_turn (B : Bag) (h : B.ok) (sh : List (Nat × Nat)) (hs : ShOk sh) (hw : shW sh ≤ 40) (W : List (List LB)) (hW : WallOk sh W) (Ps : List PicT) (hP : ∀ P ∈ Ps, PicOk sh W P) (hl : Ps.length ≤ 10) (k : Nat) (hk : 0 < k → Ps ≠ []) :
    ∃ (P : PicT) (B' : Bag), B'.ok ∧ PicOk sh W P ∧ turn (.nm 8) [7, 8, 9, 10, 11] L_law_pictures_1 (.int k) (pcS B sh W Ps) = some (.nx, pcS B' sh W (Ps ++ [P])) := by
  obtain ⟨P, B1, ok1, hp, e1⟩ := rows_comp B h sh hs hw W hW Ps k
  have h1 := hW.h1
  have h4 := hW.h4
  have hpl := hp.len
  have fW := wsD_isFL W
  have fP := pics_isFL Ps
  have l1 : (Ps.map picTD).length < cap := by rw [List.length_map]; show _ < 1000000; omega
  have pk : ∀ (B2 : Bag) (Q : PicT), Q.length ≤ 100 →
      compP (.tp [.nm 7, .nm 11]) [7, 11] (fun ps => some (true, ps)) Y_law_pictures_4 (Q.map rowTD) [] [.io B2.d, .vw (.lst false (shD sh)), .no, .ow (.lst true (Ps.map picTD)), .ow (.lst false (wsD W)), .no, .no, .no, .no, .ow (.lst false (Q.map rowTD)), .no, .no] = some (rowsTD Q, [.io B2.d, .vw (.lst false (shD sh)), .no, .ow (.lst true (Ps.map picTD)), .ow (.lst false (wsD W)), .no, .no, .no, .no, .ow (.lst false (Q.map rowTD)), .no, .no]) ∧
      compP (.tp [.nm 7, .nm 11]) [7, 11] (fun ps => some (true, ps)) Y_law_pictures_5 (Q.map rowTD) [] [.io B2.d, .vw (.lst false (shD sh)), .no, .ow (.lst true (Ps.map picTD)), .ow (.lst false (wsD W)), .no, .no, .no, .no, .ow (.lst false (Q.map rowTD)), .no, .no] = some (blksTD Q, [.io B2.d, .vw (.lst false (shD sh)), .no, .ow (.lst true (Ps.map picTD)), .ow (.lst false (wsD W)), .no, .no, .no, .no, .ow (.lst false (Q.map rowTD)), .no, .no]) :=
    fun B2 Q hq => pick_comp Q hq _ rfl rfl rfl
  have fR : ∀ Q : PicT, isFL (Q.map rowTD) = true := fun Q => isFL_map rowTD_isF Q
  have fz : ∀ Q : PicT, frzL (Q.map rowTD) = Q.map rowTD := fun Q => frzL_id _ (fR Q)
  have fT : ∀ Q : PicT, isFL (rowsTD Q) = true ∧ isFL (blksTD Q) = true := fun Q => ⟨rowsTD_isF Q, blksTD_isF Q⟩
  unfold pcS8 at e1
  by_cases hk0 : k = 0
  · subst hk0
    refine ⟨P, B1, ok1, hp, ?_⟩
    have p1 := pk B1 P (by omega)
    have f1 := fR P
    have f2 := fz P
    have f3 := fT P
    have e9 : (Ps ++ [P]).map picTD = Ps.map picTD ++ [.tup [.lst false (rowsTD P), .lst false (blksTD P)]] := by rw [List.map_append]; rfl
    unfold pcS
    rw [e9]
    unfold L_law_pictures_1 C_law_pictures_3 C_law_pictures_4 C_law_pictures_5
    generalize P.map rowTD = R at *
    generalize rowsTD P = R1 at *
    generalize blksTD P = R2 at *
    generalize Ps.map picTD = R3 at *
    generalize wsD W = R4 at *
    generalize shD sh = R5 at *
    simp at e1 p1
    simp [D.isF, isFL, D.pl, plL, D.dep, depL, eqv, eqvL, atP_0, atP_1, atP_2, atP_3, isFL_app, e1, p1, f1, f2, f3, fW, fP, l1, D.frz]
  · obtain ⟨v, B2, e2, ok2, v0, v1⟩ := take_ok B1 ok1 3 (by decide) (by decide)
    have hkp : 0 < k := by omega
    by_cases hv : v = 0
    · subst hv
      obtain ⟨P0, Pr, rfl⟩ : ∃ P0 Pr, Ps = P0 :: Pr := by
        cases Ps with
        | nil => exact absurd rfl (hk (by omega))
        | cons a b => exact ⟨a, b, rfl⟩
      have hp0 := hP P0 List.mem_cons_self
      have hp0l := hp0.len
      obtain ⟨q0, Q0, rfl⟩ : ∃ q0 Q0, P0 = q0 :: Q0 := by
        cases P0 with
        | nil => simp at hp0l; omega
        | cons a b => exact ⟨a, b, rfl⟩
      obtain ⟨p0, Pt, rfl⟩ : ∃ p0 Pt, P = p0 :: Pt := by
        cases P with
        | nil => simp at hpl; omega
        | cons a b => exact ⟨a, b, rfl⟩
      have hq : PicOk sh W (q0 :: Pt) := ⟨by rw [← hpl]; rfl, fun r ps ws h1 h2 => by
        cases r with
        | zero => exact hp0.row 0 ps ws (by simpa using h1) h2
        | succ r => exact hp.row (r + 1) ps ws (by simpa using h1) h2⟩
      refine ⟨q0 :: Pt, B2, ok2, hq, ?_⟩
      have p1 := pk B2 (q0 :: Pt) (by rw [hq.len]; omega)
      have f1 := fR (q0 :: Pt)
      have f2 := fz (q0 :: Pt)
      have f3 := fT (q0 :: Pt)
      have f4 := fR (p0 :: Pt)
      have f5 := rowTD_isF q0
      have e9 : ((q0 :: Q0) :: Pr ++ [q0 :: Pt]).map picTD = ((q0 :: Q0) :: Pr).map picTD ++ [.tup [.lst false (rowsTD (q0 :: Pt)), .lst false (blksTD (q0 :: Pt))]] := by rw [List.map_append]; rfl
      have i0 : (((q0 :: Q0) :: Pr).map picTD)[0]? = some (.tup [.lst false (rowD (rcells q0) :: rowsTD Q0), .lst false (.lst false (bsD (q0.map (·.1))) :: blksTD Q0)]) := rfl
      have e8 : (p0 :: Pt).map rowTD = rowTD p0 :: Pt.map rowTD := rfl
      have e7 : (q0 :: Pt).map rowTD = rowTD q0 :: Pt.map rowTD := rfl
      have e6 : rowTD q0 = .tup [rowD (rcells q0), .lst false (bsD (q0.map (·.1)))] := rfl
      have ix0 : ∀ n : Nat, ixP (n + 1) 0 = some 0 := fun n => by unfold ixP; rw [if_pos (by decide), if_pos (by omega)]; rfl
      rw [e6] at f5
      unfold pcS
      rw [e9]
      rw [e8] at e1 f4
      rw [e7, e6] at p1 f1 f2
      unfold L_law_pictures_1 C_law_pictures_3 C_law_pictures_4 C_law_pictures_5
      generalize rowTD p0 = P9 at *
      generalize Pt.map rowTD = R at *
      generalize rowsTD (q0 :: Pt) = R1 at *
      generalize blksTD (q0 :: Pt) = R2 at *
      generalize ((q0 :: Q0) :: Pr).map picTD = R3 at *
      generalize wsD W = R4 at *
      generalize shD sh = R5 at *
      generalize bsD (q0.map (·.1)) = R6 at *
      generalize (rcells q0).map cD = R7 at *
      (try simp at e1); (try simp at p1)
      simp [isFL, D.isF] at f1 f4 f5
      simp [frzL, D.frz] at f2
      simp [D.isF, isFL, D.pl, plL, D.dep, depL, eqv, eqvL, atP_0, atP_1, atP_2, atP_3, isFL_app, e1, e2, hkp, i0, ix0, p1, f1, f2, f3, f4, f5, fW, fP, l1, D.frz, frzL]
    · refine ⟨P, B2, ok2, hp, ?_⟩
      have p1 := pk B2 P (by omega)
      have f1 := fR P
      have f2 := fz P
      have f3 := fT P
      have e9 : (Ps ++ [P]).map picTD = Ps.map picTD ++ [.tup [.lst false (rowsTD P), .lst false (blksTD P)]] := by rw [List.map_append]; rfl
      unfold pcS
      rw [e9]
      unfold L_law_pictures_1 C_law_pictures_3 C_law_pictures_4 C_law_pictures_5
      generalize P.map rowTD = R at *
      generalize rowsTD P = R1 at *
      generalize blksTD P = R2 at *
      generalize Ps.map picTD = R3 at *
      generalize wsD W = R4 at *
      generalize shD sh = R5 at *
      (try simp at e1); (try simp at p1)
      simp [D.isF, isFL, D.pl, plL, D.dep, depL, eqv, eqvL, atP_0, atP_1, atP_2, atP_3, isFL_app, e1, e2, hkp, hv, p1, f1, f2, f3, fW, fP, l1, D.frz]
theorem pictures_ok (B : Bag) (h : B.ok) (sh : List (Nat × Nat)) (hs : ShOk sh) (hw : shW sh ≤ 40) :
    ∃ (W : List (List LB)) (Ps : List PicT) (B' : Bag), f_law_pictures [B.d, .lst false (shD sh)] = some (.lst true (Ps.map picTD), [B'.d]) ∧ B'.ok ∧ WallOk sh W ∧ Ps.length = 3 ∧ ∀ P ∈ Ps, PicOk sh W P := by
  obtain ⟨v, B0, e0, ok0, v0, v1⟩ := take_ok B h 4 (by decide) (by decide)
  obtain ⟨n, rfl⟩ := Int.eq_ofNat_of_zero_le v0
  obtain ⟨W, B1, ok1, hW, e1⟩ := walls_ok B0 ok0 sh hs (1 + n) (by omega)
  obtain ⟨σ', e2, B2, Ps, ok2, hp, hl, rfl⟩ := forP_inv (t := .nm 8) (dead := [7, 8, 9, 10, 11]) (body := L_law_pictures_1) (fun k : Nat => D.int (k : Int)) (fun k σ => ∃ (B : Bag) (Ps : List PicT), B.ok ∧ (∀ P ∈ Ps, PicOk sh W P) ∧ Ps.length = k ∧ σ = pcS B sh W Ps) (List.range 3) 0 (pcS B1 sh W [])
    (fun j x σ hj hi => by
      obtain ⟨rfl, hlt⟩ := range_get hj
      rw [Nat.zero_add] at hi ⊢
      obtain ⟨B, Ps, ok, hp, hl, rfl⟩ := hi
      obtain ⟨P, B', ok', hP, e⟩ := pic_turn B ok sh hs hw W hW Ps hp (by omega) x (fun hx z => by rw [z] at hl; simp at hl; omega)
      refine ⟨_, e, B', Ps ++ [P], ok', fun Q hQ => ?_, by simp [hl], rfl⟩
      rcases List.mem_append.mp hQ with q | q
      · exact hp Q q
      · rw [List.mem_singleton.mp q]; exact hP)
    ⟨B1, [], ok1, fun P hP => by simp at hP, rfl, rfl⟩
  rw [List.length_range, Nat.zero_add] at hl
  refine ⟨W, Ps, B2, ?_, ok2, hW, hl, hp⟩
  have hr := itR1_nat (i := 1 + (n : Int)) (1 + n) (by omega) (by omega)
  have hr3 := itR1_nat (i := 3) 3 rfl (by decide)
  have hc : ((1 + n : Nat) : Int) = 1 + (n : Int) := by omega
  rw [hc] at e1
  unfold pcS at e2
  simp only [List.map_nil] at e2
  unfold f_law_pictures b_law_pictures C_law_pictures_2
  generalize shD sh = R5 at *
  generalize wsD W = R4 at *
  simp [-itR1, D.isF, isFL, D.pl, plL, D.dep, depL, eqv, eqvL, atP_0, atP_1, atP_2, atP_3, isFL_app, e0, e1, e2, hr, hr3]
end Pv

/-! k80N7: what a row of blocks costs. -/
namespace Pv
open PySem
/-- two rows of the same shape and walls -/
def R2 : List (Nat × Nat) → RowT → RowT → Prop
  | [], [], [] => True
  | s :: sh, p :: ps, q :: qs => LbOk s.1 p.1 ∧ LbOk s.1 q.1 ∧ LbOk s.2 p.2 ∧ q.2 = p.2 ∧ R2 sh ps qs
  | _, _, _ => False
theorem r2_of : ∀ {sh : List (Nat × Nat)} {ps qs : RowT}, RowOk sh ps → RowOk sh qs → ps.map (·.2) = qs.map (·.2) → R2 sh ps qs
  | [], [], [], _, _, _ => trivial
  | [], [], _ :: _, _, ⟨h, _⟩, _ => h.elim
  | [], _ :: _, _, ⟨h, _⟩, _, _ => h.elim
  | _ :: _, [], _, ⟨h, _⟩, _, _ => h.elim
  | _ :: _, _ :: _, [], _, ⟨h, _⟩, _ => h.elim
  | s :: sh, p :: ps, q :: qs, ⟨⟨a1, a2⟩, a3, a4⟩, ⟨⟨b1, b2⟩, b3, b4⟩, h => by
    simp only [List.map_cons, List.cons.injEq] at h
    exact ⟨a1, b1, a3, h.1.symm, r2_of ⟨a2, a4⟩ ⟨b2, b4⟩ h.2⟩
def cst (z : (LB × LB) × (LB × LB)) : Int := PL (esB z.1.1.flatten z.2.1) 0
def costsR (ps qs : RowT) : List Int := (ps.zip qs).map cst
theorem rlets_cons (p : LB × LB) (ps : RowT) : rlets (p :: ps) = p.1 ++ (p.2 ++ rlets ps) := by simp [rlets]
theorem rcells_cons (p : LB × LB) (ps : RowT) : rcells (p :: ps) = p.1.flatten ++ (p.2.flatten ++ rcells ps) := by simp [rcells, rlets]
theorem es_row {s : Nat × Nat} {sh : List (Nat × Nat)} {p q : LB × LB} {ps qs : RowT} (h : R2 (s :: sh) (p :: ps) (q :: qs)) : esB (rcells (p :: ps)) (rlets (q :: qs)) = esB p.1.flatten q.1 ++ (esB p.2.flatten p.2 ++ esB (rcells ps) (rlets qs)) := by
  obtain ⟨h1, h2, h3, h4, h5⟩ := h
  rw [rcells_cons, rlets_cons, h4, esB_append _ _ _ _ (by rw [h1.len, h2.len]), esB_append _ _ _ _ rfl]
theorem tot_same (w : LB) : tot (esB w.flatten w) = (w.flatten.length : Int) := by
  rw [esB_same]
  unfold tot
  rw [List.map_map]
  induction w with
  | nil => rfl
  | cons l w ih =>
    simp only [List.map_cons, List.sum_cons, List.flatten_cons, List.length_append, Function.comp] at *
    omega
theorem wall_PL {g : Nat} (hg : 4 ≤ g) {w : LB} (h : LbOk g w) (X : List (Bool × Nat)) : PL (esB w.flatten w ++ X) 0 = PL X 0 ∧ PL (esB w.flatten w ++ X) 1 = PL X 0 := by
  refine PL_walls _ X (fun p hp => ?_) (by rw [tot_same, h.len]; omega)
  rw [esB_same] at hp
  obtain ⟨l, _, rfl⟩ := List.mem_map.mp hp
  rfl
theorem row_PL : ∀ {sh : List (Nat × Nat)} {ps qs : RowT}, (∀ p ∈ sh, 4 ≤ p.2) → R2 sh ps qs → PL (esB (rcells ps) (rlets qs)) 0 = (costsR ps qs).sum
  | [], [], [], _, _ => rfl
  | [], [], _ :: _, _, h => h.elim
  | [], _ :: _, _, _, h => h.elim
  | _ :: _, [], _, _, h => h.elim
  | _ :: _, _ :: _, [], _, h => h.elim
  | s :: sh, p :: ps, q :: qs, hg, h => by
    have ih := row_PL (fun p hp => hg p (List.mem_cons_of_mem _ hp)) h.2.2.2.2
    obtain ⟨w0, w1⟩ := wall_PL (hg s List.mem_cons_self) h.2.2.1 (esB (rcells ps) (rlets qs))
    rw [es_row h, PL_behind _ _ w0 w1 _ 0 (by decide), ih]
    rfl
theorem r2_len : ∀ {sh : List (Nat × Nat)} {ps qs : RowT}, R2 sh ps qs → ps.length = sh.length ∧ qs.length = sh.length ∧ (rcells ps).length = shW sh ∧ (rcells qs).length = shW sh ∧ (∀ l ∈ rlets qs, LetOk l)
  | [], [], [], _ => ⟨rfl, rfl, rfl, rfl, fun l h => by simp [rlets] at h⟩
  | [], [], _ :: _, h => h.elim
  | [], _ :: _, _, h => h.elim
  | _ :: _, [], _, h => h.elim
  | _ :: _, _ :: _, [], h => h.elim
  | s :: sh, p :: ps, q :: qs, h => by
    obtain ⟨h1, h2, h3, h4, h5⟩ := h
    obtain ⟨a1, a2, a3, a4, a5⟩ := r2_len h5
    have e : shW (s :: sh) = s.1 + s.2 + shW sh := by simp [shW]
    refine ⟨by simp [a1], by simp [a2], ?_, ?_, fun l hl => ?_⟩
    · rw [rcells_cons, e, List.length_append, List.length_append, a3, h1.len, h3.len]; omega
    · rw [rcells_cons, e, List.length_append, List.length_append, a4, h2.len, h4, h3.len]; omega
    · rw [rlets_cons, h4] at hl
      rcases List.mem_append.mp hl with z | z
      · exact h2.let_ l z
      · rcases List.mem_append.mp z with z | z
        · exact h3.let_ l z
        · exact a5 l z
theorem lets_le {ls : LB} (h : ∀ l ∈ ls, LetOk l) : ls.length ≤ ls.flatten.length := by
  induction ls with
  | nil => simp
  | cons l ls ih =>
    have := (let_len (h l List.mem_cons_self)).1
    have := ih fun x hx => h x (List.mem_cons_of_mem _ hx)
    simp only [List.flatten_cons, List.length_append, List.length_cons]
    omega
/-- the trail of two rows -/
def rTr (ps qs : RowT) : Tr := trB (rcells ps) (rlets qs)
theorem rTr_ok {sh : List (Nat × Nat)} {ps qs : RowT} (hw : shW sh ≤ 40) (h : R2 sh ps qs) : (rTr ps qs).ok ∧ (rTr ps qs).one = rcells ps ∧ (rTr ps qs).two = rcells qs ∧ (rTr ps qs).n ≤ 40 := by
  obtain ⟨a1, a2, a3, a4, a5⟩ := r2_len h
  have e : (rcells ps).length = (rlets qs).flatten.length := by rw [a3]; exact a4.symm
  have hl := lets_le a5
  have a4' : (rlets qs).flatten.length = shW sh := a4
  exact ⟨trB_ok _ _ e a5 (by omega), trB_one _ _ e, trB_two _ _, by unfold rTr; rw [trB_n]; omega⟩
theorem rTr_P {sh : List (Nat × Nat)} {ps qs : RowT} (hg : ∀ p ∈ sh, 4 ≤ p.2) (h : R2 sh ps qs) : (rTr ps qs).P (0, 0) = (costsR ps qs).sum := by
  have := row_PL hg h
  unfold esB at this
  unfold Tr.P rTr
  exact this
/-- the sum of blocks by the law -/
theorem least2 {sh : List (Nat × Nat)} {ps qs : RowT} (hw : shW sh ≤ 40) (h : R2 sh ps qs) : ∀ z ∈ ps.zip qs, f_law_least [rowD z.1.1.flatten, rowD z.2.1.flatten] = some (.int (cst z)) := by
  revert hw h
  induction sh generalizing ps qs with
  | nil =>
    intro hw h z hz
    cases ps with
    | nil => simp at hz
    | cons p ps => cases qs <;> exact h.elim
  | cons s sh ih =>
    intro hw h z hz
    cases ps with
    | nil => simp at hz
    | cons p ps =>
      cases qs with
      | nil => simp at hz
      | cons q qs =>
        have e : shW (s :: sh) = s.1 + s.2 + shW sh := by simp [shW]
        obtain ⟨h1, h2, h3, h4, h5⟩ := h
        rw [List.zip_cons_cons] at hz
        rcases List.mem_cons.mp hz with rfl | hz
        · exact least_ok _ _ (by rw [h1.len, h2.len]) h2.let_ (by rw [h2.len]; omega)
        · exact ih (by omega) h5 z hz
theorem zip_blk : ∀ (ps qs : RowT), zipD (bsD (ps.map (·.1))) (bsD (qs.map (·.1))) = (ps.zip qs).map fun z => D.tup [rowD z.1.1.flatten, rowD z.2.1.flatten]
  | [], _ => rfl
  | p :: ps, [] => rfl
  | p :: ps, q :: qs => by
    have := zip_blk ps qs
    simp only [List.map_cons, bsD, List.zip_cons_cons] at this ⊢
    simp only [zipD, this]
end Pv

/-! k80N8: the law's sums, a row's prices. -/
namespace Pv
open PySem
theorem least_comp (elt : GE) (own : List Nat) (t : Tg) (σ : PS) {sh : List (Nat × Nat)} {ps qs : RowT} (hw : shW sh ≤ 40) (h : R2 sh ps qs) (hlen : ps.length ≤ 1000)
    (hel : ∀ (a b : LB) (c : Int), f_law_least [rowD a.flatten, rowD b.flatten] = some (.int c) → cturn t own (fun ps => some (true, ps)) elt (.tup [rowD a.flatten, rowD b.flatten]) σ = some (some (.int c), σ)) :
    compP t own (fun ps => some (true, ps)) elt (zipD (bsD (ps.map (·.1))) (bsD (qs.map (·.1)))) [] σ = some ((costsR ps qs).map .int, σ) := by
  rw [zip_blk, costsR, List.map_map]
  refine compP_map (fun z : (LB × LB) × (LB × LB) => D.tup [rowD z.1.1.flatten, rowD z.2.1.flatten]) (fun z => D.int (cst z)) (ps.zip qs) (fun z hz => hel _ _ _ (least2 hw h z hz)) (by rw [List.length_zip]; show _ ≤ 1000000; omega)
def total (P Q : PicT) : Int := ((P.zip Q).map fun z => (costsR z.1 z.2).sum).sum
theorem zip_blks : ∀ (P Q : PicT), zipD (blksTD P) (blksTD Q) = (P.zip Q).map fun z => D.tup [.lst false (bsD (z.1.map (·.1))), .lst false (bsD (z.2.map (·.1)))]
  | [], _ => rfl
  | p :: ps, [] => rfl
  | p :: ps, q :: qs => by
    have := zip_blks ps qs
    simp only [blksTD] at this
    simp only [blksTD, List.map_cons, List.zip_cons_cons, zipD, this]
theorem pic_r2 {sh : List (Nat × Nat)} {W : List (List LB)} {P Q : PicT} (hp : PicOk sh W P) (hq : PicOk sh W Q) : ∀ z ∈ P.zip Q, R2 sh z.1 z.2 := fun z hz => by
  obtain ⟨r, hr⟩ := List.mem_iff_getElem?.mp hz
  rw [List.getElem?_zip_eq_some] at hr
  obtain ⟨h1, h2⟩ := hr
  have hl : r < W.length := by rw [← hp.len]; exact (List.getElem?_eq_some_iff.mp h1).1
  obtain ⟨a1, a2⟩ := hp.row r _ _ h1 (List.getElem?_eq_getElem hl)
  obtain ⟨b1, b2⟩ := hq.row r _ _ h2 (List.getElem?_eq_getElem hl)
  exact r2_of a1 b1 (a2.trans b2.symm)
theorem sums_turn {sh : List (Nat × Nat)} (hw : shW sh ≤ 40) (ps qs : RowT) (h : R2 sh ps qs) (hs : sh.length ≤ 4) (a b c : Sl) (f : Int) :
    turn (.tp [.nm 4, .nm 5]) [4, 5, 6, 7] L_law_sums_1 (.tup [.lst false (bsD (ps.map (·.1))), .lst false (bsD (qs.map (·.1)))]) [a, b, c, .ow (.int f), .no, .no, .no, .no] = some (.nx, [a, b, c, .ow (.int (f + (costsR ps qs).sum)), .no, .no, .no, .no]) := by
  obtain ⟨l1, l2, _⟩ := r2_len h
  have f1 := bsD_isFL (ps.map (·.1))
  have f2 := bsD_isFL (qs.map (·.1))
  have e := least_comp Y_law_sums_1 [6, 7] (.tp [.nm 6, .nm 7]) [a, b, c, .ow (.int f), .ow (.lst false (bsD (ps.map (·.1)))), .ow (.lst false (bsD (qs.map (·.1)))), .no, .no] hw h (by omega) fun x y d he => by
    have g1 := row_isFL x.flatten
    have g2 := row_isFL y.flatten
    unfold Y_law_sums_1
    generalize bsD (ps.map (·.1)) = A
    generalize bsD (qs.map (·.1)) = A2
    simp only [rowD] at he ⊢
    generalize x.flatten.map cD = X at *
    generalize y.flatten.map cD = Y at *
    simp [D.isF, isFL, D.pl, plL, D.dep, depL, eqv, eqvL, atP_0, atP_1, atP_2, atP_3, isFL_app, he, g1, g2, D.frz]
  have ei := intsD_map2 (costsR ps qs)
  unfold L_law_sums_1 C_law_sums_1
  generalize bsD (ps.map (·.1)) = X at *
  generalize bsD (qs.map (·.1)) = Y at *
  generalize (costsR ps qs).map D.int = Z at *
  simp [D.isF, isFL, D.pl, plL, D.dep, depL, eqv, eqvL, atP_0, atP_1, atP_2, atP_3, isFL_app, e, ei, f1, f2]
theorem sums_ok {sh : List (Nat × Nat)} (hw : shW sh ≤ 40) (hs : sh.length ≤ 4) {W : List (List LB)} (Ps : List PicT) (hP : ∀ P ∈ Ps, PicOk sh W P) (i j : Nat) (P Q : PicT) (hi : Ps[i]? = some P) (hj : Ps[j]? = some Q) :
    f_law_sums [.lst false (Ps.map picTD), .int i, .int j] = some (.int (total P Q)) := by
  have hr := pic_r2 (hP P (List.mem_of_getElem? hi)) (hP Q (List.mem_of_getElem? hj))
  have e := forP_fold (t := .tp [.nm 4, .nm 5]) (dead := [4, 5, 6, 7]) (body := L_law_sums_1) (fun z : RowT × RowT => D.tup [.lst false (bsD (z.1.map (·.1))), .lst false (bsD (z.2.map (·.1)))]) (fun f : Int => [.vw (.lst false (Ps.map picTD)), .vw (.int i), .vw (.int j), .ow (.int f), .no, .no, .no, .no]) (fun f z => f + (costsR z.1 z.2).sum) (P.zip Q) 0
    (fun f z hz => sums_turn hw z.1 z.2 (hr z hz) hs _ _ _ f)
  rw [← zip_blks] at e
  have et : ∀ (l : List (RowT × RowT)) (f : Int), l.foldl (fun f z => f + (costsR z.1 z.2).sum) f = f + (l.map fun z => (costsR z.1 z.2).sum).sum := fun l => by
    induction l with
    | nil => intro f; simp
    | cons z l ih => intro f; simp only [List.foldl_cons, ih, List.map_cons, List.sum_cons]; omega
  rw [et, Int.zero_add] at e
  have i1 : atP (Ps.map picTD) (i : Int) = some (.tup [.lst false (rowsTD P), .lst false (blksTD P)]) := by rw [atP_nat, List.getElem?_map, hi]; rfl
  have i2 : atP (Ps.map picTD) (j : Int) = some (.tup [.lst false (rowsTD Q), .lst false (blksTD Q)]) := by rw [atP_nat, List.getElem?_map, hj]; rfl
  have f1 := blksTD_isF P
  have f2 := blksTD_isF Q
  unfold f_law_sums b_law_sums
  unfold total
  generalize Ps.map picTD = X at *
  generalize blksTD P = Y at *
  generalize blksTD Q = Z at *
  simp [D.isF, isFL, D.pl, plL, D.dep, depL, eqv, eqvL, atP_0, atP_1, atP_2, atP_3, isFL_app, e, i1, i2, f1, f2]
/-- how many letters -/
theorem count_lets : ∀ {ls : LB}, (∀ l ∈ ls, LetOk l) → (ls.flatten.filter fun c => decide (c.1 ≠ ("" : Str))).length = ls.length
  | [], _ => rfl
  | l :: ls, h => by
    have ih := count_lets (ls := ls) fun x hx => h x (List.mem_cons_of_mem _ hx)
    rw [List.flatten_cons, List.filter_append, List.length_append, ih, List.length_cons]
    obtain ⟨s, i, g, hs, ⟨_, rfl⟩ | ⟨_, rfl⟩⟩ := h l List.mem_cons_self
    · simp [hs]; omega
    · simp [hs]; omega
theorem count_comp (ifs : GT) (elt : GE) (σ : PS) (r : List Cell) (hr : r.length ≤ 1000)
    (hel : ∀ c : Cell, cturn (.nm 15) [15] ifs elt (cD c) σ = some (if c.1 = ("" : Str) then none else some (cD c), σ)) :
    compP (.nm 15) [15] ifs elt (r.map cD) [] σ = some ((r.filter fun c => decide (c.1 ≠ ("" : Str))).map cD, σ) := by
  have := compP_fun (t := .nm 15) (own := [15]) (ifs := ifs) (elt := elt) (σ := σ) cD (fun c => if c.1 = ("" : Str) then none else some (cD c)) r [] (fun c _ => hel c) (by rw [List.length_nil]; show _ ≤ 1000000; omega)
  rw [this, List.nil_append]
  congr 2
  clear this hr hel
  induction r with
  | nil => rfl
  | cons c r ih =>
    rw [List.filterMap_cons, List.filter_cons]
    by_cases hc : c.1 = ("" : Str)
    · simp [hc, ih]
    · simp [hc, ih]
end Pv

/-! k80N9: a row's prices. -/
namespace Pv
open PySem
theorem key20 (a : Nat) : keyD true (.tup [.int a, .int 0]) = some (nk (a, 0)) := rfl
theorem esB_len (one : List Cell) (ls : LB) : (esB one ls).length = ls.length := by unfold esB Tr.es trB; rw [List.length_map, cutB_len]
def rpS (R O B O2 S : D) (cs : List Int) (t : Tr) (c : Nat) : PS := [.vw R, .vw O, .vw B, .vw O2, .vw S, .no, .ow (.lst false (cs.map .int)), .no, .no, .ow (pdD false t.ks t.pr), .ow (.int c), .no, .no, .no, .no, .no]
theorem rp_turn (R B O2 S : D) (cs : List Int) (hcs : cs.length ≤ 100) (t : Tr) (other : List Cell) (ho : other.length ≤ 1000) (k c0 : Nat) (s : Nat × Nat) (pre post : LB) (hpre : ∀ l ∈ pre, LetOk l) (ho2 : other = pre.flatten ++ post.flatten) (hc : pre.flatten.length = c0 + s.1) (hn : pre.length ≤ t.n)
    (hP : t.P (pre.length, 0) = (cs.drop (k + 1)).sum) :
    turn (.tp [.nm 11, .tp [.nm 12, .nm 13]]) [11, 12, 13, 14, 15] L_law_row_priced_1 (.tup [.int k, .tup [.int s.1, .int s.2]]) (rpS R (rowD other) B O2 S cs t c0) = some (.nx, rpS R (rowD other) B O2 S cs t (c0 + s.1 + s.2)) := by
  have fo := row_isFL other
  have ec : cutP (other.map cD) none (some ((c0 : Int) + (s.1 : Int))) = pre.flatten.map cD := by
    rw [← Int.natCast_add, cutP_to, ← List.map_take, ho2, ← hc, List.take_left]
  have cnt := count_lets hpre
  have hpl : pre.flatten.length ≤ 1000 := by rw [ho2] at ho; simp at ho ⊢; omega
  have e1 := count_comp T_law_row_priced_1 Y_law_row_priced_2 [.vw R, .vw (rowD other), .vw B, .vw O2, .vw S, .no, .ow (.lst false (cs.map .int)), .no, .no, .ow (pdD false t.ks t.pr), .ow (.int ((c0 : Int) + (s.1 : Int))), .ow (.int k), .no, .ow (.int s.2), .no, .no] pre.flatten hpl fun c => by
    unfold T_law_row_priced_1 Y_law_row_priced_2
    generalize rowD other = X
    generalize pdD false t.ks t.pr = X2
    generalize cs.map D.int = X3
    by_cases hc : c.1 = ("" : Str)
    · simp [D.isF, isFL, D.pl, plL, D.dep, depL, eqv, eqvL, atP_0, atP_1, atP_2, atP_3, isFL_app, cD, hc]
    · simp [D.isF, isFL, D.pl, plL, D.dep, depL, eqv, eqvL, atP_0, atP_1, atP_2, atP_3, isFL_app, cD, hc]
  have hlen : (((pre.flatten.filter fun c => decide (c.1 ≠ ("" : Str))).map cD).length : Int) = (pre.length : Int) := by rw [List.length_map, cnt]
  have hm : (pre.length, 0) ∈ t.ks := (mem_ks t _).mpr ⟨hn, Nat.zero_lt_two⟩
  have hpr := pr_at t (pre.length, 0) hn Nat.zero_lt_two
  have ed : cutP (cs.map D.int) (some ((k : Int) + 1)) none = (cs.drop (k + 1)).map D.int := by
    rw [show (k : Int) + 1 = ((k + 1 : Nat) : Int) by omega, cutP_from, List.map_drop]
  have ei := intsD_map2 (cs.drop (k + 1))
  have fi : isFL (cs.map D.int) = true := isFL_map (fun _ => rfl) _
  have lk : lkD (t.ks.map nk) (vals t.ks t.pr) (nk (pre.length, 0)) = some (oD (t.pr (pre.length, 0))) := by rw [lk_pd, if_pos hm]
  rw [hpr, hP] at lk
  have e4 : ((c0 + s.1 + s.2 : Nat) : Int) = (c0 : Int) + s.1 + s.2 := by omega
  have key := key20 pre.length
  have fp := row_isFL pre.flatten
  unfold rpS
  rw [e4]
  unfold L_law_row_priced_1 C_law_row_priced_2
  simp only [rowD, pdD] at e1 ⊢
  generalize (pre.flatten.filter fun c => decide (c.1 ≠ ("" : Str))).map cD = Z at *
  generalize pre.flatten.map cD = Z1 at *
  generalize other.map cD = Z2 at *
  generalize t.ks.map nk = Z3 at *
  generalize vals t.ks t.pr = Z4 at *
  generalize (cs.drop (k + 1)).map D.int = Z6 at *
  generalize cs.map D.int = Z5 at *
  simp [D.isF, isFL, D.pl, plL, D.dep, depL, eqv, eqvL, atP_0, atP_1, atP_2, atP_3, isFL_app, e1, ec, fo, fp, hlen, lk, ed, ei, fi, key, oD]
theorem rp_loop (R B O2 S : D) (cs : List Int) (hcs : cs.length ≤ 100) (t : Tr) (other : List Cell) (ho : other.length ≤ 1000) : ∀ (sh : List (Nat × Nat)) (ps qs : RowT) (k : Nat) (pl : LB) (pc : List Cell),
    (∀ p ∈ sh, 4 ≤ p.2) → R2 sh ps qs → (∀ l ∈ pl, LetOk l) → other = pl.flatten ++ rcells qs → t = trB (pc ++ rcells ps) (pl ++ rlets qs) → pc.length = pl.flatten.length → cs.drop k = costsR ps qs →
    forP (.tp [.nm 11, .tp [.nm 12, .nm 13]]) [11, 12, 13, 14, 15] L_law_row_priced_1 (enumFr k (shD sh)) (rpS R (rowD other) B O2 S cs t pl.flatten.length) = some (.nx, rpS R (rowD other) B O2 S cs t other.length)
  | [], [], [], k, pl, pc, _, _, _, h2, _, _, _ => by
    have e : other = pl.flatten := by simpa [rcells, rlets] using h2
    rw [e]
    rfl
  | [], [], _ :: _, _, _, _, _, h, _, _, _, _, _ => h.elim
  | [], _ :: _, _, _, _, _, _, h, _, _, _, _, _ => h.elim
  | _ :: _, [], _, _, _, _, _, h, _, _, _, _, _ => h.elim
  | _ :: _, _ :: _, [], _, _, _, _, h, _, _, _, _, _ => h.elim
  | s :: sh, p :: ps, q :: qs, k, pl, pc, hg, h, hpl, h2, ht, hpc, hcd => by
    have hes := es_row h
    obtain ⟨a1, a2, a3, a4, a5⟩ := h
    have hlets := (r2_len a5).2.2.2.2
    have hq1 := a2.let_
    have hw1 : ∀ l ∈ q.2, LetOk l := by rw [a4]; exact a3.let_
    have hpre : ∀ l ∈ pl ++ q.1, LetOk l := fun l hl => (List.mem_append.mp hl).elim (hpl l) (hq1 l)
    have ho2 : other = (pl ++ q.1).flatten ++ (q.2 ++ rlets qs).flatten := by
      rw [h2, rcells_cons]
      simp [rcells]
    have hcl : (pl ++ q.1).flatten.length = pl.flatten.length + s.1 := by rw [List.flatten_append, List.length_append, a2.len]
    have hn : (pl ++ q.1).length ≤ t.n := by
      rw [ht, trB_n, rlets_cons]
      simp
    have hwl := wall_PL (hg s List.mem_cons_self) a3 (esB (rcells ps) (rlets qs))
    have hP : t.P ((pl ++ q.1).length, 0) = (cs.drop (k + 1)).sum := by
      have e1 : t.es = esB pc pl ++ (esB p.1.flatten q.1 ++ (esB p.2.flatten p.2 ++ esB (rcells ps) (rlets qs))) := by
        rw [← hes, ← esB_append pl (rlets (q :: qs)) pc (rcells (p :: ps)) hpc, ht]
        rfl
      have e2 : t.es.drop (pl ++ q.1).length = esB p.2.flatten p.2 ++ esB (rcells ps) (rlets qs) := by
        rw [e1, List.length_append, ← List.drop_drop]
        rw [List.drop_left' (esB_len pc pl), List.drop_left' (esB_len _ _)]
      unfold Tr.P
      rw [e2, hwl.1, row_PL (fun x hx => hg x (List.mem_cons_of_mem _ hx)) a5]
      have : cs.drop (k + 1) = costsR ps qs := by
        rw [← List.drop_drop, hcd]
        rfl
      rw [this]
    have e := rp_turn R B O2 S cs hcs t other ho k pl.flatten.length s (pl ++ q.1) (q.2 ++ rlets qs) hpre ho2 hcl hn hP
    have ih := rp_loop R B O2 S cs hcs t other ho sh ps qs (k + 1) (pl ++ q.1 ++ q.2) (pc ++ p.1.flatten ++ p.2.flatten) (fun x hx => hg x (List.mem_cons_of_mem _ hx)) a5
      (fun l hl => (List.mem_append.mp hl).elim (hpre l) (hw1 l)) (by rw [h2, rcells_cons]; simp) (by rw [ht, rcells_cons, rlets_cons]; simp) (by simp only [List.length_append, List.flatten_append]; rw [a1.len, a2.len, a4, hpc]) (by rw [← List.drop_drop, hcd]; rfl)
    have e5 : (pl ++ q.1 ++ q.2).flatten.length = pl.flatten.length + s.1 + s.2 := by simp only [List.length_append, List.flatten_append]; rw [a2.len, a4, a3.len]
    rw [e5] at ih
    show forP _ _ _ (.tup [.int k, .tup [.int s.1, .int s.2]] :: enumFr (k + 1) (shD sh)) _ = _
    rw [forP_nx e]
    exact ih
end Pv

/-! k80N10: row_priced. -/
namespace Pv
open PySem
theorem tr_frz (t : Tr) (o : Bool) : (t.d o).frz = t.d false := by
  simp only [Tr.d, D.frz, frzL, frzL_id _ (row_isFL t.one), frzL_id _ (row_isFL t.two), frzL_id _ (isFL_map spD_isF t.spots)]
theorem wayD_isF (t : Tr) : isFL ((WL t.es 0).map D.str) = true := strs_isFL _
theorem costs_len (ps qs : RowT) : (costsR ps qs).length ≤ ps.length := by unfold costsR; rw [List.length_map, List.length_zip]; omega
theorem row_priced_ok {sh : List (Nat × Nat)} (hs : ShOk sh) (hw : shW sh ≤ 40) (ps qs : RowT) (h : R2 sh ps qs) :
    f_law_row_priced [rowD (rcells ps), rowD (rcells qs), .lst false (bsD (ps.map (·.1))), .lst false (bsD (qs.map (·.1))), .lst false (shD sh)] = some (.bl true) := by
  obtain ⟨l1, l2, l3, l4, l5⟩ := r2_len h
  obtain ⟨t1, t2, t3, t4⟩ := rTr_ok hw h
  have hg : ∀ p ∈ sh, 4 ≤ p.2 := fun p hp => (hs.one p hp).2.2.1
  have hP := rTr_P hg h
  have hsl := hs.len
  have hcl := costs_len ps qs
  have lp := rp_loop (rowD (rcells ps)) (.lst false (bsD (ps.map (·.1)))) (.lst false (bsD (qs.map (·.1)))) (.lst false (shD sh)) (costsR ps qs) (by omega) (rTr ps qs) (rcells qs) (by omega) sh ps qs 0 [] [] hg h (fun l hl => by simp at hl) rfl rfl rfl rfl
  obtain ⟨t, ht⟩ : ∃ t, t = rTr ps qs := ⟨_, rfl⟩
  rw [← ht] at t1 t2 t3 t4 hP lp
  have e1 := mk_ok t t1
  rw [t2, t3] at e1
  have e2 := least_comp Y_law_row_priced_1 [7, 8] (.tp [.nm 7, .nm 8]) [.vw (rowD (rcells ps)), .vw (rowD (rcells qs)), .vw (.lst false (bsD (ps.map (·.1)))), .vw (.lst false (bsD (qs.map (·.1)))), .vw (.lst false (shD sh)), .ow (t.d false), .no, .no, .no, .no, .no, .no, .no, .no, .no, .no] hw h (by omega) fun x y d he => by
    have g1 := row_isFL x.flatten
    have g2 := row_isFL y.flatten
    unfold Y_law_row_priced_1
    generalize bsD (ps.map (·.1)) = A
    generalize bsD (qs.map (·.1)) = A2
    generalize rowD (rcells ps) = A3
    generalize rowD (rcells qs) = A4
    generalize t.d false = A5
    simp only [rowD] at he ⊢
    generalize x.flatten.map cD = X at *
    generalize y.flatten.map cD = Y at *
    simp [D.isF, isFL, D.pl, plL, D.dep, depL, eqv, eqvL, atP_0, atP_1, atP_2, atP_3, isFL_app, he, g1, g2, D.frz]
  have e3 := priced_ok t t1 false
  have e3' : (pdD true (keysB t.n (t.n + 1)) (t.vv (t.n + 1))).frz = pdD false t.ks t.pr := frz_pd _ _ _
  have e4 := way_ok t t1 false
  have e5 := fair_ok t t1 false false
  have ei := intsD_map2 (costsR ps qs)
  have f1 := bsD_isFL (ps.map (·.1))
  have f2 := bsD_isFL (qs.map (·.1))
  have f3 := shD_isFL sh
  have m0 : (0, 0) ∈ t.ks := (mem_ks t _).mpr ⟨Nat.zero_le _, Nat.zero_lt_two⟩
  have k0 : keyD true (.tup [.int 0, .int 0]) = some (nk (0, 0)) := rfl
  have lk0 : lkD (t.ks.map nk) (vals t.ks t.pr) (nk (0, 0)) = some (.int (costsR ps qs).sum) := by
    rw [lk_pd, if_pos m0, pr_at t (0, 0) (Nat.zero_le _) Nat.zero_lt_two, hP]; rfl
  have hnn : t.n = (rlets qs).length := by rw [ht]; exact trB_n _ _
  have mn : (t.n, 0) ∈ t.ks := (mem_ks t _).mpr ⟨Nat.le_refl _, Nat.zero_lt_two⟩
  have kn := key20 t.n
  have lkn : lkD (t.ks.map nk) (vals t.ks t.pr) (nk (t.n, 0)) = some (.int 0) := by
    rw [lk_pd, if_pos mn, pr_at t (t.n, 0) (Nat.le_refl _) Nat.zero_lt_two, P_end]; rfl
  have e6 := count_comp T_law_row_priced_2 Y_law_row_priced_3 [.vw (rowD (rcells ps)), .vw (rowD (rcells qs)), .vw (.lst false (bsD (ps.map (·.1)))), .vw (.lst false (bsD (qs.map (·.1)))), .vw (.lst false (shD sh)), .no, .no, .no, .no, .ow (pdD false t.ks t.pr), .no, .no, .no, .no, .no, .no] (rcells qs) (by omega) fun c => by
    unfold T_law_row_priced_2 Y_law_row_priced_3
    generalize rowD (rcells ps) = X
    generalize rowD (rcells qs) = X1
    generalize bsD (ps.map (·.1)) = A
    generalize bsD (qs.map (·.1)) = A2
    generalize pdD false t.ks t.pr = X2
    by_cases hc : c.1 = ("" : Str)
    · simp [D.isF, isFL, D.pl, plL, D.dep, depL, eqv, eqvL, atP_0, atP_1, atP_2, atP_3, isFL_app, cD, hc]
    · simp [D.isF, isFL, D.pl, plL, D.dep, depL, eqv, eqvL, atP_0, atP_1, atP_2, atP_3, isFL_app, cD, hc]
  have cnt := count_lets l5
  have hlen : ((((rcells qs).filter fun c => decide (c.1 ≠ ("" : Str))).map cD).length : Int) = (t.n : Int) := by
    rw [List.length_map, hnn]
    exact congrArg _ cnt
  have g1 := row_isFL (rcells ps)
  have g2 := row_isFL (rcells qs)
  have ez : ([] : LB).flatten.length = 0 := rfl
  have frt := tr_frz t true
  have fif := tr_isF t
  rw [ez] at lp
  have rep : (List.replicate 2 [D.int (costsR ps qs).sum]).flatten = [D.int (costsR ps qs).sum, D.int (costsR ps qs).sum] := rfl
  have cp : 2 < cap := by decide
  have sm : small 2 := by unfold small; omega
  unfold rpS at lp
  unfold wayD at e4
  rw [hP] at e4
  unfold f_law_row_priced b_law_row_priced C_law_row_priced_1 C_law_row_priced_3
  simp only [rowD, pdD] at *
  generalize ((rcells qs).filter fun c => decide (c.1 ≠ ("" : Str))).map cD = Z at *
  generalize bsD (ps.map (·.1)) = A at *
  generalize bsD (qs.map (·.1)) = A2 at *
  generalize (rcells ps).map cD = R1 at *
  generalize (rcells qs).map cD = R2 at *
  generalize shD sh = R3 at *
  generalize t.ks.map nk = K1 at *
  generalize vals t.ks t.pr = K2 at *
  generalize (costsR ps qs).map D.int = C1 at *
  generalize (WL t.es 0).map D.str = W1 at *
  generalize hT1 : t.d true = T1 at *
  generalize hT0 : t.d false = T0 at *
  simp at lp
  simp [-mkI, D.isF, isFL, D.pl, plL, D.dep, depL, eqv, eqvL, atP_0, atP_1, atP_2, atP_3, isFL_app, e1, e2, e3, e3', e4, e5, ei, f1, f2, f3, k0, lk0, lkn, kn, e6, hlen, g1, g2, frt, fif, lp, rep, sm, cp]
end Pv

/-! k80N11: two pictures; the law. -/
namespace Pv
open PySem
theorem ints_isFL (ns : List Int) : isFL (ns.map .int) = true := isFL_map (fun _ => rfl) ns
theorem bag_ok (ns : List Int) : ∃ B : Bag, B.ok ∧ f_law_bag [.xl (ns.map .int)] = some B.d := by
  let cs := (ns.take 63).map fun i : Int => if i < 0 then -i else i
  refine ⟨⟨0, 987654321, 0, cs⟩, ⟨(show (0 : Int) ≤ 0 by decide), (show (0 : Int) ≤ 987654321 by decide), (show (987654321 : Int) < 2147483647 by decide), fun c hc => ?_, by simp only [cs, List.length_map, List.length_take]; omega⟩, ?_⟩
  · obtain ⟨i, _, rfl⟩ := List.mem_map.mp hc
    split <;> omega
  · have c := compP_map (t := .nm 1) (own := [1]) (ifs := fun ps => some (true, ps)) (elt := Y_law_bag_1) (σ := [.vw (.xl (ns.map .int)), .no]) D.int (fun i => .int (if i < 0 then -i else i)) (ns.take 63) (fun i _ => by
      unfold Y_law_bag_1
      simp [D.isF, isFL, D.pl, plL, D.dep, depL, eqv, eqvL, atP_0, atP_1, atP_2, atP_3, isFL_app]) (by rw [List.length_take]; show _ ≤ 1000000; omega)
    have e1 : cutP (ns.map D.int) none (some 63) = (ns.take 63).map .int := by
      rw [show (63 : Int) = ((63 : Nat) : Int) from rfl, cutP_to, List.map_take]
    have f1 := ints_isFL ns
    have f2 := ints_isFL (ns.take 63)
    have e2 : (ns.take 63).map (fun i => D.int (if i < 0 then -i else i)) = cs.map .int := by simp only [cs, List.map_map]; rfl
    rw [e2] at c
    have f3 := ints_isFL cs
    unfold f_law_bag b_law_bag C_law_bag_1
    simp only [Bag.d]
    generalize ns.map D.int = N at *
    generalize (ns.take 63).map D.int = M at *
    generalize cs.map D.int = C at *
    simp [c, e1, f1, f2, f3, D.isF, isFL, D.pl, plL, D.dep, depL, eqv, eqvL, atP_0, atP_1, atP_2, atP_3, isFL_app]
theorem rowD_eqv (x y : List Cell) : eqv (rowD x) (rowD y) = decide (x = y) := by
  simp only [eqv]
  exact eqvL_map cD_eqv x y
theorem rowsTD_eq (P : PicT) : rowsTD P = (P.map rcells).map rowD := by unfold rowsTD; rw [List.map_map]; rfl
theorem rows_eqv (P : PicT) : eqvL (rowsTD P) (rowsTD P) = true := by
  rw [rowsTD_eq, eqvL_map rowD_eqv]
  exact decide_eq_true rfl
theorem rows_dep (P : PicT) : depL (rowsTD P) ≤ 2 := depL_map (f := fun ps => rowD (rcells ps)) (n := 2) (fun r => by simp only [D.dep]; have := row_depL (rcells r); omega) _
theorem rows_pl (P : PicT) : plL (rowsTD P) = true := plL_map (f := fun ps => rowD (rcells ps)) (fun r => by simp only [D.pl]; exact row_plL _) _
def trsT (P Q : PicT) : List Tr := (P.zip Q).map fun z => rTr z.1 z.2
section
variable {sh : List (Nat × Nat)} {W : List (List LB)} {P Q : PicT}
theorem zip_len2 (hp : PicOk sh W P) (hq : PicOk sh W Q) : P.length = Q.length := hp.len.trans hq.len.symm
theorem trs_ok (hw : shW sh ≤ 40) (hp : PicOk sh W P) (hq : PicOk sh W Q) : (∀ t ∈ trsT P Q, t.ok ∧ t.two.length < 1000) ∧ (trsT P Q).map Tr.one = P.map rcells ∧ (trsT P Q).map Tr.two = Q.map rcells := by
  have hr := pic_r2 hp hq
  have hl := zip_len2 hp hq
  refine ⟨fun t ht => ?_, ?_, ?_⟩
  · obtain ⟨z, hz, rfl⟩ := List.mem_map.mp ht
    obtain ⟨t1, t2, t3, t4⟩ := rTr_ok hw (hr z hz)
    obtain ⟨a1, a2, a3, a4, a5⟩ := r2_len (hr z hz)
    exact ⟨t1, by rw [t3, a4]; omega⟩
  · unfold trsT
    rw [List.map_map]
    have : (P.zip Q).map (Tr.one ∘ fun z => rTr z.1 z.2) = (P.zip Q).map fun z => rcells z.1 := List.map_congr_left fun z hz => (rTr_ok hw (hr z hz)).2.1
    rw [this]
    conv => rhs; rw [← List.map_fst_zip (l₁ := P) (l₂ := Q) (by omega), List.map_map]
    rfl
  · unfold trsT
    rw [List.map_map]
    have : (P.zip Q).map (Tr.two ∘ fun z => rTr z.1 z.2) = (P.zip Q).map fun z => rcells z.2 := List.map_congr_left fun z hz => (rTr_ok hw (hr z hz)).2.2.1
    rw [this]
    conv => rhs; rw [← List.map_snd_zip (l₁ := P) (l₂ := Q) (by omega), List.map_map]
    rfl
theorem two_pics (hs : ShOk sh) (hw : shW sh ≤ 40) (hW : WallOk sh W) (hp : PicOk sh W P) (hq : PicOk sh W Q) : ∃ ws : List Wr, f_patch [.lst false (rowsTD P), .lst false (rowsTD Q)] = some (.lst true (ws.map wD)) ∧
    f_cost_of [.lst false (ws.map wD)] = some (.int (total P Q)) ∧ f_patched [.lst false (rowsTD P), .lst false (ws.map wD)] = some (.lst true (rowsTD Q)) := by
  obtain ⟨h1, h2, h3⟩ := trs_ok hw hp hq
  have hr := pic_r2 hp hq
  have h4 := hW.h4
  have hpl := hp.len
  have hg : ∀ p ∈ sh, 4 ≤ p.2 := fun p hp => (hs.one p hp).2.2.1
  have hl : (trsT P Q).length ≤ 4 := by unfold trsT; rw [List.length_map, List.length_zip]; omega
  refine ⟨PW 0 (trsT P Q), ?_, ?_, ?_⟩
  · have := patch_ok (trsT P Q) (fun t ht => (h1 t ht).1) (fun t ht => (h1 t ht).2) (by omega)
    rw [h2, h3] at this
    rw [rowsTD_eq, rowsTD_eq]
    exact this
  · have hn := PW_len (trsT P Q) 0 fun t ht => (h1 t ht).1.1
    rw [cost_ok _ (by omega), PW_cost]
    congr 2
    unfold total trsT
    rw [List.map_map]
    congr 1
    exact List.map_congr_left fun z hz => rTr_P hg (hr z hz)
  · have ha := PW_apply (trsT P Q) [] fun t ht => (h1 t ht).1
    have hf := PW_fit (trsT P Q) [] fun t ht => (h1 t ht).1
    rw [List.nil_append, List.nil_append] at ha
    rw [List.nil_append] at hf
    simp only [List.length_nil] at ha hf
    rw [h2] at hf
    rw [h2, h3] at ha
    have := patched_ok (P.map rcells) (PW 0 (trsT P Q)) (by rw [List.length_map]; omega) (fun r hr' => by
      obtain ⟨ps, hps, rfl⟩ := List.mem_map.mp hr'
      obtain ⟨i, hi⟩ := List.mem_iff_getElem?.mp hps
      have hil : i < W.length := by rw [← hpl]; exact (List.getElem?_eq_some_iff.mp hi).1
      have := (hp.row i ps _ hi (List.getElem?_eq_getElem hil)).1
      rw [rcells_len this]; omega) hf
    rw [ha] at this
    rw [rowsTD_eq, rowsTD_eq]
    exact this
end
theorem zipR4 {α β : Type} (f g f' g' : α → β) : ∀ P Q : List α, L2.zipR [P.map f, Q.map g, P.map f', Q.map g'] = (P.zip Q).map fun z => [f z.1, g z.2, f' z.1, g' z.2]
  | [], Q => by simp [L2.zipR]
  | p :: P, [] => by simp [L2.zipR]
  | p :: P, q :: Q => by
    have := zipR4 f g f' g' P Q
    simp only [L2.zipR, List.map_cons, List.zipWith_cons_cons, List.zip_cons_cons] at this ⊢
    rw [this]
def lS (v : Sl) (B : Bag) (sh : List (Nat × Nat)) (Ps : List PicT) (i j : Sl) : PS := [v, .ow B.d, .no, .ow (.lst false (shD sh)), .ow (.lst false (Ps.map picTD)), i, j, .no, .no, .no, .no, .no, .no, .no, .no, .no]
section
variable {sh : List (Nat × Nat)} {W : List (List LB)}
theorem pair_turn (hs : ShOk sh) (hw : shW sh ≤ 40) (hW : WallOk sh W) (Ps : List PicT) (hP : ∀ P ∈ Ps, PicOk sh W P) (i j : Nat) (hi : i < Ps.length) (hj : j < Ps.length) (v : Sl) (B : Bag) :
    turn (.nm 6) [6, 7] L_law_1 (.int j) (lS v B sh Ps (.ow (.int i)) .no) = some (.nx, lS v B sh Ps (.ow (.int i)) .no) := by
  have hi2 := List.getElem?_eq_getElem hi
  have hj2 := List.getElem?_eq_getElem hj
  have p1 := hP _ (List.mem_of_getElem? hi2)
  have p2 := hP _ (List.mem_of_getElem? hj2)
  generalize Ps[i] = P at *
  generalize Ps[j] = Q at *
  obtain ⟨ws, e1, e2, e3⟩ := two_pics hs hw hW p1 p2
  have e4 := sums_ok hw hs.len Ps hP i j P Q hi2 hj2
  have i1 : atP (Ps.map picTD) (i : Int) = some (.tup [.lst false (rowsTD P), .lst false (blksTD P)]) := by rw [atP_nat, List.getElem?_map, hi2]; rfl
  have i2 : atP (Ps.map picTD) (j : Int) = some (.tup [.lst false (rowsTD Q), .lst false (blksTD Q)]) := by rw [atP_nat, List.getElem?_map, hj2]; rfl
  have fz : D.frz (.lst true (ws.map wD)) = .lst false (ws.map wD) := frz_rows _ (wr_isFL ws) _
  have q1 := rows_eqv Q
  have q2 := rows_pl Q
  have q3 : depL (rowsTD Q) ≤ 39 := by have := rows_dep Q; omega
  unfold L_law_1 lS
  generalize Ps.map picTD = X at *
  generalize rowsTD P = X1 at *
  generalize rowsTD Q = X2 at *
  generalize blksTD P = X3 at *
  generalize blksTD Q = X4 at *
  generalize ws.map wD = X5 at *
  generalize shD sh = X6 at *
  simp [D.isF, isFL, D.pl, plL, D.dep, depL, eqv, eqvL, atP_0, atP_1, atP_2, atP_3, isFL_app, e1, e2, e3, e4, i1, i2, fz, q1, q2, q3]
theorem pairs_turn (hs : ShOk sh) (hw : shW sh ≤ 40) (hW : WallOk sh W) (Ps : List PicT) (hP : ∀ P ∈ Ps, PicOk sh W P) (h3 : Ps.length = 3) (i : Nat) (hi : i < Ps.length) (v : Sl) (B : Bag) :
    turn (.nm 5) [5, 6, 7] L_law_2 (.int i) (lS v B sh Ps .no .no) = some (.nx, lS v B sh Ps .no .no) := by
  have e := forP_fold (t := .nm 6) (dead := [6, 7]) (body := L_law_1) (fun k : Nat => D.int (k : Int)) (fun _ : Unit => lS v B sh Ps (.ow (.int i)) .no) (fun _ _ => ()) (List.range 3) () (fun _ j hj => pair_turn hs hw hW Ps hP i j hi (by rw [h3]; exact List.mem_range.mp hj) v B)
  have hr3 := itR1_nat (i := 3) 3 rfl (by decide)
  unfold lS at e ⊢
  unfold L_law_2
  generalize Ps.map picTD = X at *
  generalize shD sh = X6 at *
  simp [-itR1, e, hr3]
theorem row_turn (hs : ShOk sh) (hw : shW sh ≤ 40) (ps qs : RowT) (h : R2 sh ps qs) (v : Sl) (B : Bag) (a b c d : Sl) :
    turn (.tp [.nm 12, .nm 13, .nm 14, .nm 15]) [8, 9, 10, 11, 12, 13, 14, 15] L_law_3 (.tup [rowD (rcells ps), rowD (rcells qs), .lst false (bsD (ps.map (·.1))), .lst false (bsD (qs.map (·.1)))]) [v, .ow B.d, .no, .ow (.lst false (shD sh)), .no, .no, .no, .no, a, b, c, d, .no, .no, .no, .no] =
      some (.nx, [v, .ow B.d, .no, .ow (.lst false (shD sh)), .no, .no, .no, .no, .no, .no, .no, .no, .no, .no, .no, .no]) := by
  have e := row_priced_ok hs hw ps qs h
  unfold L_law_3
  generalize rowD (rcells ps) = X1 at *
  generalize rowD (rcells qs) = X2 at *
  generalize bsD (ps.map (·.1)) = X3 at *
  generalize bsD (qs.map (·.1)) = X4 at *
  generalize shD sh = X6 at *
  simp [D.isF, isFL, D.pl, plL, D.dep, depL, eqv, eqvL, atP_0, atP_1, atP_2, atP_3, isFL_app, e]
end
end Pv

/-! k80N12: the law. -/
namespace Pv
open PySem
abbrev tg4 : Tg := .tp [.nm 12, .nm 13, .nm 14, .nm 15]
theorem rows_loop {sh : List (Nat × Nat)} (hs : ShOk sh) (hw : shW sh ≤ 40) (v : Sl) (B : Bag) : ∀ (zs : List (RowT × RowT)) (a b c d : Sl), zs ≠ [] → (∀ z ∈ zs, R2 sh z.1 z.2) →
    forP tg4 [8, 9, 10, 11, 12, 13, 14, 15] L_law_3 (zs.map fun z => D.tup [rowD (rcells z.1), rowD (rcells z.2), .lst false (bsD (z.1.map (·.1))), .lst false (bsD (z.2.map (·.1)))]) [v, .ow B.d, .no, .ow (.lst false (shD sh)), .no, .no, .no, .no, a, b, c, d, .no, .no, .no, .no] =
      some (.nx, [v, .ow B.d, .no, .ow (.lst false (shD sh)), .no, .no, .no, .no, .no, .no, .no, .no, .no, .no, .no, .no])
  | [], _, _, _, _, h, _ => absurd rfl h
  | [z], a, b, c, d, _, h => by
    rw [List.map_cons, forP_nx (row_turn hs hw z.1 z.2 (h z List.mem_cons_self) v B a b c d)]
    rfl
  | z :: z2 :: zs, a, b, c, d, _, h => by
    rw [List.map_cons, forP_nx (row_turn hs hw z.1 z.2 (h z List.mem_cons_self) v B a b c d)]
    exact rows_loop hs hw v B (z2 :: zs) .no .no .no .no (by simp) fun y hy => h y (List.mem_cons_of_mem _ hy)
theorem law_turn (B : Bag) (h : B.ok) (v : Sl) (k : Int) : ∃ B' : Bag, B'.ok ∧
    turn (.nm 2) [2, 3, 4, 5, 6, 7, 8, 9, 10, 11, 12, 13, 14, 15] L_law_4 (.int k) [v, .ow B.d, .no, .no, .no, .no, .no, .no, .no, .no, .no, .no, .no, .no, .no, .no] = some (.nx, [v, .ow B'.d, .no, .no, .no, .no, .no, .no, .no, .no, .no, .no, .no, .no, .no, .no]) := by
  obtain ⟨sh, B1, e1, ok1, hs, hw⟩ := shape_ok B h
  obtain ⟨W, Ps, B2, e2, ok2, hW, h3, hP⟩ := pictures_ok B1 ok1 sh hs hw
  refine ⟨B2, ok2, ?_⟩
  have fs : D.frz (.lst true (shD sh)) = .lst false (shD sh) := frz_rows _ (shD_isFL sh) _
  have fp : D.frz (.lst true (Ps.map picTD)) = .lst false (Ps.map picTD) := frz_rows _ (pics_isFL Ps) _
  have e3 := forP_fold (t := .nm 5) (dead := [5, 6, 7]) (body := L_law_2) (fun k : Nat => D.int (k : Int)) (fun _ : Unit => lS v B2 sh Ps .no .no) (fun _ _ => ()) (List.range 3) () (fun _ i hi => pairs_turn hs hw hW Ps hP h3 i (by rw [h3]; exact List.mem_range.mp hi) v B2)
  obtain ⟨P, Q, R, rfl⟩ : ∃ P Q R, Ps = [P, Q, R] := by
    match Ps, h3 with
    | [P, Q, R], _ => exact ⟨P, Q, R, rfl⟩
  have hp := hP P (by simp)
  have hq := hP Q (by simp)
  have hr := pic_r2 hp hq
  have hne : (P.zip Q).take 2 ≠ [] := by
    have h1 := hW.h1
    have l1 := hp.len
    have l2 := hq.len
    intro z
    have : ((P.zip Q).take 2).length = 0 := by rw [z]; rfl
    rw [List.length_take, List.length_zip] at this
    omega
  have e4 := rows_loop hs hw v B2 ((P.zip Q).take 2) (.ow (.lst false (rowsTD P))) (.ow (.lst false (blksTD P))) (.ow (.lst false (rowsTD Q))) (.ow (.lst false (blksTD Q))) hne (fun z hz => hr z (List.mem_of_mem_take hz))
  have ez : (L2.zipR [rowsTD P, rowsTD Q, blksTD P, blksTD Q]).map D.tup = (P.zip Q).map fun z => D.tup [rowD (rcells z.1), rowD (rcells z.2), .lst false (bsD (z.1.map (·.1))), .lst false (bsD (z.2.map (·.1)))] := by
    unfold rowsTD blksTD
    rw [zipR4, List.map_map]
    rfl
  have ec : cutP ((P.zip Q).map fun z => D.tup [rowD (rcells z.1), rowD (rcells z.2), .lst false (bsD (z.1.map (·.1))), .lst false (bsD (z.2.map (·.1)))]) none (some 2) = ((P.zip Q).take 2).map fun z => D.tup [rowD (rcells z.1), rowD (rcells z.2), .lst false (bsD (z.1.map (·.1))), .lst false (bsD (z.2.map (·.1)))] := by
    rw [show (2 : Int) = ((2 : Nat) : Int) from rfl, cutP_to, List.map_take]
  have fZ : ∀ zs : List (RowT × RowT), isFL (zs.map fun z => D.tup [rowD (rcells z.1), rowD (rcells z.2), .lst false (bsD (z.1.map (·.1))), .lst false (bsD (z.2.map (·.1)))]) = true := fun zs => isFL_map (fun z => by
    have g1 := row_isFL (rcells z.1)
    have g2 := row_isFL (rcells z.2)
    have g3 := bsD_isFL (z.1.map (·.1))
    have g4 := bsD_isFL (z.2.map (·.1))
    simp only [D.isF, isFL, g1, g2, g3, g4]
    rfl) zs
  have z1 := fZ (P.zip Q)
  have z2 := fZ ((P.zip Q).take 2)
  have r1 := rowsTD_isF P
  have r2 := rowsTD_isF Q
  have r3 := blksTD_isF P
  have r4 := blksTD_isF Q
  have hr3 := itR1_nat (i := 3) 3 rfl (by decide)
  have em : [P, Q, R].map picTD = [.tup [.lst false (rowsTD P), .lst false (blksTD P)], .tup [.lst false (rowsTD Q), .lst false (blksTD Q)], picTD R] := rfl
  have fpr := picTD_isF R
  unfold lS at e3
  rw [em] at e2 e3 fp
  unfold L_law_4
  generalize ((P.zip Q).take 2).map (fun z => D.tup [rowD (rcells z.1), rowD (rcells z.2), .lst false (bsD (z.1.map (·.1))), .lst false (bsD (z.2.map (·.1)))]) = ZZ at *
  generalize (P.zip Q).map (fun z => D.tup [rowD (rcells z.1), rowD (rcells z.2), .lst false (bsD (z.1.map (·.1))), .lst false (bsD (z.2.map (·.1)))]) = ZY at *
  generalize rowsTD P = X1 at *
  generalize rowsTD Q = X2 at *
  generalize blksTD P = X3 at *
  generalize blksTD Q = X4 at *
  generalize picTD R = X5 at *
  generalize shD sh = X6 at *
  simp [-itR1, D.isF, isFL, D.pl, plL, D.dep, depL, eqv, eqvL, atP_0, atP_1, atP_2, atP_3, isFL_app, e1, e2, e3, e4, fs, fp, ez, ec, z1, z2, r1, r2, r3, r4, hr3, lstsD]
theorem law_holds : LawHolds := fun ns _ => by
  obtain ⟨B, ok, e⟩ := bag_ok ns
  obtain ⟨B1, ok1, t1⟩ := law_turn B ok (.vw (.xl (ns.map .int))) 0
  obtain ⟨B2, ok2, t2⟩ := law_turn B1 ok1 (.vw (.xl (ns.map .int))) 1
  have l : forP (.nm 2) [2, 3, 4, 5, 6, 7, 8, 9, 10, 11, 12, 13, 14, 15] L_law_4 ((List.range 2).map fun (k : Nat) => D.int (k : Int)) [.vw (.xl (ns.map .int)), .ow B.d, .no, .no, .no, .no, .no, .no, .no, .no, .no, .no, .no, .no, .no, .no] =
      some (.nx, [.vw (.xl (ns.map .int)), .ow B2.d, .no, .no, .no, .no, .no, .no, .no, .no, .no, .no, .no, .no, .no, .no]) := by
    show forP (.nm 2) _ L_law_4 [.int 0, .int 1] _ = _
    rw [forP_nx t1, forP_nx t2]
    rfl
  have hr2 := itR1_nat (i := 2) 2 rfl (by decide)
  unfold f_law b_law
  generalize ns.map D.int = N at *
  simp [-itR1, e, l, hr2, D.isF, isFL, D.pl, plL, D.dep, depL, eqv, eqvL, atP_0, atP_1, atP_2, atP_3, isFL_app]
end Pv

namespace Pv
open PySem PyProof.Rows L2
/-! ### the text -/
def topS (i : Nat) : Stmt := PySem.Challenge.pw_outweave_k80_whole_rows_of_blocks_behind.main.body.getD i (.Pass ⟨0, 0, 0, 0⟩)
abbrev s_law_bag : Stmt := (topS 20)
abbrev N_law_bag : List Str := ["script", "cell"]
abbrev P_law_bag : List Str := ["script"]
abbrev s_law_take : Stmt := (topS 21)
abbrev N_law_take : List Str := ["bag", "many", "cell", "mix", "digit", "first", "second"]
abbrev P_law_take : List Str := ["bag", "many"]
abbrev s_law_shape : Stmt := (topS 25)
abbrev N_law_shape : List Str := ["bag", "blocks", "room", "turn", "many", "one"]
abbrev P_law_shape : List Str := ["bag"]
abbrev s_law_one : Stmt := (topS 22)
abbrev N_law_one : List Str := ["bag", "things"]
abbrev P_law_one : List Str := ["bag", "things"]
abbrev s_law_block_cells : Stmt := (topS 24)
abbrev N_law_block_cells : List Str := ["bag", "many", "found", "turn", "sign", "ink", "ground"]
abbrev P_law_block_cells : List Str := ["bag", "many"]
abbrev s_law_rows_of : Stmt := (topS 26)
abbrev N_law_rows_of : List Str := ["bag", "shape", "walls", "blocks", "row", "many", "gap", "block", "wall"]
abbrev P_law_rows_of : List Str := ["bag", "shape", "walls"]
abbrev s_law_pictures : Stmt := (topS 29)
abbrev N_law_pictures : List Str := ["bag", "shape", "high", "found", "walls", "many", "gap", "row", "turn", "rows", "some", "blocks"]
abbrev P_law_pictures : List Str := ["bag", "shape"]
abbrev s_Change_nodes_at : Stmt := (inClass (topS 14) 3)
abbrev N_Change_nodes_at : List Str := ["self", "at"]
abbrev P_Change_nodes_at : List Str := ["self", "at"]
abbrev s_Change_moves_from : Stmt := (inClass (topS 14) 4)
abbrev N_Change_moves_from : List Str := ["self", "node", "at", "state", "col", "size", "found"]
abbrev P_Change_moves_from : List Str := ["self", "node"]
abbrev s_cheapest : Stmt := (topS 2)
abbrev N_cheapest : List Str := ["trail", "prices", "node", "found", "cost", "name", "beyond", "rest"]
abbrev P_cheapest : List Str := ["trail", "prices", "node"]
abbrev s_settle : Stmt := (topS 3)
abbrev N_settle : List Str := ["trail", "prices", "here", "falls", "node", "found"]
abbrev P_settle : List Str := ["trail", "prices", "here"]
abbrev s_Change_last_at : Stmt := (inClass (topS 14) 2)
abbrev N_Change_last_at : List Str := ["self"]
abbrev P_Change_last_at : List Str := ["self"]
abbrev s_Change_is_end : Stmt := (inClass (topS 14) 5)
abbrev N_Change_is_end : List Str := ["self", "node"]
abbrev P_Change_is_end : List Str := ["self", "node"]
abbrev s_priced : Stmt := (topS 4)
abbrev N_priced : List Str := ["trail", "prices", "back", "here", "node"]
abbrev P_priced : List Str := ["trail"]
abbrev s_Change_first_node : Stmt := (inClass (topS 14) 1)
abbrev N_Change_first_node : List Str := ["self"]
abbrev P_Change_first_node : List Str := ["self"]
abbrev s_first_least : Stmt := (topS 5)
abbrev N_first_least : List Str := ["trail", "prices", "node", "cost", "name", "beyond"]
abbrev P_first_least : List Str := ["trail", "prices", "node"]
abbrev s_way_of : Stmt := (topS 6)
abbrev N_way_of : List Str := ["trail", "prices", "node", "names", "name"]
abbrev P_way_of : List Str := ["trail"]
abbrev s_spots_of : Stmt := (topS 13)
abbrev N_spots_of : List Str := ["row", "found", "col", "cell"]
abbrev P_spots_of : List Str := ["row"]
abbrev s_Change_init : Stmt := (inClass (topS 14) 0)
abbrev N_Change_init : List Str := ["self", "one", "other"]
abbrev P_Change_init : List Str := ["self", "one", "other"]
abbrev s_row_writes : Stmt := (topS 15)
abbrev N_row_writes : List Str := ["row", "one", "other", "found", "cost", "names", "col", "size", "name", "cells", "last"]
abbrev P_row_writes : List Str := ["row", "one", "other"]
abbrev s_patch : Stmt := (topS 16)
abbrev N_patch : List Str := ["one", "other", "found", "row"]
abbrev P_patch : List Str := ["one", "other"]
abbrev s_law_least : Stmt := (topS 23)
abbrev N_law_least : List Str := ["one", "other", "rest", "going", "col", "size", "same", "later"]
abbrev P_law_least : List Str := ["one", "other"]
abbrev s_all_nodes : Stmt := (topS 7)
abbrev N_all_nodes : List Str := ["trail", "found", "at"]
abbrev P_all_nodes : List Str := ["trail"]
abbrev s_fair_at : Stmt := (topS 9)
abbrev N_fair_at : List Str := ["trail", "prices", "node", "price", "cost", "name", "beyond", "rest"]
abbrev P_fair_at : List Str := ["trail", "prices", "node"]
abbrev s_is_price : Stmt := (topS 8)
abbrev N_is_price : List Str := ["thing"]
abbrev P_is_price : List Str := ["thing"]
abbrev s_fair : Stmt := (topS 10)
abbrev N_fair : List Str := ["trail", "prices", "nodes", "node"]
abbrev P_fair : List Str := ["trail", "prices"]
abbrev s_law_row_priced : Stmt := (topS 27)
abbrev N_law_row_priced : List Str := ["row", "other", "blocks", "others", "shape", "trail", "costs", "one", "two", "prices", "cells", "at", "many", "gap", "letters", "cell"]
abbrev P_law_row_priced : List Str := ["row", "other", "blocks", "others", "shape"]
abbrev s_cost_of : Stmt := (topS 18)
abbrev N_cost_of : List Str := ["writes", "row", "col", "cells"]
abbrev P_cost_of : List Str := ["writes"]
abbrev s_law_sums : Stmt := (topS 28)
abbrev N_law_sums : List Str := ["pictures", "one", "two", "found", "mine", "its", "block", "other"]
abbrev P_law_sums : List Str := ["pictures", "one", "two"]
abbrev s_patched : Stmt := (topS 17)
abbrev N_patched : List Str := ["picture", "writes", "found", "row", "col", "cells", "here"]
abbrev P_patched : List Str := ["picture", "writes"]
abbrev s_law : Stmt := (topS 30)
abbrev N_law : List Str := ["script", "bag", "turn", "shape", "pictures", "one", "two", "writes", "rows", "blocks", "others", "its", "row", "other", "mine", "own"]
abbrev P_law : List Str := ["script"]
structure Ads where
  f_law_bag : Addr
  d_law_bag : FuncData
  f_law_take : Addr
  d_law_take : FuncData
  f_law_shape : Addr
  d_law_shape : FuncData
  f_law_one : Addr
  d_law_one : FuncData
  f_law_block_cells : Addr
  d_law_block_cells : FuncData
  f_law_rows_of : Addr
  d_law_rows_of : FuncData
  f_law_pictures : Addr
  d_law_pictures : FuncData
  f_Change_nodes_at : Addr
  d_Change_nodes_at : FuncData
  f_Change_moves_from : Addr
  d_Change_moves_from : FuncData
  f_cheapest : Addr
  d_cheapest : FuncData
  f_settle : Addr
  d_settle : FuncData
  f_Change_last_at : Addr
  d_Change_last_at : FuncData
  f_Change_is_end : Addr
  d_Change_is_end : FuncData
  f_priced : Addr
  d_priced : FuncData
  f_Change_first_node : Addr
  d_Change_first_node : FuncData
  f_first_least : Addr
  d_first_least : FuncData
  f_way_of : Addr
  d_way_of : FuncData
  f_spots_of : Addr
  d_spots_of : FuncData
  f_Change_init : Addr
  d_Change_init : FuncData
  f_row_writes : Addr
  d_row_writes : FuncData
  f_patch : Addr
  d_patch : FuncData
  f_law_least : Addr
  d_law_least : FuncData
  f_all_nodes : Addr
  d_all_nodes : FuncData
  f_fair_at : Addr
  d_fair_at : FuncData
  f_is_price : Addr
  d_is_price : FuncData
  f_fair : Addr
  d_fair : FuncData
  f_law_row_priced : Addr
  d_law_row_priced : FuncData
  f_cost_of : Addr
  d_cost_of : FuncData
  f_law_sums : Addr
  d_law_sums : FuncData
  f_patched : Addr
  d_patched : FuncData
  f_law : Addr
  d_law : FuncData
  c_Change : Addr
  t_BEGIN : Tok
def ctOf (A : Ads) (c : Nat) : Option Addr := match c with
  | 0 => some A.c_Change
  | _ => none
abbrev cnOf (K : PySem.W.Frag) (A : Ads) : Cn := ⟨K, ctOf A⟩
structure Txt (K : PySem.W.Frag) (mg : Str → Option Value) (A : Ads) : Prop where
  F_law_bag : Fun K "_law_bag" "_law_bag" s_law_bag A.f_law_bag A.d_law_bag
  b_law_bag : Binds K A.d_law_bag P_law_bag []
  g_law_bag : mg "_law_bag" = some (.ref A.f_law_bag)
  F_law_take : Fun K "_law_take" "_law_take" s_law_take A.f_law_take A.d_law_take
  b_law_take : Binds K A.d_law_take P_law_take []
  g_law_take : mg "_law_take" = some (.ref A.f_law_take)
  F_law_shape : Fun K "_law_shape" "_law_shape" s_law_shape A.f_law_shape A.d_law_shape
  b_law_shape : Binds K A.d_law_shape P_law_shape []
  g_law_shape : mg "_law_shape" = some (.ref A.f_law_shape)
  F_law_one : Fun K "_law_one" "_law_one" s_law_one A.f_law_one A.d_law_one
  b_law_one : Binds K A.d_law_one P_law_one []
  g_law_one : mg "_law_one" = some (.ref A.f_law_one)
  F_law_block_cells : Fun K "_law_block_cells" "_law_block_cells" s_law_block_cells A.f_law_block_cells A.d_law_block_cells
  b_law_block_cells : Binds K A.d_law_block_cells P_law_block_cells []
  g_law_block_cells : mg "_law_block_cells" = some (.ref A.f_law_block_cells)
  F_law_rows_of : Fun K "_law_rows_of" "_law_rows_of" s_law_rows_of A.f_law_rows_of A.d_law_rows_of
  b_law_rows_of : Binds K A.d_law_rows_of P_law_rows_of []
  g_law_rows_of : mg "_law_rows_of" = some (.ref A.f_law_rows_of)
  F_law_pictures : Fun K "_law_pictures" "_law_pictures" s_law_pictures A.f_law_pictures A.d_law_pictures
  b_law_pictures : Binds K A.d_law_pictures P_law_pictures []
  g_law_pictures : mg "_law_pictures" = some (.ref A.f_law_pictures)
  F_Change_nodes_at : Fun K "nodes_at" "Change.nodes_at" s_Change_nodes_at A.f_Change_nodes_at A.d_Change_nodes_at
  b_Change_nodes_at : Binds K A.d_Change_nodes_at P_Change_nodes_at []
  m_Change_nodes_at : Meth K A.c_Change "nodes_at" A.f_Change_nodes_at
  F_Change_moves_from : Fun K "moves_from" "Change.moves_from" s_Change_moves_from A.f_Change_moves_from A.d_Change_moves_from
  b_Change_moves_from : Binds K A.d_Change_moves_from P_Change_moves_from []
  m_Change_moves_from : Meth K A.c_Change "moves_from" A.f_Change_moves_from
  F_cheapest : Fun K "cheapest" "cheapest" s_cheapest A.f_cheapest A.d_cheapest
  b_cheapest : Binds K A.d_cheapest P_cheapest []
  g_cheapest : mg "cheapest" = some (.ref A.f_cheapest)
  F_settle : Fun K "settle" "settle" s_settle A.f_settle A.d_settle
  b_settle : Binds K A.d_settle P_settle []
  g_settle : mg "settle" = some (.ref A.f_settle)
  F_Change_last_at : Fun K "last_at" "Change.last_at" s_Change_last_at A.f_Change_last_at A.d_Change_last_at
  b_Change_last_at : Binds K A.d_Change_last_at P_Change_last_at []
  m_Change_last_at : Meth K A.c_Change "last_at" A.f_Change_last_at
  F_Change_is_end : Fun K "is_end" "Change.is_end" s_Change_is_end A.f_Change_is_end A.d_Change_is_end
  b_Change_is_end : Binds K A.d_Change_is_end P_Change_is_end []
  m_Change_is_end : Meth K A.c_Change "is_end" A.f_Change_is_end
  F_priced : Fun K "priced" "priced" s_priced A.f_priced A.d_priced
  b_priced : Binds K A.d_priced P_priced []
  g_priced : mg "priced" = some (.ref A.f_priced)
  F_Change_first_node : Fun K "first_node" "Change.first_node" s_Change_first_node A.f_Change_first_node A.d_Change_first_node
  b_Change_first_node : Binds K A.d_Change_first_node P_Change_first_node []
  m_Change_first_node : Meth K A.c_Change "first_node" A.f_Change_first_node
  F_first_least : Fun K "first_least" "first_least" s_first_least A.f_first_least A.d_first_least
  b_first_least : Binds K A.d_first_least P_first_least []
  g_first_least : mg "first_least" = some (.ref A.f_first_least)
  F_way_of : Fun K "way_of" "way_of" s_way_of A.f_way_of A.d_way_of
  b_way_of : Binds K A.d_way_of P_way_of []
  g_way_of : mg "way_of" = some (.ref A.f_way_of)
  F_spots_of : Fun K "spots_of" "spots_of" s_spots_of A.f_spots_of A.d_spots_of
  b_spots_of : Binds K A.d_spots_of P_spots_of []
  g_spots_of : mg "spots_of" = some (.ref A.f_spots_of)
  F_Change_init : Fun K "__init__" "Change.__init__" s_Change_init A.f_Change_init A.d_Change_init
  b_Change_init : Binds K A.d_Change_init P_Change_init []
  mk_Change : Mk K A.c_Change A.f_Change_init
  F_row_writes : Fun K "row_writes" "row_writes" s_row_writes A.f_row_writes A.d_row_writes
  b_row_writes : Binds K A.d_row_writes P_row_writes []
  g_row_writes : mg "row_writes" = some (.ref A.f_row_writes)
  F_patch : Fun K "patch" "patch" s_patch A.f_patch A.d_patch
  b_patch : Binds K A.d_patch P_patch []
  g_patch : mg "patch" = some (.ref A.f_patch)
  F_law_least : Fun K "_law_least" "_law_least" s_law_least A.f_law_least A.d_law_least
  b_law_least : Binds K A.d_law_least P_law_least []
  g_law_least : mg "_law_least" = some (.ref A.f_law_least)
  F_all_nodes : Fun K "all_nodes" "all_nodes" s_all_nodes A.f_all_nodes A.d_all_nodes
  b_all_nodes : Binds K A.d_all_nodes P_all_nodes []
  g_all_nodes : mg "all_nodes" = some (.ref A.f_all_nodes)
  F_fair_at : Fun K "fair_at" "fair_at" s_fair_at A.f_fair_at A.d_fair_at
  b_fair_at : Binds K A.d_fair_at P_fair_at []
  g_fair_at : mg "fair_at" = some (.ref A.f_fair_at)
  F_is_price : Fun K "is_price" "is_price" s_is_price A.f_is_price A.d_is_price
  b_is_price : Binds K A.d_is_price P_is_price []
  g_is_price : mg "is_price" = some (.ref A.f_is_price)
  F_fair : Fun K "fair" "fair" s_fair A.f_fair A.d_fair
  b_fair : Binds K A.d_fair P_fair []
  g_fair : mg "fair" = some (.ref A.f_fair)
  F_law_row_priced : Fun K "_law_row_priced" "_law_row_priced" s_law_row_priced A.f_law_row_priced A.d_law_row_priced
  b_law_row_priced : Binds K A.d_law_row_priced P_law_row_priced []
  g_law_row_priced : mg "_law_row_priced" = some (.ref A.f_law_row_priced)
  F_cost_of : Fun K "cost_of" "cost_of" s_cost_of A.f_cost_of A.d_cost_of
  b_cost_of : Binds K A.d_cost_of P_cost_of []
  g_cost_of : mg "cost_of" = some (.ref A.f_cost_of)
  F_law_sums : Fun K "_law_sums" "_law_sums" s_law_sums A.f_law_sums A.d_law_sums
  b_law_sums : Binds K A.d_law_sums P_law_sums []
  g_law_sums : mg "_law_sums" = some (.ref A.f_law_sums)
  F_patched : Fun K "patched" "patched" s_patched A.f_patched A.d_patched
  b_patched : Binds K A.d_patched P_patched []
  g_patched : mg "patched" = some (.ref A.f_patched)
  F_law : Fun K "law" "law" s_law A.f_law A.d_law
  b_law : Binds K A.d_law P_law []
  g_law : mg "law" = some (.ref A.f_law)
  cl_Change : Cls K A.c_Change
  k_Change : (cnOf K A).ct 0 = some A.c_Change
  g_Change : mg "Change" = some (.ref A.c_Change)
  a_before : ClsF (cnOf K A) "before"
  a_behind : ClsF (cnOf K A) "behind"
  a_spots : ClsF (cnOf K A) "spots"
  z_abs : mg "abs" = none
  z_bool : mg "bool" = none
  z_dict : mg "dict" = none
  z_enumerate : mg "enumerate" = none
  z_int : mg "int" = none
  z_isinstance : mg "isinstance" = none
  z_len : mg "len" = none
  z_list : mg "list" = none
  z_min : mg "min" = none
  z_range : mg "range" = none
  z_sum : mg "sum" = none
  z_zip : mg "zip" = none
  c_BEGIN : mg "BEGIN" = some (.int 4 A.t_BEGIN)
section
variable {P : Program} {w : World} {K : PySem.W.Frag} {mg : Str → Option Value} {base : Heap} {A : Ads}
theorem sc_law_bag : FnScope N_law_bag P_law_bag (defScope s_law_bag) := ⟨rfl, rfl, rfl, by decide +kernel, rfl, by decide +kernel, by decide +kernel⟩
theorem ok_law_bag (T : Txt K mg A) : FnOk P w K mg base CX0 1 A.f_law_bag A.d_law_bag P_law_bag (SpQ (cnOf K A) f_law_bag) := by
  refine T.F_law_bag.ok sc_law_bag (fun vs H Q E h => SpQ.len h) (fun cdv A_ outer s H vs Q E hr h => ?_)
  have nd := sc_law_bag.nd
  refine ⟨_, (pss_one (ps_ret (pe_lst (pa_cons pe_int (pa_cons pe_int (pa_cons pe_int (pa_cons (pe_lc (own := [("cell", 1)]) rfl nd (piL K (pe_slice (slK K) (pv 0) po_none (po_some pe_int))) (blkOk_by (N := N_law_bag) (sc := defScope s_law_bag) (own := [("cell", 1)]) (by decide +kernel)) (fun _ _ _ _ _ => (pnm 1 nd)) (fun _ _ _ _ _ => pts_nil) (fun _ _ _ _ _ => (pe_callB call_abs rfl T.z_abs PyProof.Rows.boot_abs (pa_cons (pv 1) pa_nil)))) pa_nil))))))), ?_⟩
  exact run_q (cn := cnOf K A) (body := b_law_bag) ((gd_ret (gd_lstG (gd_consG (GdQ.g (gd_c rfl)) (gd_consG (GdQ.g (gd_c rfl)) (gd_consG (GdQ.g (gd_c rfl)) (gd_consG (gd_comp (own := [1]) (gd_itL (GdQ.g (gd_sl gd_var gd_po0 (gd_po1 (GdQ.v (gd_c rfl)))))) gd_nm gd_yes (GdQ.g (gd_call c_abs (gd_cons gd_var gd_nil))) (by decide)) gd_nilG)))) (by decide)))) h N_law_bag rfl
theorem sc_law_take : FnScope N_law_take P_law_take (defScope s_law_take) := ⟨rfl, rfl, rfl, by decide +kernel, rfl, by decide +kernel, by decide +kernel⟩
theorem ok_law_take (T : Txt K mg A) : FnOk P w K mg base CX0 1 A.f_law_take A.d_law_take P_law_take (SpG (cnOf K A) [true, false] f_law_take) := by
  refine T.F_law_take.ok sc_law_take (fun vs H Q E h => SpG.len h) (fun cdv A_ outer s H vs Q E hr h => ?_)
  have nd := sc_law_take.nd
  refine ⟨_, (pss_cons (ps_if (pt_cmpR (eqK K hr.units) (pe_ix (ixK K) (pv 0) pe_int (fun _ _ => rfl)) pe_int (nomark _))
 (pss_cons (pst 2 nd (pe_ix (ixK K) (pe_op (addK K) (pe_slice (slK K) (pe_ix (ixK K) (pv 0) pe_int (fun _ _ => rfl)) (po_some (pe_ix (ixK K) (pv 0) pe_int (fun _ _ => rfl))) po_none) (pe_lst (pa_cons pe_int pa_nil))) pe_int (fun _ _ => rfl)))
  (pss_cons (ps_augS (pv 0) pe_int get_list pe_int ip_add set_list)
  (pss_cons (ps_asg (pe_op opMulA (pv 2) (pe_callTy call_int1 rfl T.z_int PyProof.Rows.boot_int (pa_cons (pe_cmpR op_ge (pv 2) (pe_op op_pow pe_int pe_int) (nomark _)) pa_nil))) (pg_sub (pv 0) pe_int set_list))
  (pss_cons (pst 3 nd (pe_op (addK K) (pe_op opMulA (pe_ix (ixK K) (pv 0) pe_int (fun _ _ => rfl)) pe_int) (pe_op op_mod (pe_callTy call_int1 rfl T.z_int PyProof.Rows.boot_int (pa_cons (pv 2) pa_nil)) pe_int)))
  (pss_one (ps_asg (pe_op op_mod (pe_callTy call_int1 rfl T.z_int PyProof.Rows.boot_int (pa_cons (pe_op (addK K) (pv 3) (pe_op opMulA pe_int (pe_ix (ixK K) (pv 0) pe_int (fun _ _ => rfl)))) pa_nil)) pe_int) (pg_sub (pv 0) pe_int set_list)))))))
 pss_nil)
  (pss_cons (ps_if (pt_cmpR op_gt (pe_ix (ixK K) (pv 0) pe_int (fun _ _ => rfl)) pe_int (nomark _))
 (pss_cons (pst 4 nd (pe_op op_mod (pe_callTy call_int1 rfl T.z_int PyProof.Rows.boot_int (pa_cons (pe_ix (ixK K) (pv 0) pe_int (fun _ _ => rfl)) pa_nil)) (pv 1)))
  (pss_cons (ps_asg (pe_op op_fdiv (pe_callTy call_int1 rfl T.z_int PyProof.Rows.boot_int (pa_cons (pe_ix (ixK K) (pv 0) pe_int (fun _ _ => rfl)) pa_nil)) (pv 1)) (pg_sub (pv 0) pe_int set_list))
  (pss_one (ps_ret (pv 4)))))
 pss_nil)
  (pss_cons (pst 5 nd (pe_op op_mod (pe_callTy call_int1 rfl T.z_int PyProof.Rows.boot_int (pa_cons (pe_op opMulA (pe_op (addK K) (pe_ix (ixK K) (pv 0) pe_int (fun _ _ => rfl)) pe_int) pe_int) pa_nil)) pe_int))
  (pss_cons (pst 6 nd (pe_op op_mod (pe_callTy call_int1 rfl T.z_int PyProof.Rows.boot_int (pa_cons (pe_op opMulA (pv 5) (pv 5)) pa_nil)) pe_int))
  (pss_one (ps_ret (pe_op op_mod (pe_callTy call_int1 rfl T.z_int PyProof.Rows.boot_int (pa_cons (pe_op op_fdiv (pe_op op_mod (pe_callTy call_int1 rfl T.z_int PyProof.Rows.boot_int (pa_cons (pe_op opMulA (pv 6) pe_int) pa_nil)) pe_int) pe_int) pa_nil)) (pv 1)))))))), ?_⟩
  exact run_g (cn := cnOf K A) (body := b_law_take) ((gd_seq (gd_clr (gd_ifS (GdT.g (gd_test (GdQ.v (gd_op2 o2_eq (gd_op2v o2_ix gd_var (GdQ.v (gd_c rfl))) (GdQ.v (gd_c rfl))))))
 (gd_seq (gd_asg (GdQ.g (GdV.q (gd_op2v o2_ix (GdQ.v (gd_op2 o2_add (GdQ.v (gd_sl (gd_op2v o2_ix gd_var (GdQ.v (gd_c rfl))) (gd_po1 (gd_op2v o2_ix gd_var (GdQ.v (gd_c rfl)))) gd_po0)) (GdQ.v (gd_lst (gd_cons (GdQ.v (gd_c rfl)) gd_nil) (by decide))))) (GdQ.v (gd_c rfl))))) gd_nm)
  (gd_seq (gd_augI (GdQ.v (gd_c rfl)) (GdQ.g (gd_c rfl)))
  (gd_seq (gd_set (GdQ.v (gd_c rfl)) (GdQ.g (gd_op2 o2_mulA gd_var (GdQ.v (gd_call c_int (gd_cons (GdQ.v (gd_op2 o2_ge gd_var (GdQ.v (gd_op2 o2_pow (GdQ.v (gd_c rfl)) (GdQ.v (gd_c rfl)))))) gd_nil))))))
  (gd_seq (gd_clr (gd_asg (GdQ.g (gd_op2 o2_add (GdQ.v (gd_op2 o2_mulA (gd_op2v o2_ix gd_var (GdQ.v (gd_c rfl))) (GdQ.v (gd_c rfl)))) (GdQ.v (gd_op2 o2_mod (GdQ.v (gd_call c_int (gd_cons gd_var gd_nil))) (GdQ.v (gd_c rfl)))))) gd_nm))
  (gd_clr (gd_set (GdQ.v (gd_c rfl)) (GdQ.g (gd_op2 o2_mod (GdQ.v (gd_call c_int (gd_cons (GdQ.v (gd_op2 o2_add gd_var (GdQ.v (gd_op2 o2_mulA (GdQ.v (gd_c rfl)) (gd_op2v o2_ix gd_var (GdQ.v (gd_c rfl))))))) gd_nil))) (GdQ.v (gd_c rfl))))))))))
 gd_next))
  (gd_seq (gd_clr (gd_ifS (GdT.g (gd_test (GdQ.v (gd_op2 o2_gt (gd_op2v o2_ix gd_var (GdQ.v (gd_c rfl))) (GdQ.v (gd_c rfl))))))
 (gd_seq (gd_asg (GdQ.g (gd_op2 o2_mod (GdQ.v (gd_call c_int (gd_cons (gd_op2v o2_ix gd_var (GdQ.v (gd_c rfl))) gd_nil))) gd_var)) gd_nm)
  (gd_seq (gd_set (GdQ.v (gd_c rfl)) (GdQ.g (gd_op2 o2_div (GdQ.v (gd_call c_int (gd_cons (gd_op2v o2_ix gd_var (GdQ.v (gd_c rfl))) gd_nil))) gd_var)))
  (gd_ret gd_mv)))
 gd_next))
  (gd_seq (gd_asg (GdQ.g (gd_op2 o2_mod (GdQ.v (gd_call c_int (gd_cons (GdQ.v (gd_op2 o2_mulA (GdQ.v (gd_op2 o2_add (gd_op2v o2_ix gd_var (GdQ.v (gd_c rfl))) (GdQ.v (gd_c rfl)))) (GdQ.v (gd_c rfl)))) gd_nil))) (GdQ.v (gd_c rfl)))) gd_nm)
  (gd_seq (gd_clr (gd_asg (GdQ.g (gd_op2 o2_mod (GdQ.v (gd_call c_int (gd_cons (GdQ.v (gd_op2 o2_mulA gd_var gd_var)) gd_nil))) (GdQ.v (gd_c rfl)))) gd_nm))
  (gd_ret (GdQ.g (gd_op2 o2_mod (GdQ.v (gd_call c_int (gd_cons (GdQ.v (gd_op2 o2_div (GdQ.v (gd_op2 o2_mod (GdQ.v (gd_call c_int (gd_cons (GdQ.v (gd_op2 o2_mulA gd_var (GdQ.v (gd_c rfl)))) gd_nil))) (GdQ.v (gd_c rfl)))) (GdQ.v (gd_c rfl)))) gd_nil))) gd_var)))))))) h N_law_take rfl
theorem sc_law_shape : FnScope N_law_shape P_law_shape (defScope s_law_shape) := ⟨rfl, rfl, rfl, by decide +kernel, rfl, by decide +kernel, by decide +kernel⟩
theorem ok_law_shape (T : Txt K mg A) : FnOk P w K mg base CX0 2 A.f_law_shape A.d_law_shape P_law_shape (SpG (cnOf K A) [true] f_law_shape) := by
  refine T.F_law_shape.ok sc_law_shape (fun vs H Q E h => SpG.len h) (fun cdv A_ outer s H vs Q E hr h => ?_)
  have nd := sc_law_shape.nd
  refine ⟨_, (pss_cons (ps_par (i := 1) (j := 2) rfl nd rfl rfl (by decide) rfl rfl (pa_cons (pe_lst pa_nil) (pa_cons pe_int pa_nil)) rfl)
  (pss_cons (ps_for PassesOwn.never rfl (pi_range1 rfl T.z_range (pa_cons (pe_op (addK K) pe_int (pe_call (ok_law_take T) hr rfl T.g_law_take T.F_law_take.kp T.b_law_take .nil pass0 (pa_cons (pv 0) (pa_cons pe_int pa_nil)))) pa_nil)) (pnm 3 nd)
 (pss_cons (pst 4 nd (pe_op (addK K) pe_int (pe_call (ok_law_take T) hr rfl T.g_law_take T.F_law_take.kp T.b_law_take .nil pass0 (pa_cons (pv 0) (pa_cons pe_int pa_nil)))))
  (pss_one (ps_if (pt_cmpR op_le (pe_op (addK K) (pe_op (addK K) (pe_callB (sumAK K) rfl T.z_sum PyProof.Rows.boot_sum (pa_cons (pe_lc (own := [("one", 5)]) rfl nd (piL K (pv 1)) (blkOk_by (N := N_law_shape) (sc := defScope s_law_shape) (own := [("one", 5)]) (by decide +kernel)) (fun _ _ _ _ _ => (pnm 5 nd)) (fun _ _ _ _ _ => pts_nil) (fun _ _ _ _ _ => (pe_callB (sumAK K) rfl T.z_sum PyProof.Rows.boot_sum (pa_cons (pv 5) pa_nil)))) pa_nil)) (pv 4)) pe_int) (pv 2) (nomark _))
 (pss_one (ps_expr (pe_bm PySem.F.plainAttrs_list PySem.F.slot_list_append PySem.F.type_list_append mt_append (pv 1) (pa_cons (pe_tup (pa_cons (pv 4) (pa_cons (pe_op (addK K) pe_int (pe_call (ok_law_take T) hr rfl T.g_law_take T.F_law_take.kp T.b_law_take .nil pass0 (pa_cons (pv 0) (pa_cons pe_int pa_nil)))) pa_nil))) pa_nil))))
 pss_nil))))
  (pss_one (ps_ret (pv 1))))), ?_⟩
  exact run_g (cn := cnOf K A) (body := b_law_shape) ((gd_seq (gd_par (GdQ.g (gd_lst gd_nil (by decide))) (GdQ.g (gd_c rfl)))
  (gd_seq (gd_clr (gd_for (gd_itR1 (gd_op2g o2_add (GdQ.g (gd_c rfl)) (gd_gfn (ar_slot (.inl rfl) (ar_ex (GdQ.g (gd_c rfl)) ar_nil))))) gd_nm
 (gd_seq (gd_clr (gd_asg (gd_op2g o2_add (GdQ.g (gd_c rfl)) (gd_gfn (ar_slot (.inl rfl) (ar_ex (GdQ.g (gd_c rfl)) ar_nil)))) gd_nm))
  (gd_clr (gd_ifS (gd_testG (gd_op2g o2_le (gd_op2g o2_add (gd_op2g o2_add (gd_callG c_sumA (gd_consG (gd_compV (own := [5]) gd_nm gd_yes (GdQ.g (gd_call c_sumA (gd_cons gd_var gd_nil))) (by decide)) gd_nilG)) (GdQ.g (GdV.q gd_var))) (GdQ.g (gd_c rfl))) (GdQ.g (GdV.q gd_var))))
 (gd_clr (gd_app (gd_tupG (gd_consG (GdQ.g (GdV.q gd_var)) (gd_consG (gd_op2g o2_add (GdQ.g (gd_c rfl)) (gd_gfn (ar_slot (.inl rfl) (ar_ex (GdQ.g (gd_c rfl)) ar_nil)))) gd_nilG)) (by decide))))
 gd_next)))))
  (gd_ret gd_mv)))) h N_law_shape rfl
theorem sc_law_one : FnScope N_law_one P_law_one (defScope s_law_one) := ⟨rfl, rfl, rfl, by decide +kernel, rfl, by decide +kernel, by decide +kernel⟩
theorem ok_law_one (T : Txt K mg A) : FnOk P w K mg base CX0 2 A.f_law_one A.d_law_one P_law_one (SpG (cnOf K A) [true, false] f_law_one) := by
  refine T.F_law_one.ok sc_law_one (fun vs H Q E h => SpG.len h) (fun cdv A_ outer s H vs Q E hr h => ?_)
  have nd := sc_law_one.nd
  refine ⟨_, (pss_one (ps_ret (pe_ix (ixK K) (pv 1) (pe_call (ok_law_take T) hr rfl T.g_law_take T.F_law_take.kp T.b_law_take .nil pass0 (pa_cons (pv 0) (pa_cons (pe_callB (lenK K) rfl T.z_len PySem.boot_len (pa_cons (pv 1) pa_nil)) pa_nil))) (fun _ _ => rfl)))), ?_⟩
  exact run_g (cn := cnOf K A) (body := b_law_one) ((gd_ret (gd_op2s o2_ixF (gd_gfn (ar_slot (.inl rfl) (ar_ex (GdQ.g (gd_call c_len (gd_cons gd_var gd_nil))) ar_nil)))))) h N_law_one rfl
theorem sc_law_block_cells : FnScope N_law_block_cells P_law_block_cells (defScope s_law_block_cells) := ⟨rfl, rfl, rfl, by decide +kernel, rfl, by decide +kernel, by decide +kernel⟩
theorem ok_law_block_cells (T : Txt K mg A) : FnOk P w K mg base CX0 3 A.f_law_block_cells A.d_law_block_cells P_law_block_cells (SpG (cnOf K A) [true, false] f_law_block_cells) := by
  refine T.F_law_block_cells.ok sc_law_block_cells (fun vs H Q E h => SpG.len h) (fun cdv A_ outer s H vs Q E hr h => ?_)
  have nd := sc_law_block_cells.nd
  refine ⟨_, (pss_cons (pst 2 nd (pe_lst pa_nil))
  (pss_cons (ps_for PassesOwn.never rfl (pi_range1 rfl T.z_range (pa_cons (pv 1) pa_nil)) (pnm 3 nd)
 (pss_one (ps_if (pt_cmpR op_lt (pe_callB (lenK K) rfl T.z_len PySem.boot_len (pa_cons (pv 2) pa_nil)) (pv 1) (nomark _))
 (pss_cons (pst 4 nd (pe_call (ok_law_one T) hr rfl T.g_law_one T.F_law_one.kp T.b_law_one .nil pass0 (pa_cons (pv 0) (pa_cons (pe_lst (pa_cons pe_str (pa_cons pe_str (pa_cons pe_str (pa_cons pe_str (pa_cons pe_str pa_nil)))))) pa_nil))))
  (pss_cons (pst 4 nd (pe_ifExp (PW.pt (pw_and (pt_chain opLeS opLeS pe_str (pv 4) pe_str) (pw_and1 (pt_cmpR op_gt (pe_op (addK K) (pe_callB (lenK K) rfl T.z_len PySem.boot_len (pa_cons (pv 2) pa_nil)) pe_int) (pv 1) (nomark _))))) pe_str (pv 4)))
  (pss_cons (ps_par (i := 5) (j := 6) rfl nd rfl rfl (by decide) rfl rfl (pa_cons (pe_call (ok_law_one T) hr rfl T.g_law_one T.F_law_one.kp T.b_law_one .nil pass0 (pa_cons (pv 0) (pa_cons (pe_lst (pa_cons pe_str (pa_cons pe_str pa_nil))) pa_nil))) (pa_cons (pe_call (ok_law_one T) hr rfl T.g_law_one T.F_law_one.kp T.b_law_one .nil pass0 (pa_cons (pv 0) (pa_cons (pe_lst (pa_cons pe_str (pa_cons pe_str pa_nil))) pa_nil))) pa_nil)) rfl)
  (pss_cons (ps_expr (pe_bm PySem.F.plainAttrs_list PySem.F.slot_list_append PySem.F.type_list_append mt_append (pv 2) (pa_cons (pe_tup (pa_cons (pv 4) (pa_cons (pe_ifExp (pt_cmpR (eqK K hr.units) (pv 4) pe_str (nomark _)) pe_str (pv 5)) (pa_cons (pv 6) pa_nil)))) pa_nil)))
  (pss_one (ps_if (pt_chain opLeS opLeS pe_str (pv 4) pe_str)
 (pss_one (ps_expr (pe_bm PySem.F.plainAttrs_list PySem.F.slot_list_append PySem.F.type_list_append mt_append (pv 2) (pa_cons (pe_tup (pa_cons pe_str (pa_cons (pv 5) (pa_cons (pv 6) pa_nil)))) pa_nil))))
 pss_nil))))))
 pss_nil)))
  (pss_one (ps_ret (pv 2))))), ?_⟩
  exact run_g (cn := cnOf K A) (body := b_law_block_cells) ((gd_seq (gd_asg (GdQ.g (gd_lst gd_nil (by decide))) gd_nm)
  (gd_seq (gd_clr (gd_for (gd_itR1 (GdQ.g (GdV.q gd_var))) gd_nm
 (gd_clr (gd_ifS (GdT.g (gd_test (GdQ.v (gd_op2 o2_lt (GdQ.v (gd_call c_len (gd_cons gd_var gd_nil))) gd_var))))
 (gd_seq (gd_clr (gd_asg (GdG.fz (gd_gfn (ar_slot (.inl rfl) (ar_ex (GdQ.g (gd_lst (gd_cons (GdQ.v (gd_c rfl)) (gd_cons (GdQ.v (gd_c rfl)) (gd_cons (GdQ.v (gd_c rfl)) (gd_cons (GdQ.v (gd_c rfl)) (gd_cons (GdQ.v (gd_c rfl)) gd_nil))))) (by decide))) ar_nil)))) gd_nm))
  (gd_seq (gd_asg (GdQ.g (gd_if (gd_and (gd_test (GdQ.v (gd_chain o2_leS o2_leS (GdQ.v (gd_c rfl)) gd_var (GdQ.v (gd_c rfl))))) (gd_test (GdQ.v (gd_op2 o2_gt (GdQ.v (gd_op2 o2_add (GdQ.v (gd_call c_len (gd_cons gd_var gd_nil))) (GdQ.v (gd_c rfl)))) gd_var)))) (gd_c rfl) (GdV.q gd_var))) gd_nm)
  (gd_seq (gd_par (GdG.fz (gd_gfn (ar_slot (.inl rfl) (ar_ex (GdQ.g (gd_lst (gd_cons (GdQ.v (gd_c rfl)) (gd_cons (GdQ.v (gd_c rfl)) gd_nil)) (by decide))) ar_nil)))) (GdG.fz (gd_gfn (ar_slot (.inl rfl) (ar_ex (GdQ.g (gd_lst (gd_cons (GdQ.v (gd_c rfl)) (gd_cons (GdQ.v (gd_c rfl)) gd_nil)) (by decide))) ar_nil)))))
  (gd_seq (gd_app (GdQ.g (gd_tup (gd_cons gd_var (gd_cons (GdQ.v (gd_if (gd_test (GdQ.v (gd_op2 o2_eq gd_var (GdQ.v (gd_c rfl))))) (gd_c rfl) (GdV.q gd_var))) (gd_cons gd_var gd_nil))) (by decide))))
  (gd_clr (gd_ifS (GdT.g (gd_test (GdQ.v (gd_chain o2_leS o2_leS (GdQ.v (gd_c rfl)) gd_var (GdQ.v (gd_c rfl))))))
 (gd_clr (gd_app (GdQ.g (gd_tup (gd_cons (GdQ.v (gd_c rfl)) (gd_cons gd_var (gd_cons gd_var gd_nil))) (by decide)))))
 gd_next))))))
 gd_next))))
  (gd_ret gd_mv)))) h N_law_block_cells rfl
theorem sc_law_rows_of : FnScope N_law_rows_of P_law_rows_of (defScope s_law_rows_of) := ⟨rfl, rfl, rfl, by decide +kernel, rfl, by decide +kernel, by decide +kernel⟩
theorem ok_law_rows_of (T : Txt K mg A) : FnOk P w K mg base CX0 4 A.f_law_rows_of A.d_law_rows_of P_law_rows_of (SpG (cnOf K A) [true, false, false] f_law_rows_of) := by
  refine T.F_law_rows_of.ok sc_law_rows_of (fun vs H Q E h => SpG.len h) (fun cdv A_ outer s H vs Q E hr h => ?_)
  have nd := sc_law_rows_of.nd
  refine ⟨_, (pss_cons (ps_par (i := 3) (j := 4) rfl nd rfl rfl (by decide) rfl rfl (pa_cons (pe_lc (own := [("many", 5), ("gap", 6)]) rfl nd (piL K (pv 1)) (blkOk_by (N := N_law_rows_of) (sc := defScope s_law_rows_of) (own := [("many", 5), ("gap", 6)]) (by decide +kernel)) (fun _ _ _ _ _ => (ptup K 2 (pgs_cons (pnm 5 nd) (pgs_cons (pnm 6 nd) pgs_nil)))) (fun _ _ _ _ _ => pts_nil) (fun _ _ _ _ _ => (pe_call (ok_law_block_cells T) hr rfl T.g_law_block_cells T.F_law_block_cells.kp T.b_law_block_cells .nil pass0 (pa_cons (pv 0) (pa_cons (pv 5) pa_nil))))) (pa_cons (pe_lst pa_nil) pa_nil)) rfl)
  (pss_cons (ps_for PassesOwn.never rfl (pi_zip rfl T.z_zip (pa_cons (pv 3) (pa_cons (pv 2) pa_nil))) (ptup K 2 (pgs_cons (pnm 7 nd) (pgs_cons (pnm 8 nd) pgs_nil)))
 (pss_one (pst 4 nd (pe_op (addK K) (pe_op (addK K) (pv 4) (pv 7)) (pv 8)))))
  (pss_one (ps_ret (pe_tup (pa_cons (pv 4) (pa_cons (pv 3) pa_nil))))))), ?_⟩
  exact run_g (cn := cnOf K A) (body := b_law_rows_of) ((gd_seq (gd_clr (gd_par (gd_comp (own := [5, 6]) (gd_itL (GdQ.g (GdV.q gd_var))) (gd_ttp (gd_tcons gd_nm (gd_tcons gd_nm gd_tnil)) rfl) gd_yes (GdG.fz (gd_gfn (ar_slot (.inl rfl) (ar_slot (.inr rfl) ar_nil)))) (by decide)) (GdQ.g (gd_lst gd_nil (by decide)))))
  (gd_seq (gd_clr (gd_for (gd_itZ (GdQ.g (GdV.q gd_var)) (GdQ.g (GdV.q gd_var))) (gd_ttp (gd_tcons gd_nm (gd_tcons gd_nm gd_tnil)) rfl)
 (gd_clr (gd_asg (GdQ.g (gd_op2 o2_add (GdQ.v (gd_op2 o2_add gd_var gd_var)) gd_var)) gd_nm))))
  (gd_ret (GdQ.g (gd_tup (gd_cons gd_var (gd_cons gd_var gd_nil)) (by decide))))))) h N_law_rows_of rfl
theorem sc_law_pictures : FnScope N_law_pictures P_law_pictures (defScope s_law_pictures) := ⟨rfl, rfl, rfl, by decide +kernel, rfl, by decide +kernel, by decide +kernel⟩
theorem ok_law_pictures (T : Txt K mg A) : FnOk P w K mg base CX0 5 A.f_law_pictures A.d_law_pictures P_law_pictures (SpG (cnOf K A) [true, false] f_law_pictures) := by
  refine T.F_law_pictures.ok sc_law_pictures (fun vs H Q E h => SpG.len h) (fun cdv A_ outer s H vs Q E hr h => ?_)
  have nd := sc_law_pictures.nd
  refine ⟨_, (pss_cons (ps_par (i := 2) (j := 3) rfl nd rfl rfl (by decide) rfl rfl (pa_cons (pe_op (addK K) pe_int (pe_call (ok_law_take T) (hr.mono (by decide)) rfl T.g_law_take T.F_law_take.kp T.b_law_take .nil pass0 (pa_cons (pv 0) (pa_cons pe_int pa_nil)))) (pa_cons (pe_lst pa_nil) pa_nil)) rfl)
  (pss_cons (ps_setLc (i := 4) (own := [("row", 7)]) rfl nd rfl rfl (sw_true rfl rfl rfl (by decide +kernel)) (pi_range1 rfl T.z_range (pa_cons (pv 2) pa_nil)) (blkOk_by (N := N_law_pictures) (sc := defScope s_law_pictures) (own := [("row", 7)]) (by decide +kernel)) (fun _ _ _ _ _ => (pnm 7 nd)) (fun _ _ _ _ _ => pts_nil) (fun _ _ _ _ _ => (pe_lc (own := [("many", 5), ("gap", 6)]) rfl nd (piL K (pv 1)) (blkOk_by (N := N_law_pictures) (own := [("many", 5), ("gap", 6)]) (by kernel_rfl)) (fun _ _ _ _ _ => (ptup K 2 (pgs_cons (pnm 5 nd) (pgs_cons (pnm 6 nd) pgs_nil)))) (fun _ _ _ _ _ => pts_nil) (fun _ _ _ _ _ => (pe_call (ok_law_block_cells T) (hr.mono (by decide)) rfl T.g_law_block_cells T.F_law_block_cells.kp T.b_law_block_cells .nil pass0 (pa_cons (pv 0) (pa_cons (pv 6) pa_nil)))))))
  (pss_cons (ps_for PassesOwn.never rfl (pi_range1 rfl T.z_range (pa_cons pe_int pa_nil)) (pnm 8 nd)
 (pss_cons (ps_setLc (i := 9) (own := [("some", 10)]) rfl nd rfl rfl (sw_true rfl rfl rfl (by decide +kernel)) (piL K (pv 4)) (blkOk_by (N := N_law_pictures) (sc := defScope s_law_pictures) (own := [("some", 10)]) (by decide +kernel)) (fun _ _ _ _ _ => (pnm 10 nd)) (fun _ _ _ _ _ => pts_nil) (fun _ _ _ _ _ => (pe_call (ok_law_rows_of T) hr rfl T.g_law_rows_of T.F_law_rows_of.kp T.b_law_rows_of .nil pass0 (pa_cons (pv 0) (pa_cons (pv 1) (pa_cons (pv 10) pa_nil))))))
  (pss_cons (ps_if (PW.pt (pw_and (pt_cmpR op_gt (pv 8) pe_int (nomark _)) (pw_and1 (pt_cmpR (eqK K hr.units) (pe_call (ok_law_take T) (hr.mono (by decide)) rfl T.g_law_take T.F_law_take.kp T.b_law_take .nil pass0 (pa_cons (pv 0) (pa_cons pe_int pa_nil))) pe_int (nomark _)))))
 (pss_one (ps_asg (pe_tup (pa_cons (pe_ix (ixK K) (pe_ix (ixK K) (pe_ix (ixK K) (pv 3) pe_int (fun _ _ => rfl)) pe_int (fun _ _ => rfl)) pe_int (fun _ _ => rfl)) (pa_cons (pe_ix (ixK K) (pe_ix (ixK K) (pe_ix (ixK K) (pv 3) pe_int (fun _ _ => rfl)) pe_int (fun _ _ => rfl)) pe_int (fun _ _ => rfl)) pa_nil))) (pg_sub (pv 9) pe_int set_list)))
 pss_nil)
  (pss_one (ps_expr (pe_bm PySem.F.plainAttrs_list PySem.F.slot_list_append PySem.F.type_list_append mt_append (pv 3) (pa_cons (pe_tup (pa_cons (pe_lc (own := [("row", 7), ("blocks", 11)]) rfl nd (piL K (pv 9)) (blkOk_by (N := N_law_pictures) (sc := defScope s_law_pictures) (own := [("row", 7), ("blocks", 11)]) (by decide +kernel)) (fun _ _ _ _ _ => (ptup K 2 (pgs_cons (pnm 7 nd) (pgs_cons (pnm 11 nd) pgs_nil)))) (fun _ _ _ _ _ => pts_nil) (fun _ _ _ _ _ => (pv 7))) (pa_cons (pe_lc (own := [("row", 7), ("blocks", 11)]) rfl nd (piL K (pv 9)) (blkOk_by (N := N_law_pictures) (sc := defScope s_law_pictures) (own := [("row", 7), ("blocks", 11)]) (by decide +kernel)) (fun _ _ _ _ _ => (ptup K 2 (pgs_cons (pnm 7 nd) (pgs_cons (pnm 11 nd) pgs_nil)))) (fun _ _ _ _ _ => pts_nil) (fun _ _ _ _ _ => (pv 11))) pa_nil))) pa_nil)))))))
  (pss_one (ps_ret (pv 3)))))), ?_⟩
  exact run_g (cn := cnOf K A) (body := b_law_pictures) ((gd_seq (gd_par (gd_op2g o2_add (GdQ.g (gd_c rfl)) (gd_gfn (ar_slot (.inl rfl) (ar_ex (GdQ.g (gd_c rfl)) ar_nil)))) (GdQ.g (gd_lst gd_nil (by decide))))
  (gd_seq (gd_clr (gd_asg (gd_comp (own := [7]) (gd_itR1 (GdQ.g (GdV.q gd_var))) gd_nm gd_yes (gd_comp (own := [5, 6]) (gd_itL (GdQ.g (GdV.q gd_var))) (gd_ttp (gd_tcons gd_nm (gd_tcons gd_nm gd_tnil)) rfl) gd_yes (GdG.fz (gd_gfn (ar_slot (.inl rfl) (ar_slot (.inr rfl) ar_nil)))) (by decide)) (by decide)) gd_nm))
  (gd_seq (gd_clr (gd_for (gd_itR1 (GdQ.g (gd_c rfl))) gd_nm
 (gd_seq (gd_clr (gd_asg (gd_comp (own := [10]) (gd_itL (GdQ.g (GdV.q gd_var))) gd_nm gd_yes (GdG.fz (gd_gfn (ar_slot (.inl rfl) (ar_slot (.inr rfl) (ar_slot (.inr rfl) ar_nil))))) (by decide)) gd_nm))
  (gd_seq (gd_clr (gd_ifS (gd_andG (GdT.g (gd_test (GdQ.v (gd_op2 o2_gt gd_var (GdQ.v (gd_c rfl)))))) (gd_testG (gd_op2g o2_eq (gd_gfn (ar_slot (.inl rfl) (ar_ex (GdQ.g (gd_c rfl)) ar_nil))) (GdQ.g (gd_c rfl)))))
 (gd_clr (gd_set (GdQ.v (gd_c rfl)) (GdQ.g (gd_tup (gd_cons (gd_op2v o2_ix (gd_op2v o2_ix (gd_op2v o2_ix gd_var (GdQ.v (gd_c rfl))) (GdQ.v (gd_c rfl))) (GdQ.v (gd_c rfl))) (gd_cons (gd_op2v o2_ix (gd_op2v o2_ix (gd_op2v o2_ix gd_var (GdQ.v (gd_c rfl))) (GdQ.v (gd_c rfl))) (GdQ.v (gd_c rfl))) gd_nil)) (by decide)))))
 gd_next))
  (gd_clr (gd_frz (gd_app (gd_tupG (gd_consG (gd_comp (own := [7, 11]) (gd_itL (GdQ.g (GdV.q gd_var))) (gd_ttp (gd_tcons gd_nm (gd_tcons gd_nm gd_tnil)) rfl) gd_yes (GdQ.g (GdV.q gd_var)) (by decide)) (gd_consG (gd_comp (own := [7, 11]) (gd_itL (GdQ.g (GdV.q gd_var))) (gd_ttp (gd_tcons gd_nm (gd_tcons gd_nm gd_tnil)) rfl) gd_yes (GdQ.g (GdV.q gd_var)) (by decide)) gd_nilG)) (by decide)))))))))
  (gd_ret gd_mv))))) h N_law_pictures rfl
theorem sc_Change_nodes_at : FnScope N_Change_nodes_at P_Change_nodes_at (defScope s_Change_nodes_at) := ⟨rfl, rfl, rfl, by decide +kernel, rfl, by decide +kernel, by decide +kernel⟩
theorem ok_Change_nodes_at (T : Txt K mg A) : FnOk P w K mg base CX0 1 A.f_Change_nodes_at A.d_Change_nodes_at P_Change_nodes_at (SpQ (cnOf K A) f_Change_nodes_at) := by
  refine T.F_Change_nodes_at.ok sc_Change_nodes_at (fun vs H Q E h => SpQ.len h) (fun cdv A_ outer s H vs Q E hr h => ?_)
  have nd := sc_Change_nodes_at.nd
  refine ⟨_, (pss_one (ps_ret (pe_lst (pa_cons (pe_tup (pa_cons (pv 1) (pa_cons pe_int pa_nil))) (pa_cons (pe_tup (pa_cons (pv 1) (pa_cons pe_int pa_nil))) pa_nil))))), ?_⟩
  exact run_q (cn := cnOf K A) (body := b_Change_nodes_at) ((gd_ret (GdQ.g (gd_lst (gd_cons (GdQ.v (gd_tup (gd_cons gd_var (gd_cons (GdQ.v (gd_c rfl)) gd_nil)) (by decide))) (gd_cons (GdQ.v (gd_tup (gd_cons gd_var (gd_cons (GdQ.v (gd_c rfl)) gd_nil)) (by decide))) gd_nil)) (by decide))))) h N_Change_nodes_at rfl
theorem sc_Change_moves_from : FnScope N_Change_moves_from P_Change_moves_from (defScope s_Change_moves_from) := ⟨rfl, rfl, rfl, by decide +kernel, rfl, by decide +kernel, by decide +kernel⟩
theorem ok_Change_moves_from (T : Txt K mg A) : FnOk P w K mg base CX0 1 A.f_Change_moves_from A.d_Change_moves_from P_Change_moves_from (SpQ (cnOf K A) f_Change_moves_from) := by
  refine T.F_Change_moves_from.ok sc_Change_moves_from (fun vs H Q E h => SpQ.len h) (fun cdv A_ outer s H vs Q E hr h => ?_)
  have nd := sc_Change_moves_from.nd
  refine ⟨_, (pss_cons (ps_asg (pv 1) (ptup K 2 (pgs_cons (pnm 2 nd) (pgs_cons (pnm 3 nd) pgs_nil))))
  (pss_cons (ps_if (pt_cmpR (eqK K hr.units) (pv 2) (pe_callB (lenK K) rfl T.z_len PySem.boot_len (pa_cons (fldK K (pv 0)) pa_nil)) (nomark _))
 (pss_one (ps_ret (pe_lst pa_nil)))
 pss_nil)
  (pss_cons (ps_asg (pe_ix (ixK K) (fldK K (pv 0)) (pv 2) (fun _ _ => rfl)) (ptup K 2 (pgs_cons (pnm 4 nd) (pgs_cons (pnm 5 nd) pgs_nil))))
  (pss_cons (pst 6 nd (pe_lst pa_nil))
  (pss_cons (ps_if (pt_cmpR (eqK K hr.units) (pe_slice (slK K) (fldK K (pv 0)) (po_some (pv 4)) (po_some (pe_op (addK K) (pv 4) (pv 5)))) (pe_slice (slK K) (fldK K (pv 0)) (po_some (pv 4)) (po_some (pe_op (addK K) (pv 4) (pv 5)))) (nomark _))
 (pss_one (ps_expr (pe_bm PySem.F.plainAttrs_list PySem.F.slot_list_append PySem.F.type_list_append mt_append (pv 6) (pa_cons (pe_tup (pa_cons pe_int (pa_cons pe_str (pa_cons (pe_tup (pa_cons (pe_op (addK K) (pv 2) pe_int) (pa_cons pe_int pa_nil))) pa_nil)))) pa_nil))))
 pss_nil)
  (pss_cons (ps_if (pt_cmpR (eqK K hr.units) (pv 3) pe_int (nomark _))
 (pss_one (ps_expr (pe_bm PySem.F.plainAttrs_list PySem.F.slot_list_append PySem.F.type_list_append mt_append (pv 6) (pa_cons (pe_tup (pa_cons (pe_op (addK K) (pe_glob (v := .int 4) rfl T.c_BEGIN ⟨_, rfl⟩) (pv 5)) (pa_cons pe_str (pa_cons (pe_tup (pa_cons (pe_op (addK K) (pv 2) pe_int) (pa_cons pe_int pa_nil))) pa_nil)))) pa_nil))))
 (pss_one (ps_expr (pe_bm PySem.F.plainAttrs_list PySem.F.slot_list_append PySem.F.type_list_append mt_append (pv 6) (pa_cons (pe_tup (pa_cons (pv 5) (pa_cons pe_str (pa_cons (pe_tup (pa_cons (pe_op (addK K) (pv 2) pe_int) (pa_cons pe_int pa_nil))) pa_nil)))) pa_nil)))))
  (pss_one (ps_ret (pv 6))))))))), ?_⟩
  exact run_q (cn := cnOf K A) (body := b_Change_moves_from) ((gd_seq (gd_asg (GdQ.g (GdV.q gd_var)) (gd_ttp (gd_tcons gd_nm (gd_tcons gd_nm gd_tnil)) rfl))
  (gd_seq (gd_ifS (GdT.g (gd_test (GdQ.v (gd_op2 o2_eq gd_var (GdQ.v (gd_call c_len (gd_cons (gd_fld T.a_spots gd_var) gd_nil)))))))
 (gd_ret (GdQ.g (gd_lst gd_nil (by decide))))
 gd_next)
  (gd_seq (gd_asg (GdQ.g (GdV.q (gd_op2v o2_ix (gd_fld T.a_spots gd_var) gd_var))) (gd_ttp (gd_tcons gd_nm (gd_tcons gd_nm gd_tnil)) rfl))
  (gd_seq (gd_asg (GdQ.g (gd_lst gd_nil (by decide))) gd_nm)
  (gd_seq (gd_clr (gd_ifS (GdT.g (gd_test (GdQ.v (gd_op2 o2_eq (GdQ.v (gd_sl (gd_fld T.a_before gd_var) (gd_po1 gd_var) (gd_po1 (GdQ.v (gd_op2 o2_add gd_var gd_var))))) (GdQ.v (gd_sl (gd_fld T.a_behind gd_var) (gd_po1 gd_var) (gd_po1 (GdQ.v (gd_op2 o2_add gd_var gd_var)))))))))
 (gd_clr (gd_app (GdQ.g (gd_tup (gd_cons (GdQ.v (gd_c rfl)) (gd_cons (GdQ.v (gd_c rfl)) (gd_cons (GdQ.v (gd_tup (gd_cons (GdQ.v (gd_op2 o2_add gd_var (GdQ.v (gd_c rfl)))) (gd_cons (GdQ.v (gd_c rfl)) gd_nil)) (by decide))) gd_nil))) (by decide)))))
 gd_next))
  (gd_seq (gd_clr (gd_ifS (GdT.g (gd_test (GdQ.v (gd_op2 o2_eq gd_var (GdQ.v (gd_c rfl))))))
 (gd_clr (gd_app (GdQ.g (gd_tup (gd_cons (GdQ.v (gd_op2 o2_add (GdQ.v (gd_c rfl)) gd_var)) (gd_cons (GdQ.v (gd_c rfl)) (gd_cons (GdQ.v (gd_tup (gd_cons (GdQ.v (gd_op2 o2_add gd_var (GdQ.v (gd_c rfl)))) (gd_cons (GdQ.v (gd_c rfl)) gd_nil)) (by decide))) gd_nil))) (by decide)))))
 (gd_clr (gd_app (GdQ.g (gd_tup (gd_cons gd_var (gd_cons (GdQ.v (gd_c rfl)) (gd_cons (GdQ.v (gd_tup (gd_cons (GdQ.v (gd_op2 o2_add gd_var (GdQ.v (gd_c rfl)))) (gd_cons (GdQ.v (gd_c rfl)) gd_nil)) (by decide))) gd_nil))) (by decide)))))))
  (gd_ret gd_mv)))))))) h N_Change_moves_from rfl
theorem sc_cheapest : FnScope N_cheapest P_cheapest (defScope s_cheapest) := ⟨rfl, rfl, rfl, by decide +kernel, rfl, by decide +kernel, by decide +kernel⟩
theorem ok_cheapest (T : Txt K mg A) : FnOk P w K mg base CX0 2 A.f_cheapest A.d_cheapest P_cheapest (SpQ (cnOf K A) f_cheapest) := by
  refine T.F_cheapest.ok sc_cheapest (fun vs H Q E h => SpQ.len h) (fun cdv A_ outer s H vs Q E hr h => ?_)
  have nd := sc_cheapest.nd
  refine ⟨_, (pss_cons (pst 3 nd (pe_dget (hu_of hr) (pv 1) (pv 2) (fun _ _ => rfl)))
  (pss_cons (ps_for PassesOwn.never rfl (piL K (pe_meth (pv 0) T.cl_Change T.m_Change_moves_from (ok_Change_moves_from T) hr T.b_Change_moves_from .nil pass0 (pa_cons (pv 2) pa_nil))) (ptup K 3 (pgs_cons (pnm 4 nd) (pgs_cons (pnm 5 nd) (pgs_cons (pnm 6 nd) pgs_nil))))
 (pss_cons (pst 7 nd (pe_dget (hu_of hr) (pv 1) (pv 6) (fun _ _ => rfl)))
  (pss_one (ps_if (PW.pt (pw_and (pt_cmp (pc_notN (pv 7))) (pw_and1 (PW.pt (pw_or (pt_cmp (pc_isN (pv 3))) (pw_or1 (pt_cmpR op_lt (pe_op (addK K) (pv 4) (pv 7)) (pv 3) (nomark _))))))))
 (pss_one (pst 3 nd (pe_op (addK K) (pv 4) (pv 7))))
 pss_nil))))
  (pss_one (ps_ret (pv 3))))), ?_⟩
  exact run_q (cn := cnOf K A) (body := b_cheapest) ((gd_seq (gd_asg (GdQ.g (GdV.q (gd_dget gd_var gd_var))) gd_nm)
  (gd_seq (gd_clr (gd_for (gd_itL (GdQ.g (GdQ.fz (gd_met T.k_Change gd_var (gd_cons gd_var gd_nil))))) (gd_ttp (gd_tcons gd_nm (gd_tcons gd_nm (gd_tcons gd_nm gd_tnil))) rfl)
 (gd_seq (gd_clr (gd_asg (GdQ.g (GdV.q (gd_dget gd_var gd_var))) gd_nm))
  (gd_clr (gd_ifS (GdT.g (gd_and (gd_val (GdQ.v (gd_notN gd_var))) (gd_or (gd_val (GdQ.v (gd_isN gd_var))) (gd_test (GdQ.v (gd_op2 o2_lt (GdQ.v (gd_op2 o2_add gd_var gd_var)) gd_var))))))
 (gd_clr (gd_asg (GdQ.g (gd_op2 o2_add gd_var gd_var)) gd_nm))
 gd_next)))))
  (gd_ret gd_mv)))) h N_cheapest rfl
theorem sc_settle : FnScope N_settle P_settle (defScope s_settle) := ⟨rfl, rfl, rfl, by decide +kernel, rfl, by decide +kernel, by decide +kernel⟩
theorem ok_settle (T : Txt K mg A) : FnOk P w K mg base CX0 3 A.f_settle A.d_settle P_settle (SpG (cnOf K A) [false, true, false] f_settle) := by
  refine T.F_settle.ok sc_settle (fun vs H Q E h => SpG.len h) (fun cdv A_ outer s H vs Q E hr h => ?_)
  have nd := sc_settle.nd
  refine ⟨_, (pss_cons (pst 3 nd pe_bl)
  (pss_one (ps_while PassesOwn.never (pt_val (pv 3))
 (pss_cons (pst 3 nd pe_bl)
  (pss_one (ps_for PassesOwn.never rfl (piL K (pv 2)) (pnm 4 nd)
 (pss_cons (pst 5 nd (pe_call (ok_cheapest T) hr rfl T.g_cheapest T.F_cheapest.kp T.b_cheapest .nil pass0 (pa_cons (pv 0) (pa_cons (pv 1) (pa_cons (pv 4) pa_nil)))))
  (pss_one (ps_if (pt_cmpR (neK K hr.units) (pv 5) (pe_dget (hu_of hr) (pv 1) (pv 4) (fun _ _ => rfl)) (nomark _))
 (pss_cons (ps_dput (hu_of hr) (pv 1) (pv 4) (pv 5) rfl)
  (pss_one (pst 3 nd pe_bl)))
 pss_nil))))))))), ?_⟩
  exact run_g (cn := cnOf K A) (body := b_settle) ((gd_seq (gd_asg (GdQ.g (gd_c rfl)) gd_nm)
  (gd_clr (gd_while (GdT.g (gd_val gd_var))
 (gd_seq (gd_asg (GdQ.g (gd_c rfl)) gd_nm)
  (gd_clr (gd_for (gd_itL (GdQ.g (GdV.q gd_var))) gd_nm
 (gd_seq (gd_asg (GdQ.g (GdQ.fz (gd_fn (gd_cons gd_var (gd_cons gd_var (gd_cons gd_var gd_nil)))))) gd_nm)
  (gd_clr (gd_ifS (GdT.g (gd_test (GdQ.v (gd_op2 o2_ne gd_var (gd_dget gd_var gd_var)))))
 (gd_seq (gd_clr (gd_dput gd_var (GdQ.g (GdV.q gd_var))))
  (gd_asg (GdQ.g (gd_c rfl)) gd_nm))
 gd_next)))))))))) h N_settle rfl
theorem sc_Change_last_at : FnScope N_Change_last_at P_Change_last_at (defScope s_Change_last_at) := ⟨rfl, rfl, rfl, by decide +kernel, rfl, by decide +kernel, by decide +kernel⟩
theorem ok_Change_last_at (T : Txt K mg A) : FnOk P w K mg base CX0 1 A.f_Change_last_at A.d_Change_last_at P_Change_last_at (SpQ (cnOf K A) f_Change_last_at) := by
  refine T.F_Change_last_at.ok sc_Change_last_at (fun vs H Q E h => SpQ.len h) (fun cdv A_ outer s H vs Q E hr h => ?_)
  have nd := sc_Change_last_at.nd
  refine ⟨_, (pss_one (ps_ret (pe_callB (lenK K) rfl T.z_len PySem.boot_len (pa_cons (fldK K (pv 0)) pa_nil)))), ?_⟩
  exact run_q (cn := cnOf K A) (body := b_Change_last_at) ((gd_ret (GdQ.g (gd_call c_len (gd_cons (gd_fld T.a_spots gd_var) gd_nil))))) h N_Change_last_at rfl
theorem sc_Change_is_end : FnScope N_Change_is_end P_Change_is_end (defScope s_Change_is_end) := ⟨rfl, rfl, rfl, by decide +kernel, rfl, by decide +kernel, by decide +kernel⟩
theorem ok_Change_is_end (T : Txt K mg A) : FnOk P w K mg base CX0 1 A.f_Change_is_end A.d_Change_is_end P_Change_is_end (SpQ (cnOf K A) f_Change_is_end) := by
  refine T.F_Change_is_end.ok sc_Change_is_end (fun vs H Q E h => SpQ.len h) (fun cdv A_ outer s H vs Q E hr h => ?_)
  have nd := sc_Change_is_end.nd
  refine ⟨_, (pss_one (ps_ret (pe_cmpR (eqK K hr.units) (pe_ix (ixK K) (pv 1) pe_int (fun _ _ => rfl)) (pe_callB (lenK K) rfl T.z_len PySem.boot_len (pa_cons (fldK K (pv 0)) pa_nil)) (nomark _)))), ?_⟩
  exact run_q (cn := cnOf K A) (body := b_Change_is_end) ((gd_ret (GdQ.g (gd_op2 o2_eq (gd_op2v o2_ix gd_var (GdQ.v (gd_c rfl))) (GdQ.v (gd_call c_len (gd_cons (gd_fld T.a_spots gd_var) gd_nil))))))) h N_Change_is_end rfl
theorem sc_priced : FnScope N_priced P_priced (defScope s_priced) := ⟨rfl, rfl, rfl, by decide +kernel, rfl, by decide +kernel, by decide +kernel⟩
theorem ok_priced (T : Txt K mg A) : FnOk P w K mg base CX0 4 A.f_priced A.d_priced P_priced (SpQ (cnOf K A) f_priced) := by
  refine T.F_priced.ok sc_priced (fun vs H Q E h => SpQ.len h) (fun cdv A_ outer s H vs Q E hr h => ?_)
  have nd := sc_priced.nd
  refine ⟨_, (pss_cons (pst 1 nd pe_dnewT)
  (pss_cons (ps_for PassesOwn.never rfl (pi_range1 rfl T.z_range (pa_cons (pe_op (addK K) (pe_meth0 (pv 0) T.cl_Change T.m_Change_last_at (ok_Change_last_at T) (hr.mono (by decide)) T.b_Change_last_at .nil pass0) pe_int) pa_nil)) (pnm 2 nd)
 (pss_cons (pst 3 nd (pe_meth (pv 0) T.cl_Change T.m_Change_nodes_at (ok_Change_nodes_at T) (hr.mono (by decide)) T.b_Change_nodes_at .nil pass0 (pa_cons (pe_op op_sub (pe_meth0 (pv 0) T.cl_Change T.m_Change_last_at (ok_Change_last_at T) (hr.mono (by decide)) T.b_Change_last_at .nil pass0) (pv 2)) pa_nil)))
  (pss_cons (ps_for PassesOwn.never rfl (piL K (pv 3)) (pnm 4 nd)
 (pss_cons (ps_dput (hu_of hr) (pv 1) (pv 4) pe_non rfl)
  (pss_one (ps_if (pt_val (pe_meth (pv 0) T.cl_Change T.m_Change_is_end (ok_Change_is_end T) (hr.mono (by decide)) T.b_Change_is_end .nil pass0 (pa_cons (pv 4) pa_nil)))
 (pss_one (ps_dput (hu_of hr) (pv 1) (pv 4) pe_int rfl))
 pss_nil))))
  (pss_one (ps_expr (pe_call (ok_settle T) hr rfl T.g_settle T.F_settle.kp T.b_settle .nil pass0 (pa_cons (pv 0) (pa_cons (pv 1) (pa_cons (pv 3) pa_nil)))))))))
  (pss_one (ps_ret (pv 1))))), ?_⟩
  exact run_q (cn := cnOf K A) (body := b_priced) ((gd_seq (gd_asg (GdQ.g gd_dnewT) gd_nm)
  (gd_seq (gd_clr (gd_for (gd_itR1 (GdQ.g (gd_op2 o2_add (GdQ.v (gd_met T.k_Change gd_var gd_nil)) (GdQ.v (gd_c rfl))))) gd_nm
 (gd_seq (gd_clr (gd_asg (GdQ.g (GdQ.fz (gd_met T.k_Change gd_var (gd_cons (GdQ.v (gd_op2 o2_sub (GdQ.v (gd_met T.k_Change gd_var gd_nil)) gd_var)) gd_nil)))) gd_nm))
  (gd_seq (gd_clr (gd_for (gd_itL (GdQ.g (GdV.q gd_var))) gd_nm
 (gd_seq (gd_dput gd_var (GdQ.g (gd_c rfl)))
  (gd_clr (gd_ifS (GdT.g (gd_val (GdQ.v (gd_met T.k_Change gd_var (gd_cons gd_var gd_nil)))))
 (gd_clr (gd_dput gd_var (GdQ.g (gd_c rfl))))
 gd_next)))))
  (gd_clr (gd_drop (gd_gfn (ar_slot (.inr rfl) (ar_slot (.inl rfl) (ar_slot (.inr rfl) ar_nil))))))))))
  (gd_ret gd_mv)))) h N_priced rfl
theorem sc_Change_first_node : FnScope N_Change_first_node P_Change_first_node (defScope s_Change_first_node) := ⟨rfl, rfl, rfl, by decide +kernel, rfl, by decide +kernel, by decide +kernel⟩
theorem ok_Change_first_node (T : Txt K mg A) : FnOk P w K mg base CX0 1 A.f_Change_first_node A.d_Change_first_node P_Change_first_node (SpQ (cnOf K A) f_Change_first_node) := by
  refine T.F_Change_first_node.ok sc_Change_first_node (fun vs H Q E h => SpQ.len h) (fun cdv A_ outer s H vs Q E hr h => ?_)
  have nd := sc_Change_first_node.nd
  refine ⟨_, (pss_one (ps_ret (pe_tup (pa_cons pe_int (pa_cons pe_int pa_nil))))), ?_⟩
  exact run_q (cn := cnOf K A) (body := b_Change_first_node) ((gd_ret (GdQ.g (gd_tup (gd_cons (GdQ.v (gd_c rfl)) (gd_cons (GdQ.v (gd_c rfl)) gd_nil)) (by decide))))) h N_Change_first_node rfl
theorem sc_first_least : FnScope N_first_least P_first_least (defScope s_first_least) := ⟨rfl, rfl, rfl, by decide +kernel, rfl, by decide +kernel, by decide +kernel⟩
theorem ok_first_least (T : Txt K mg A) : FnOk P w K mg base CX0 2 A.f_first_least A.d_first_least P_first_least (SpQ (cnOf K A) f_first_least) := by
  refine T.F_first_least.ok sc_first_least (fun vs H Q E h => SpQ.len h) (fun cdv A_ outer s H vs Q E hr h => ?_)
  have nd := sc_first_least.nd
  refine ⟨_, (pss_cons (ps_for PassesOwn.never rfl (piL K (pe_meth (pv 0) T.cl_Change T.m_Change_moves_from (ok_Change_moves_from T) hr T.b_Change_moves_from .nil pass0 (pa_cons (pv 2) pa_nil))) (ptup K 3 (pgs_cons (pnm 3 nd) (pgs_cons (pnm 4 nd) (pgs_cons (pnm 5 nd) pgs_nil))))
 (pss_one (ps_if (PW.pt (pw_and (pt_cmp (pc_notN (pe_dget (hu_of hr) (pv 1) (pv 5) (fun _ _ => rfl)))) (pw_and1 (pt_cmpR (eqK K hr.units) (pe_op (addK K) (pv 3) (pe_dget (hu_of hr) (pv 1) (pv 5) (fun _ _ => rfl))) (pe_dget (hu_of hr) (pv 1) (pv 2) (fun _ _ => rfl)) (nomark _)))))
 (pss_one (ps_ret (pe_tup (pa_cons (pv 4) (pa_cons (pv 5) pa_nil)))))
 pss_nil)))
  (pss_one (ps_ret pe_non))), ?_⟩
  exact run_q (cn := cnOf K A) (body := b_first_least) ((gd_seq (gd_clr (gd_for (gd_itL (GdQ.g (GdQ.fz (gd_met T.k_Change gd_var (gd_cons gd_var gd_nil))))) (gd_ttp (gd_tcons gd_nm (gd_tcons gd_nm (gd_tcons gd_nm gd_tnil))) rfl)
 (gd_clr (gd_ifS (GdT.g (gd_and (gd_val (GdQ.v (gd_notN (gd_dget gd_var gd_var)))) (gd_test (GdQ.v (gd_op2 o2_eq (GdQ.v (gd_op2 o2_add gd_var (gd_dget gd_var gd_var))) (gd_dget gd_var gd_var))))))
 (gd_ret (GdQ.g (gd_tup (gd_cons gd_var (gd_cons gd_var gd_nil)) (by decide))))
 gd_next))))
  (gd_ret (GdQ.g (gd_c rfl))))) h N_first_least rfl
theorem sc_way_of : FnScope N_way_of P_way_of (defScope s_way_of) := ⟨rfl, rfl, rfl, by decide +kernel, rfl, by decide +kernel, by decide +kernel⟩
theorem ok_way_of (T : Txt K mg A) : FnOk P w K mg base CX0 5 A.f_way_of A.d_way_of P_way_of (SpQ (cnOf K A) f_way_of) := by
  refine T.F_way_of.ok sc_way_of (fun vs H Q E h => SpQ.len h) (fun cdv A_ outer s H vs Q E hr h => ?_)
  have nd := sc_way_of.nd
  refine ⟨_, (pss_cons (pst 1 nd (pe_call (ok_priced T) hr rfl T.g_priced T.F_priced.kp T.b_priced .nil pass0 (pa_cons (pv 0) pa_nil)))
  (pss_cons (pst 2 nd (pe_meth0 (pv 0) T.cl_Change T.m_Change_first_node (ok_Change_first_node T) (hr.mono (by decide)) T.b_Change_first_node .nil pass0))
  (pss_cons (ps_if (pt_cmp (pc_isN (pe_dget (hu_of hr) (pv 1) (pv 2) (fun _ _ => rfl))))
 (pss_one (ps_ret pe_non))
 pss_nil)
  (pss_cons (pst 3 nd (pe_lst pa_nil))
  (pss_cons (ps_while PassesOwn.never (PW.pt (pw_or (pt_not (pt_val (pe_meth (pv 0) T.cl_Change T.m_Change_is_end (ok_Change_is_end T) (hr.mono (by decide)) T.b_Change_is_end .nil pass0 (pa_cons (pv 2) pa_nil)))) (pw_or1 (pt_cmpR op_gt (pe_dget (hu_of hr) (pv 1) (pv 2) (fun _ _ => rfl)) pe_int (nomark _)))))
 (pss_cons (ps_asg (pe_call (ok_first_least T) (hr.mono (by decide)) rfl T.g_first_least T.F_first_least.kp T.b_first_least .nil pass0 (pa_cons (pv 0) (pa_cons (pv 1) (pa_cons (pv 2) pa_nil)))) (ptup K 2 (pgs_cons (pnm 4 nd) (pgs_cons (pnm 2 nd) pgs_nil))))
  (pss_one (ps_expr (pe_bm PySem.F.plainAttrs_list PySem.F.slot_list_append PySem.F.type_list_append mt_append (pv 3) (pa_cons (pv 4) pa_nil))))))
  (pss_one (ps_ret (pe_tup (pa_cons (pe_dget (hu_of hr) (pv 1) (pe_meth0 (pv 0) T.cl_Change T.m_Change_first_node (ok_Change_first_node T) (hr.mono (by decide)) T.b_Change_first_node .nil pass0) (fun _ _ => rfl)) (pa_cons (pv 3) pa_nil)))))))))), ?_⟩
  exact run_q (cn := cnOf K A) (body := b_way_of) ((gd_seq (gd_asg (GdQ.g (GdQ.fz (gd_fn (gd_cons gd_var gd_nil)))) gd_nm)
  (gd_seq (gd_asg (GdQ.g (GdQ.fz (gd_met T.k_Change gd_var gd_nil))) gd_nm)
  (gd_seq (gd_ifS (GdT.g (gd_val (GdQ.v (gd_isN (gd_dget gd_var gd_var)))))
 (gd_ret (GdQ.g (gd_c rfl)))
 gd_next)
  (gd_seq (gd_asg (GdQ.g (gd_lst gd_nil (by decide))) gd_nm)
  (gd_seq (gd_clr (gd_while (GdT.g (gd_or (gd_not (gd_val (GdQ.v (gd_met T.k_Change gd_var (gd_cons gd_var gd_nil))))) (gd_test (GdQ.v (gd_op2 o2_gt (gd_dget gd_var gd_var) (GdQ.v (gd_c rfl)))))))
 (gd_seq (gd_asg (GdQ.g (GdQ.fz (gd_fn (gd_cons gd_var (gd_cons gd_var (gd_cons gd_var gd_nil)))))) (gd_ttp (gd_tcons gd_nm (gd_tcons gd_nm gd_tnil)) rfl))
  (gd_clr (gd_app (GdQ.g (GdV.q gd_var)))))))
  (gd_frz (gd_ret (GdQ.g (gd_tup (gd_cons (gd_dget gd_var (GdQ.v (gd_met T.k_Change gd_var gd_nil))) (gd_cons gd_var gd_nil)) (by decide))))))))))) h N_way_of rfl
theorem sc_spots_of : FnScope N_spots_of P_spots_of (defScope s_spots_of) := ⟨rfl, rfl, rfl, by decide +kernel, rfl, by decide +kernel, by decide +kernel⟩
theorem ok_spots_of (T : Txt K mg A) : FnOk P w K mg base CX0 1 A.f_spots_of A.d_spots_of P_spots_of (SpQ (cnOf K A) f_spots_of) := by
  refine T.F_spots_of.ok sc_spots_of (fun vs H Q E h => SpQ.len h) (fun cdv A_ outer s H vs Q E hr h => ?_)
  have nd := sc_spots_of.nd
  refine ⟨_, (pss_cons (pst 1 nd (pe_lst pa_nil))
  (pss_cons (ps_for PassesOwn.never rfl (pi_enum rfl T.z_enumerate (pa_cons (pv 0) pa_nil)) (ptup K 2 (pgs_cons (pnm 2 nd) (pgs_cons (pnm 3 nd) pgs_nil)))
 (pss_one (ps_if (pt_cmpR (eqK K hr.units) (pe_ix (ixK K) (pv 3) pe_int (fun _ _ => rfl)) pe_str (nomark _))
 (pss_one (ps_asg (pe_tup (pa_cons (pe_ix (ixK K) (pe_ix (ixK K) (pv 1) (pe_un un_neg pe_int) (fun _ _ => rfl)) pe_int (fun _ _ => rfl)) (pa_cons (pe_op (addK K) (pe_ix (ixK K) (pe_ix (ixK K) (pv 1) (pe_un un_neg pe_int) (fun _ _ => rfl)) pe_int (fun _ _ => rfl)) pe_int) pa_nil))) (pg_sub (pv 1) (pe_un un_neg pe_int) set_list)))
 (pss_one (ps_expr (pe_bm PySem.F.plainAttrs_list PySem.F.slot_list_append PySem.F.type_list_append mt_append (pv 1) (pa_cons (pe_tup (pa_cons (pv 2) (pa_cons pe_int pa_nil))) pa_nil)))))))
  (pss_one (ps_ret (pv 1))))), ?_⟩
  exact run_q (cn := cnOf K A) (body := b_spots_of) ((gd_seq (gd_asg (GdQ.g (gd_lst gd_nil (by decide))) gd_nm)
  (gd_seq (gd_clr (gd_for (gd_itE (GdQ.g (GdV.q gd_var))) (gd_ttp (gd_tcons gd_nm (gd_tcons gd_nm gd_tnil)) rfl)
 (gd_clr (gd_ifS (GdT.g (gd_test (GdQ.v (gd_op2 o2_eq (gd_op2v o2_ix gd_var (GdQ.v (gd_c rfl))) (GdQ.v (gd_c rfl))))))
 (gd_clr (gd_set (GdQ.v (gd_op1 o1_neg (GdQ.v (gd_c rfl)))) (GdQ.g (gd_tup (gd_cons (gd_op2v o2_ix (gd_op2v o2_ix gd_var (GdQ.v (gd_op1 o1_neg (GdQ.v (gd_c rfl))))) (GdQ.v (gd_c rfl))) (gd_cons (GdQ.v (gd_op2 o2_add (gd_op2v o2_ix (gd_op2v o2_ix gd_var (GdQ.v (gd_op1 o1_neg (GdQ.v (gd_c rfl))))) (GdQ.v (gd_c rfl))) (GdQ.v (gd_c rfl)))) gd_nil)) (by decide)))))
 (gd_clr (gd_app (GdQ.g (gd_tup (gd_cons gd_var (gd_cons (GdQ.v (gd_c rfl)) gd_nil)) (by decide)))))))))
  (gd_ret gd_mv)))) h N_spots_of rfl
theorem sc_Change_init : FnScope N_Change_init P_Change_init (defScope s_Change_init) := ⟨rfl, rfl, rfl, by decide +kernel, rfl, by decide +kernel, by decide +kernel⟩
theorem ok_Change_init (T : Txt K mg A) : FnOk P w K mg base CX0 2 A.f_Change_init A.d_Change_init P_Change_init (SpG (cnOf K A) [true, false, false] f_Change_init) := by
  refine T.F_Change_init.ok sc_Change_init (fun vs H Q E h => SpG.len h) (fun cdv A_ outer s H vs Q E hr h => ?_)
  have nd := sc_Change_init.nd
  refine ⟨_, (pss_cons (ps_fld (pv 0) (pe_callTy (listK K) rfl T.z_list PyProof.Rows.boot_list (pa_cons (pv 1) pa_nil)) rfl)
  (pss_cons (ps_fld (pv 0) (pe_callTy (listK K) rfl T.z_list PyProof.Rows.boot_list (pa_cons (pv 2) pa_nil)) rfl)
  (pss_one (ps_fld (pv 0) (pe_call (ok_spots_of T) hr rfl T.g_spots_of T.F_spots_of.kp T.b_spots_of .nil pass0 (pa_cons (fldK K (pv 0)) pa_nil)) rfl)))), ?_⟩
  exact run_g (cn := cnOf K A) (body := b_Change_init) ((gd_seq (gd_sfld T.a_before (GdQ.g (gd_call c_list (gd_cons gd_var gd_nil))))
  (gd_seq (gd_sfld T.a_behind (GdQ.g (gd_call c_list (gd_cons gd_var gd_nil))))
  (gd_sfld T.a_spots (GdQ.g (GdQ.fz (gd_fn (gd_cons (gd_fld T.a_behind gd_var) gd_nil)))))))) h N_Change_init rfl
theorem sc_row_writes : FnScope N_row_writes P_row_writes (defScope s_row_writes) := ⟨rfl, rfl, rfl, by decide +kernel, rfl, by decide +kernel, by decide +kernel⟩
theorem ok_row_writes (T : Txt K mg A) : FnOk P w K mg base CX0 6 A.f_row_writes A.d_row_writes P_row_writes (SpQ (cnOf K A) f_row_writes) := by
  refine T.F_row_writes.ok sc_row_writes (fun vs H Q E h => SpQ.len h) (fun cdv A_ outer s H vs Q E hr h => ?_)
  have nd := sc_row_writes.nd
  refine ⟨_, (pss_cons (pst 3 nd (pe_lst pa_nil))
  (pss_cons (ps_asg (pe_call (ok_way_of T) hr rfl T.g_way_of T.F_way_of.kp T.b_way_of .nil pass0 (pa_cons (pe_make T.mk_Change (ok_Change_init T) (hr.mono (by decide)) rfl T.g_Change T.b_Change_init .nil pass0 (pa_cons (pv 1) (pa_cons (pv 2) pa_nil))) pa_nil)) (ptup K 2 (pgs_cons (pnm 4 nd) (pgs_cons (pnm 5 nd) pgs_nil))))
  (pss_cons (ps_for PassesOwn.never rfl (pi_zip rfl T.z_zip (pa_cons (pe_call (ok_spots_of T) (hr.mono (by decide)) rfl T.g_spots_of T.F_spots_of.kp T.b_spots_of .nil pass0 (pa_cons (pv 2) pa_nil)) (pa_cons (pv 5) pa_nil))) (ptup K 2 (pgs_cons (ptup K 2 (pgs_cons (pnm 6 nd) (pgs_cons (pnm 7 nd) pgs_nil))) (pgs_cons (pnm 8 nd) pgs_nil)))
 (pss_cons (pst 9 nd (pe_slice (slK K) (pv 2) (po_some (pv 6)) (po_some (pe_op (addK K) (pv 6) (pv 7)))))
  (pss_one (ps_if (pt_cmpR (eqK K hr.units) (pv 8) pe_str (nomark _))
 (pss_one (ps_expr (pe_bm PySem.F.plainAttrs_list PySem.F.slot_list_append PySem.F.type_list_append mt_append (pv 3) (pa_cons (pe_tup (pa_cons (pv 0) (pa_cons (pv 6) (pa_cons (pv 9) pa_nil)))) pa_nil))))
 (pss_one (ps_if (pt_cmpR (eqK K hr.units) (pv 8) pe_str (nomark _))
 (pss_cons (pst 10 nd (pe_bm0 PySem.F.plainAttrs_list PySem.F.slot_list_pop PySem.F.type_list_pop mt_pop (pv 3)))
  (pss_one (ps_expr (pe_bm PySem.F.plainAttrs_list PySem.F.slot_list_append PySem.F.type_list_append mt_append (pv 3) (pa_cons (pe_tup (pa_cons (pv 0) (pa_cons (pe_ix (ixK K) (pv 10) pe_int (fun _ _ => rfl)) (pa_cons (pe_op (addK K) (pe_ix (ixK K) (pv 10) pe_int (fun _ _ => rfl)) (pv 9)) pa_nil)))) pa_nil)))))
 pss_nil))))))
  (pss_one (ps_ret (pv 3)))))), ?_⟩
  exact run_q (cn := cnOf K A) (body := b_row_writes) ((gd_seq (gd_asg (GdQ.g (gd_lst gd_nil (by decide))) gd_nm)
  (gd_seq (gd_clr (gd_asg (GdQ.g (GdQ.fz (gd_fn (gd_cons (GdQ.v (gd_mk (n := 2) T.k_Change (gd_cons gd_var (gd_cons gd_var gd_nil)) rfl)) gd_nil)))) (gd_ttp (gd_tcons gd_nm (gd_tcons gd_nm gd_tnil)) rfl)))
  (gd_seq (gd_clr (gd_for (gd_itZ (GdQ.g (GdQ.fz (gd_fn (gd_cons gd_var gd_nil)))) (GdQ.g (GdV.q gd_var))) (gd_ttp (gd_tcons (gd_ttp (gd_tcons gd_nm (gd_tcons gd_nm gd_tnil)) rfl) (gd_tcons gd_nm gd_tnil)) rfl)
 (gd_seq (gd_clr (gd_asg (GdQ.g (gd_sl gd_var (gd_po1 gd_var) (gd_po1 (GdQ.v (gd_op2 o2_add gd_var gd_var))))) gd_nm))
  (gd_clr (gd_ifS (GdT.g (gd_test (GdQ.v (gd_op2 o2_eq gd_var (GdQ.v (gd_c rfl))))))
 (gd_clr (gd_app (GdQ.g (gd_tup (gd_cons gd_var (gd_cons gd_var (gd_cons gd_var gd_nil))) (by decide)))))
 (gd_clr (gd_ifS (GdT.g (gd_test (GdQ.v (gd_op2 o2_eq gd_var (GdQ.v (gd_c rfl))))))
 (gd_seq (gd_clr (gd_asg gd_pop gd_nm))
  (gd_clr (gd_app (GdQ.g (gd_tup (gd_cons gd_var (gd_cons (gd_op2v o2_ix gd_var (GdQ.v (gd_c rfl))) (gd_cons (GdQ.v (gd_op2 o2_add (gd_op2v o2_ix gd_var (GdQ.v (gd_c rfl))) gd_var)) gd_nil))) (by decide))))))
 gd_next)))))))
  (gd_ret gd_mv))))) h N_row_writes rfl
theorem sc_patch : FnScope N_patch P_patch (defScope s_patch) := ⟨rfl, rfl, rfl, by decide +kernel, rfl, by decide +kernel, by decide +kernel⟩
theorem ok_patch (T : Txt K mg A) : FnOk P w K mg base CX0 7 A.f_patch A.d_patch P_patch (SpQ (cnOf K A) f_patch) := by
  refine T.F_patch.ok sc_patch (fun vs H Q E h => SpQ.len h) (fun cdv A_ outer s H vs Q E hr h => ?_)
  have nd := sc_patch.nd
  refine ⟨_, (pss_cons (pst 2 nd (pe_lst pa_nil))
  (pss_cons (ps_for PassesOwn.never rfl (pi_range1 rfl T.z_range (pa_cons (pe_callB (lenK K) rfl T.z_len PySem.boot_len (pa_cons (pv 0) pa_nil)) pa_nil)) (pnm 3 nd)
 (pss_one (ps_expr (pe_bm PySem.F.plainAttrs_list PySem.F.slot_list_extend PySem.F.type_list_extend mt_extend (pv 2) (pa_cons (pe_call (ok_row_writes T) hr rfl T.g_row_writes T.F_row_writes.kp T.b_row_writes .nil pass0 (pa_cons (pv 3) (pa_cons (pe_ix (ixK K) (pv 0) (pv 3) (fun _ _ => rfl)) (pa_cons (pe_ix (ixK K) (pv 1) (pv 3) (fun _ _ => rfl)) pa_nil)))) pa_nil)))))
  (pss_one (ps_ret (pv 2))))), ?_⟩
  exact run_q (cn := cnOf K A) (body := b_patch) ((gd_seq (gd_asg (GdQ.g (gd_lst gd_nil (by decide))) gd_nm)
  (gd_seq (gd_clr (gd_for (gd_itR1 (GdQ.g (gd_call c_len (gd_cons gd_var gd_nil)))) gd_nm
 (gd_clr (gd_ext (GdQ.g (GdQ.fz (gd_fn (gd_cons gd_var (gd_cons (gd_op2v o2_ix gd_var gd_var) (gd_cons (gd_op2v o2_ix gd_var gd_var) gd_nil))))))))))
  (gd_ret gd_mv)))) h N_patch rfl
theorem sc_law_least : FnScope N_law_least P_law_least (defScope s_law_least) := ⟨rfl, rfl, rfl, by decide +kernel, rfl, by decide +kernel, by decide +kernel⟩
theorem ok_law_least (T : Txt K mg A) : FnOk P w K mg base CX0 1 A.f_law_least A.d_law_least P_law_least (SpQ (cnOf K A) f_law_least) := by
  refine T.F_law_least.ok sc_law_least (fun vs H Q E h => SpQ.len h) (fun cdv A_ outer s H vs Q E hr h => ?_)
  have nd := sc_law_least.nd
  refine ⟨_, (pss_cons (ps_asg (pe_tup (pa_cons pe_int (pa_cons pe_int (pa_cons pe_int pa_nil)))) (ptup K 3 (pgs_cons (pnm 2 nd) (pgs_cons (pnm 3 nd) (pgs_cons (pnm 4 nd) pgs_nil)))))
  (pss_cons (ps_while PassesOwn.never (pt_cmpR op_lt (pv 4) (pe_callB (lenK K) rfl T.z_len PySem.boot_len (pa_cons (pv 1) pa_nil)) (nomark _))
 (pss_cons (pst 5 nd (pe_ifExp (pt_chain opLeS opLeS pe_str (pe_ix (ixK K) (pe_ix (ixK K) (pv 1) (pv 4) (fun _ _ => rfl)) pe_int (fun _ _ => rfl)) pe_str) pe_int pe_int))
  (pss_cons (pst 6 nd (pe_cmpR (eqK K hr.units) (pe_slice (slK K) (pv 0) (po_some (pv 4)) (po_some (pe_op (addK K) (pv 4) (pv 5)))) (pe_slice (slK K) (pv 1) (po_some (pv 4)) (po_some (pe_op (addK K) (pv 4) (pv 5)))) (nomark _)))
  (pss_cons (pst 7 nd (pe_ifExp (pt_val (pv 6)) (pe_callB (call_min2 rfl) rfl T.z_min PyProof.Rows.boot_min (pa_cons (pv 2) (pa_cons (pv 3) pa_nil))) pe_int))
  (pss_cons (pst 3 nd (pe_op (addK K) (pe_callB (call_min2 rfl) rfl T.z_min PyProof.Rows.boot_min (pa_cons (pe_op (addK K) (pv 2) pe_int) (pa_cons (pv 3) pa_nil))) (pv 5)))
  (pss_cons (pst 2 nd (pv 7))
  (pss_one (ps_aug (i := 4) nd rfl (by first | exact Or.inl rfl | exact Or.inr rfl) (pv 5) ip_add))))))))
  (pss_one (ps_ret (pe_callB (call_min2 rfl) rfl T.z_min PyProof.Rows.boot_min (pa_cons (pv 2) (pa_cons (pv 3) pa_nil))))))), ?_⟩
  exact run_q (cn := cnOf K A) (body := b_law_least) ((gd_seq (gd_asg (GdQ.g (gd_tup (gd_cons (GdQ.v (gd_c rfl)) (gd_cons (GdQ.v (gd_c rfl)) (gd_cons (GdQ.v (gd_c rfl)) gd_nil))) (by decide))) (gd_ttp (gd_tcons gd_nm (gd_tcons gd_nm (gd_tcons gd_nm gd_tnil))) rfl))
  (gd_seq (gd_clr (gd_while (GdT.g (gd_test (GdQ.v (gd_op2 o2_lt gd_var (GdQ.v (gd_call c_len (gd_cons gd_var gd_nil)))))))
 (gd_seq (gd_asg (GdQ.g (gd_if (gd_test (GdQ.v (gd_chain o2_leS o2_leS (GdQ.v (gd_c rfl)) (gd_op2v o2_ix (gd_op2v o2_ix gd_var gd_var) (GdQ.v (gd_c rfl))) (GdQ.v (gd_c rfl))))) (gd_c rfl) (gd_c rfl))) gd_nm)
  (gd_seq (gd_asg (GdQ.g (gd_op2 o2_eq (GdQ.v (gd_sl gd_var (gd_po1 gd_var) (gd_po1 (GdQ.v (gd_op2 o2_add gd_var gd_var))))) (GdQ.v (gd_sl gd_var (gd_po1 gd_var) (gd_po1 (GdQ.v (gd_op2 o2_add gd_var gd_var))))))) gd_nm)
  (gd_seq (gd_clr (gd_asg (GdQ.g (gd_if (gd_val gd_var) (gd_call c_min2 (gd_cons gd_var (gd_cons gd_var gd_nil))) (gd_c rfl))) gd_nm))
  (gd_seq (gd_clr (gd_asg (GdQ.g (gd_op2 o2_add (GdQ.v (gd_call c_min2 (gd_cons (GdQ.v (gd_op2 o2_add gd_var (GdQ.v (gd_c rfl)))) (gd_cons gd_var gd_nil)))) gd_var)) gd_nm))
  (gd_seq (gd_clr (gd_asg (GdQ.g (GdV.q gd_var)) gd_nm))
  (gd_clr (gd_aug (GdQ.g (GdV.q gd_var)))))))))))
  (gd_ret (GdQ.g (gd_call c_min2 (gd_cons gd_var (gd_cons gd_var gd_nil)))))))) h N_law_least rfl
theorem sc_all_nodes : FnScope N_all_nodes P_all_nodes (defScope s_all_nodes) := ⟨rfl, rfl, rfl, by decide +kernel, rfl, by decide +kernel, by decide +kernel⟩
theorem ok_all_nodes (T : Txt K mg A) : FnOk P w K mg base CX0 2 A.f_all_nodes A.d_all_nodes P_all_nodes (SpQ (cnOf K A) f_all_nodes) := by
  refine T.F_all_nodes.ok sc_all_nodes (fun vs H Q E h => SpQ.len h) (fun cdv A_ outer s H vs Q E hr h => ?_)
  have nd := sc_all_nodes.nd
  refine ⟨_, (pss_cons (pst 1 nd (pe_lst pa_nil))
  (pss_cons (ps_for PassesOwn.never rfl (pi_range1 rfl T.z_range (pa_cons (pe_op (addK K) (pe_meth0 (pv 0) T.cl_Change T.m_Change_last_at (ok_Change_last_at T) hr T.b_Change_last_at .nil pass0) pe_int) pa_nil)) (pnm 2 nd)
 (pss_one (ps_expr (pe_bm PySem.F.plainAttrs_list PySem.F.slot_list_extend PySem.F.type_list_extend mt_extend (pv 1) (pa_cons (pe_meth (pv 0) T.cl_Change T.m_Change_nodes_at (ok_Change_nodes_at T) hr T.b_Change_nodes_at .nil pass0 (pa_cons (pv 2) pa_nil)) pa_nil)))))
  (pss_one (ps_ret (pv 1))))), ?_⟩
  exact run_q (cn := cnOf K A) (body := b_all_nodes) ((gd_seq (gd_asg (GdQ.g (gd_lst gd_nil (by decide))) gd_nm)
  (gd_seq (gd_clr (gd_for (gd_itR1 (GdQ.g (gd_op2 o2_add (GdQ.v (gd_met T.k_Change gd_var gd_nil)) (GdQ.v (gd_c rfl))))) gd_nm
 (gd_clr (gd_ext (GdQ.g (GdQ.fz (gd_met T.k_Change gd_var (gd_cons gd_var gd_nil))))))))
  (gd_ret gd_mv)))) h N_all_nodes rfl
theorem sc_fair_at : FnScope N_fair_at P_fair_at (defScope s_fair_at) := ⟨rfl, rfl, rfl, by decide +kernel, rfl, by decide +kernel, by decide +kernel⟩
theorem ok_fair_at (T : Txt K mg A) : FnOk P w K mg base CX0 2 A.f_fair_at A.d_fair_at P_fair_at (SpQ (cnOf K A) f_fair_at) := by
  refine T.F_fair_at.ok sc_fair_at (fun vs H Q E h => SpQ.len h) (fun cdv A_ outer s H vs Q E hr h => ?_)
  have nd := sc_fair_at.nd
  refine ⟨_, (pss_cons (pst 3 nd (pe_dget (hu_of hr) (pv 1) (pv 2) (fun _ _ => rfl)))
  (pss_cons (ps_if (PW.pt (pw_and (pt_val (pe_meth (pv 0) T.cl_Change T.m_Change_is_end (ok_Change_is_end T) hr T.b_Change_is_end .nil pass0 (pa_cons (pv 2) pa_nil))) (pw_and1 (PW.pt (pw_or (pt_cmp (pc_isN (pv 3))) (pw_or1 (pt_cmpR op_gt (pv 3) pe_int (nomark _))))))))
 (pss_one (ps_ret pe_bl))
 pss_nil)
  (pss_cons (ps_for PassesOwn.never rfl (piL K (pe_meth (pv 0) T.cl_Change T.m_Change_moves_from (ok_Change_moves_from T) hr T.b_Change_moves_from .nil pass0 (pa_cons (pv 2) pa_nil))) (ptup K 3 (pgs_cons (pnm 4 nd) (pgs_cons (pnm 5 nd) (pgs_cons (pnm 6 nd) pgs_nil))))
 (pss_cons (pst 7 nd (pe_dget (hu_of hr) (pv 1) (pv 6) (fun _ _ => rfl)))
  (pss_one (ps_if (PW.pt (pw_and (pt_cmp (pc_notN (pv 7))) (pw_and1 (PW.pt (pw_or (pt_cmp (pc_isN (pv 3))) (pw_or1 (pt_cmpR op_gt (pv 3) (pe_op (addK K) (pv 4) (pv 7)) (nomark _))))))))
 (pss_one (ps_ret pe_bl))
 pss_nil))))
  (pss_one (ps_ret pe_bl))))), ?_⟩
  exact run_q (cn := cnOf K A) (body := b_fair_at) ((gd_seq (gd_asg (GdQ.g (GdV.q (gd_dget gd_var gd_var))) gd_nm)
  (gd_seq (gd_ifS (GdT.g (gd_and (gd_val (GdQ.v (gd_met T.k_Change gd_var (gd_cons gd_var gd_nil)))) (gd_or (gd_val (GdQ.v (gd_isN gd_var))) (gd_test (GdQ.v (gd_op2 o2_gt gd_var (GdQ.v (gd_c rfl))))))))
 (gd_ret (GdQ.g (gd_c rfl)))
 gd_next)
  (gd_seq (gd_clr (gd_for (gd_itL (GdQ.g (GdQ.fz (gd_met T.k_Change gd_var (gd_cons gd_var gd_nil))))) (gd_ttp (gd_tcons gd_nm (gd_tcons gd_nm (gd_tcons gd_nm gd_tnil))) rfl)
 (gd_seq (gd_clr (gd_asg (GdQ.g (GdV.q (gd_dget gd_var gd_var))) gd_nm))
  (gd_clr (gd_ifS (GdT.g (gd_and (gd_val (GdQ.v (gd_notN gd_var))) (gd_or (gd_val (GdQ.v (gd_isN gd_var))) (gd_test (GdQ.v (gd_op2 o2_gt gd_var (GdQ.v (gd_op2 o2_add gd_var gd_var))))))))
 (gd_ret (GdQ.g (gd_c rfl)))
 gd_next)))))
  (gd_ret (GdQ.g (gd_c rfl))))))) h N_fair_at rfl
theorem sc_is_price : FnScope N_is_price P_is_price (defScope s_is_price) := ⟨rfl, rfl, rfl, by decide +kernel, rfl, by decide +kernel, by decide +kernel⟩
theorem ok_is_price (T : Txt K mg A) : FnOk P w K mg base CX0 1 A.f_is_price A.d_is_price P_is_price (SpQ (cnOf K A) f_is_price) := by
  refine T.F_is_price.ok sc_is_price (fun vs H Q E h => SpQ.len h) (fun cdv A_ outer s H vs Q E hr h => ?_)
  have nd := sc_is_price.nd
  refine ⟨_, (pss_cons (ps_if (pt_cmp (pc_isN (pv 0)))
 (pss_one (ps_ret pe_bl))
 pss_nil)
  (pss_one (ps_ret (pe_and (pe_callB (isiK K) rfl T.z_isinstance PyProof.Rows.boot_isinstance (pa_cons (pv 0) (pa_cons (pe_bltn (v := .ty "int") rfl T.z_int PyProof.Rows.boot_int rfl) pa_nil))) (pe_one (pe_not (pe_callB (isiK K) rfl T.z_isinstance PyProof.Rows.boot_isinstance (pa_cons (pv 0) (pa_cons (pe_bltn (v := .ty "bool") rfl T.z_bool PyProof.Rows.boot_bool rfl) pa_nil))))))))), ?_⟩
  exact run_q (cn := cnOf K A) (body := b_is_price) ((gd_seq (gd_ifS (GdT.g (gd_val (GdQ.v (gd_isN gd_var))))
 (gd_ret (GdQ.g (gd_c rfl)))
 gd_next)
  (gd_ret (GdQ.g (gd_andV (GdQ.v (gd_isi gd_var)) (GdQ.v (gd_notV (GdQ.v (gd_isi gd_var))))))))) h N_is_price rfl
theorem sc_fair : FnScope N_fair P_fair (defScope s_fair) := ⟨rfl, rfl, rfl, by decide +kernel, rfl, by decide +kernel, by decide +kernel⟩
theorem ok_fair (T : Txt K mg A) : FnOk P w K mg base CX0 3 A.f_fair A.d_fair P_fair (SpQ (cnOf K A) f_fair) := by
  refine T.F_fair.ok sc_fair (fun vs H Q E h => SpQ.len h) (fun cdv A_ outer s H vs Q E hr h => ?_)
  have nd := sc_fair.nd
  refine ⟨_, (pss_cons (pst 2 nd (pe_call (ok_all_nodes T) hr rfl T.g_all_nodes T.F_all_nodes.kp T.b_all_nodes .nil pass0 (pa_cons (pv 0) pa_nil)))
  (pss_cons (ps_if (PW.pt (pw_or (pt_not (pt_val (pe_callB (isiK K) rfl T.z_isinstance PyProof.Rows.boot_isinstance (pa_cons (pv 1) (pa_cons (pe_bltn (v := .ty "dict") rfl T.z_dict PyProof.Rows.boot_dict rfl) pa_nil))))) (pw_or1 (pt_cmpR (neK K hr.units) (pe_callB (lenK K) rfl T.z_len PySem.boot_len (pa_cons (pv 1) pa_nil)) (pe_callB (lenK K) rfl T.z_len PySem.boot_len (pa_cons (pv 2) pa_nil)) (nomark _)))))
 (pss_one (ps_ret pe_bl))
 pss_nil)
  (pss_cons (ps_for PassesOwn.never rfl (piL K (pv 2)) (pnm 3 nd)
 (pss_one (ps_if (PW.pt (pw_or (pt_cmp (pc_dnotin (hu_of hr) (pv 3) (pv 1))) (pw_or1 (pt_not (pt_val (pe_call (ok_is_price T) (hr.mono (by decide)) rfl T.g_is_price T.F_is_price.kp T.b_is_price .nil pass0 (pa_cons (pe_dget (hu_of hr) (pv 1) (pv 3) (fun _ _ => rfl)) pa_nil)))))))
 (pss_one (ps_ret pe_bl))
 pss_nil)))
  (pss_cons (ps_for PassesOwn.never rfl (piL K (pv 2)) (pnm 3 nd)
 (pss_one (ps_if (pt_not (pt_val (pe_call (ok_fair_at T) hr rfl T.g_fair_at T.F_fair_at.kp T.b_fair_at .nil pass0 (pa_cons (pv 0) (pa_cons (pv 1) (pa_cons (pv 3) pa_nil))))))
 (pss_one (ps_ret pe_bl))
 pss_nil)))
  (pss_one (ps_ret pe_bl)))))), ?_⟩
  exact run_q (cn := cnOf K A) (body := b_fair) ((gd_seq (gd_asg (GdQ.g (GdQ.fz (gd_fn (gd_cons gd_var gd_nil)))) gd_nm)
  (gd_seq (gd_ifS (GdT.g (gd_or (gd_not (gd_val (GdQ.v (gd_isi gd_var)))) (gd_test (GdQ.v (gd_op2 o2_ne (GdQ.v (gd_call c_len (gd_cons gd_var gd_nil))) (GdQ.v (gd_call c_len (gd_cons gd_var gd_nil))))))))
 (gd_ret (GdQ.g (gd_c rfl)))
 gd_next)
  (gd_seq (gd_clr (gd_for (gd_itL (GdQ.g (GdV.q gd_var))) gd_nm
 (gd_clr (gd_ifS (GdT.g (gd_or (gd_val (GdQ.v (gd_dnotin gd_var gd_var))) (gd_not (gd_val (GdQ.v (gd_fn (gd_cons (gd_dget gd_var gd_var) gd_nil)))))))
 (gd_ret (GdQ.g (gd_c rfl)))
 gd_next))))
  (gd_seq (gd_clr (gd_for (gd_itL (GdQ.g (GdV.q gd_var))) gd_nm
 (gd_clr (gd_ifS (GdT.g (gd_not (gd_val (GdQ.v (gd_fn (gd_cons gd_var (gd_cons gd_var (gd_cons gd_var gd_nil))))))))
 (gd_ret (GdQ.g (gd_c rfl)))
 gd_next))))
  (gd_ret (GdQ.g (gd_c rfl)))))))) h N_fair rfl
theorem sc_law_row_priced : FnScope N_law_row_priced P_law_row_priced (defScope s_law_row_priced) := ⟨rfl, rfl, rfl, by decide +kernel, rfl, by decide +kernel, by decide +kernel⟩
theorem ok_law_row_priced (T : Txt K mg A) : FnOk P w K mg base CX0 6 A.f_law_row_priced A.d_law_row_priced P_law_row_priced (SpQ (cnOf K A) f_law_row_priced) := by
  refine T.F_law_row_priced.ok sc_law_row_priced (fun vs H Q E h => SpQ.len h) (fun cdv A_ outer s H vs Q E hr h => ?_)
  have nd := sc_law_row_priced.nd
  refine ⟨_, (pss_cons (pst 5 nd (pe_make T.mk_Change (ok_Change_init T) (hr.mono (by decide)) rfl T.g_Change T.b_Change_init .nil pass0 (pa_cons (pv 0) (pa_cons (pv 1) pa_nil))))
  (pss_cons (ps_setLc (i := 6) (own := [("one", 7), ("two", 8)]) rfl nd rfl rfl (sw_true rfl rfl rfl (by decide +kernel)) (pi_zip rfl T.z_zip (pa_cons (pv 2) (pa_cons (pv 3) pa_nil))) (blkOk_by (N := N_law_row_priced) (sc := defScope s_law_row_priced) (own := [("one", 7), ("two", 8)]) (by decide +kernel)) (fun _ _ _ _ _ => (ptup K 2 (pgs_cons (pnm 7 nd) (pgs_cons (pnm 8 nd) pgs_nil)))) (fun _ _ _ _ _ => pts_nil) (fun _ _ _ _ _ => (pe_call (ok_law_least T) (hr.mono (by decide)) rfl T.g_law_least T.F_law_least.kp T.b_law_least .nil pass0 (pa_cons (pv 7) (pa_cons (pv 8) pa_nil)))))
  (pss_cons (ps_par (i := 9) (j := 10) rfl nd rfl rfl (by decide) rfl rfl (pa_cons (pe_call (ok_priced T) (hr.mono (by decide)) rfl T.g_priced T.F_priced.kp T.b_priced .nil pass0 (pa_cons (pv 5) pa_nil)) (pa_cons pe_int pa_nil)) rfl)
  (pss_cons (ps_if (PW.pt (pw_or (pt_cmpR (neK K hr.units) (pe_lst (pa_cons (pe_dget (hu_of hr) (pv 9) (pe_tup (pa_cons pe_int (pa_cons pe_int pa_nil))) (fun _ _ => rfl)) (pa_cons (pe_ix (ixK K) (pe_call (ok_way_of T) hr rfl T.g_way_of T.F_way_of.kp T.b_way_of .nil pass0 (pa_cons (pv 5) pa_nil)) pe_int (fun _ _ => rfl)) pa_nil))) (pe_op opMulA (pe_lst (pa_cons (pe_callB (sumAK K) rfl T.z_sum PyProof.Rows.boot_sum (pa_cons (pv 6) pa_nil)) pa_nil)) pe_int) (nomark _)) (pw_or1 (pt_cmpR op_isnot_bl (pe_call (ok_fair T) (hr.mono (by decide)) rfl T.g_fair T.F_fair.kp T.b_fair .nil pass0 (pa_cons (pv 5) (pa_cons (pv 9) pa_nil))) pe_bl (nomark _)))))
 (pss_one (ps_ret pe_bl))
 pss_nil)
  (pss_cons (ps_for PassesOwn.never rfl (pi_enum rfl T.z_enumerate (pa_cons (pv 4) pa_nil)) (ptup K 2 (pgs_cons (pnm 11 nd) (pgs_cons (ptup K 2 (pgs_cons (pnm 12 nd) (pgs_cons (pnm 13 nd) pgs_nil))) pgs_nil)))
 (pss_cons (ps_aug (i := 10) nd rfl (by first | exact Or.inl rfl | exact Or.inr rfl) (pv 12) ip_add)
  (pss_cons (pst 14 nd (pe_callB (lenK K) rfl T.z_len PySem.boot_len (pa_cons (pe_lc (own := [("cell", 15)]) rfl nd (piL K (pe_slice (slK K) (pv 1) po_none (po_some (pv 10)))) (blkOk_by (N := N_law_row_priced) (sc := defScope s_law_row_priced) (own := [("cell", 15)]) (by decide +kernel)) (fun _ _ _ _ _ => (pnm 15 nd)) (fun _ _ _ _ _ => (pts_one (pt_cmpR (neK K hr.units) (pe_ix (ixK K) (pv 15) pe_int (fun _ _ => rfl)) pe_str (nomark _)))) (fun _ _ _ _ _ => (pv 15))) pa_nil)))
  (pss_cons (ps_if (pt_cmpR (neK K hr.units) (pe_dget (hu_of hr) (pv 9) (pe_tup (pa_cons (pv 14) (pa_cons pe_int pa_nil))) (fun _ _ => rfl)) (pe_callB (sumAK K) rfl T.z_sum PyProof.Rows.boot_sum (pa_cons (pe_slice (slK K) (pv 6) (po_some (pe_op (addK K) (pv 11) pe_int)) po_none) pa_nil)) (nomark _))
 (pss_one (ps_ret pe_bl))
 pss_nil)
  (pss_one (ps_aug (i := 10) nd rfl (by first | exact Or.inl rfl | exact Or.inr rfl) (pv 13) ip_add))))))
  (pss_one (ps_ret (pe_cmpR (eqK K hr.units) (pe_dget (hu_of hr) (pv 9) (pe_tup (pa_cons (pe_callB (lenK K) rfl T.z_len PySem.boot_len (pa_cons (pe_lc (own := [("cell", 15)]) rfl nd (piL K (pv 1)) (blkOk_by (N := N_law_row_priced) (sc := defScope s_law_row_priced) (own := [("cell", 15)]) (by decide +kernel)) (fun _ _ _ _ _ => (pnm 15 nd)) (fun _ _ _ _ _ => (pts_one (pt_cmpR (neK K hr.units) (pe_ix (ixK K) (pv 15) pe_int (fun _ _ => rfl)) pe_str (nomark _)))) (fun _ _ _ _ _ => (pv 15))) pa_nil)) (pa_cons pe_int pa_nil))) (fun _ _ => rfl)) pe_int (nomark _))))))))), ?_⟩
  exact run_q (cn := cnOf K A) (body := b_law_row_priced) ((gd_seq (gd_asg (GdQ.g (GdQ.fz (gd_mk (n := 2) T.k_Change (gd_cons gd_var (gd_cons gd_var gd_nil)) rfl))) gd_nm)
  (gd_seq (gd_clr (gd_asg (gd_comp (own := [7, 8]) (gd_itZ (GdQ.g (GdV.q gd_var)) (GdQ.g (GdV.q gd_var))) (gd_ttp (gd_tcons gd_nm (gd_tcons gd_nm gd_tnil)) rfl) gd_yes (GdQ.g (GdQ.fz (gd_fn (gd_cons gd_var (gd_cons gd_var gd_nil))))) (by decide)) gd_nm))
  (gd_seq (gd_par (GdQ.g (GdQ.fz (gd_fn (gd_cons gd_var gd_nil)))) (GdQ.g (gd_c rfl)))
  (gd_seq (gd_clr (gd_ifS (GdT.g (gd_or (gd_test (GdQ.v (gd_op2 o2_ne (GdQ.v (gd_lst (gd_cons (gd_dget gd_var (GdQ.v (gd_tup (gd_cons (GdQ.v (gd_c rfl)) (gd_cons (GdQ.v (gd_c rfl)) gd_nil)) (by decide)))) (gd_cons (gd_op2v o2_ix (GdQ.v (gd_fn (gd_cons gd_var gd_nil))) (GdQ.v (gd_c rfl))) gd_nil)) (by decide))) (GdQ.v (gd_op2 o2_mulA (GdQ.v (gd_lst (gd_cons (GdQ.v (gd_call c_sumA (gd_cons gd_var gd_nil))) gd_nil) (by decide))) (GdQ.v (gd_c rfl))))))) (gd_test (GdQ.v (gd_op2 o2_notB (GdQ.v (gd_fn (gd_cons gd_var (gd_cons gd_var gd_nil)))) (GdQ.v (gd_c rfl)))))))
 (gd_ret (GdQ.g (gd_c rfl)))
 gd_next))
  (gd_seq (gd_clr (gd_for (gd_itE (GdQ.g (GdV.q gd_var))) (gd_ttp (gd_tcons gd_nm (gd_tcons (gd_ttp (gd_tcons gd_nm (gd_tcons gd_nm gd_tnil)) rfl) gd_tnil)) rfl)
 (gd_seq (gd_clr (gd_aug (GdQ.g (GdV.q gd_var))))
  (gd_seq (gd_clr (gd_asg (gd_callG c_len (gd_consG (gd_comp (own := [15]) (gd_itL (GdQ.g (gd_sl gd_var gd_po0 (gd_po1 gd_var)))) gd_nm (GdT.g (gd_test (GdQ.v (gd_op2 o2_ne (gd_op2v o2_ix gd_var (GdQ.v (gd_c rfl))) (GdQ.v (gd_c rfl)))))) (GdQ.g (GdV.q gd_var)) (by decide)) gd_nilG)) gd_nm))
  (gd_seq (gd_clr (gd_ifS (GdT.g (gd_test (GdQ.v (gd_op2 o2_ne (gd_dget gd_var (GdQ.v (gd_tup (gd_cons gd_var (gd_cons (GdQ.v (gd_c rfl)) gd_nil)) (by decide)))) (GdQ.v (gd_call c_sumA (gd_cons (GdQ.v (gd_sl gd_var (gd_po1 (GdQ.v (gd_op2 o2_add gd_var (GdQ.v (gd_c rfl))))) gd_po0)) gd_nil)))))))
 (gd_ret (GdQ.g (gd_c rfl)))
 gd_next))
  (gd_clr (gd_aug (GdQ.g (GdV.q gd_var)))))))))
  (gd_ret (gd_op2g o2_eq (gd_dgetS (gd_tupG (gd_consG (gd_callG c_len (gd_consG (gd_comp (own := [15]) (gd_itL (GdQ.g (GdV.q gd_var))) gd_nm (GdT.g (gd_test (GdQ.v (gd_op2 o2_ne (gd_op2v o2_ix gd_var (GdQ.v (gd_c rfl))) (GdQ.v (gd_c rfl)))))) (GdQ.g (GdV.q gd_var)) (by decide)) gd_nilG)) (gd_consG (GdQ.g (gd_c rfl)) gd_nilG)) (by decide))) (GdQ.g (gd_c rfl)))))))))) h N_law_row_priced rfl
theorem sc_cost_of : FnScope N_cost_of P_cost_of (defScope s_cost_of) := ⟨rfl, rfl, rfl, by decide +kernel, rfl, by decide +kernel, by decide +kernel⟩
theorem ok_cost_of (T : Txt K mg A) : FnOk P w K mg base CX0 1 A.f_cost_of A.d_cost_of P_cost_of (SpQ (cnOf K A) f_cost_of) := by
  refine T.F_cost_of.ok sc_cost_of (fun vs H Q E h => SpQ.len h) (fun cdv A_ outer s H vs Q E hr h => ?_)
  have nd := sc_cost_of.nd
  refine ⟨_, (pss_one (ps_ret (pe_callB (sumAK K) rfl T.z_sum PyProof.Rows.boot_sum (pa_cons (pe_lc (own := [("row", 1), ("col", 2), ("cells", 3)]) rfl nd (piL K (pv 0)) (blkOk_by (N := N_cost_of) (sc := defScope s_cost_of) (own := [("row", 1), ("col", 2), ("cells", 3)]) (by decide +kernel)) (fun _ _ _ _ _ => (ptup K 3 (pgs_cons (pnm 1 nd) (pgs_cons (pnm 2 nd) (pgs_cons (pnm 3 nd) pgs_nil))))) (fun _ _ _ _ _ => pts_nil) (fun _ _ _ _ _ => (pe_op (addK K) (pe_glob (v := .int 4) rfl T.c_BEGIN ⟨_, rfl⟩) (pe_callB (lenK K) rfl T.z_len PySem.boot_len (pa_cons (pv 3) pa_nil))))) pa_nil)))), ?_⟩
  exact run_q (cn := cnOf K A) (body := b_cost_of) ((gd_ret (gd_callG c_sumA (gd_consG (gd_comp (own := [1, 2, 3]) (gd_itL (GdQ.g (GdV.q gd_var))) (gd_ttp (gd_tcons gd_nm (gd_tcons gd_nm (gd_tcons gd_nm gd_tnil))) rfl) gd_yes (GdQ.g (gd_op2 o2_add (GdQ.v (gd_c rfl)) (GdQ.v (gd_call c_len (gd_cons gd_var gd_nil))))) (by decide)) gd_nilG)))) h N_cost_of rfl
theorem sc_law_sums : FnScope N_law_sums P_law_sums (defScope s_law_sums) := ⟨rfl, rfl, rfl, by decide +kernel, rfl, by decide +kernel, by decide +kernel⟩
theorem ok_law_sums (T : Txt K mg A) : FnOk P w K mg base CX0 2 A.f_law_sums A.d_law_sums P_law_sums (SpQ (cnOf K A) f_law_sums) := by
  refine T.F_law_sums.ok sc_law_sums (fun vs H Q E h => SpQ.len h) (fun cdv A_ outer s H vs Q E hr h => ?_)
  have nd := sc_law_sums.nd
  refine ⟨_, (pss_cons (pst 3 nd pe_int)
  (pss_cons (ps_for PassesOwn.never rfl (pi_zip rfl T.z_zip (pa_cons (pe_ix (ixK K) (pe_ix (ixK K) (pv 0) (pv 1) (fun _ _ => rfl)) pe_int (fun _ _ => rfl)) (pa_cons (pe_ix (ixK K) (pe_ix (ixK K) (pv 0) (pv 2) (fun _ _ => rfl)) pe_int (fun _ _ => rfl)) pa_nil))) (ptup K 2 (pgs_cons (pnm 4 nd) (pgs_cons (pnm 5 nd) pgs_nil)))
 (pss_one (ps_aug (i := 3) nd rfl (by first | exact Or.inl rfl | exact Or.inr rfl) (pe_callB (sumAK K) rfl T.z_sum PyProof.Rows.boot_sum (pa_cons (pe_lc (own := [("block", 6), ("other", 7)]) rfl nd (pi_zip rfl T.z_zip (pa_cons (pv 4) (pa_cons (pv 5) pa_nil))) (blkOk_by (N := N_law_sums) (sc := defScope s_law_sums) (own := [("block", 6), ("other", 7)]) (by decide +kernel)) (fun _ _ _ _ _ => (ptup K 2 (pgs_cons (pnm 6 nd) (pgs_cons (pnm 7 nd) pgs_nil)))) (fun _ _ _ _ _ => pts_nil) (fun _ _ _ _ _ => (pe_call (ok_law_least T) hr rfl T.g_law_least T.F_law_least.kp T.b_law_least .nil pass0 (pa_cons (pv 6) (pa_cons (pv 7) pa_nil))))) pa_nil)) ip_add)))
  (pss_one (ps_ret (pv 3))))), ?_⟩
  exact run_q (cn := cnOf K A) (body := b_law_sums) ((gd_seq (gd_asg (GdQ.g (gd_c rfl)) gd_nm)
  (gd_seq (gd_clr (gd_for (gd_itZ (GdQ.g (GdV.q (gd_op2v o2_ix (gd_op2v o2_ix gd_var gd_var) (GdQ.v (gd_c rfl))))) (GdQ.g (GdV.q (gd_op2v o2_ix (gd_op2v o2_ix gd_var gd_var) (GdQ.v (gd_c rfl)))))) (gd_ttp (gd_tcons gd_nm (gd_tcons gd_nm gd_tnil)) rfl)
 (gd_clr (gd_aug (gd_callG c_sumA (gd_consG (gd_comp (own := [6, 7]) (gd_itZ (GdQ.g (GdV.q gd_var)) (GdQ.g (GdV.q gd_var))) (gd_ttp (gd_tcons gd_nm (gd_tcons gd_nm gd_tnil)) rfl) gd_yes (GdQ.g (GdQ.fz (gd_fn (gd_cons gd_var (gd_cons gd_var gd_nil))))) (by decide)) gd_nilG))))))
  (gd_ret gd_mv)))) h N_law_sums rfl
theorem sc_patched : FnScope N_patched P_patched (defScope s_patched) := ⟨rfl, rfl, rfl, by decide +kernel, rfl, by decide +kernel, by decide +kernel⟩
theorem ok_patched (T : Txt K mg A) : FnOk P w K mg base CX0 1 A.f_patched A.d_patched P_patched (SpQ (cnOf K A) f_patched) := by
  refine T.F_patched.ok sc_patched (fun vs H Q E h => SpQ.len h) (fun cdv A_ outer s H vs Q E hr h => ?_)
  have nd := sc_patched.nd
  refine ⟨_, (pss_cons (ps_setLc (i := 2) (own := [("row", 3)]) rfl nd rfl rfl (sw_true rfl rfl rfl (by decide +kernel)) (piL K (pv 0)) (blkOk_by (N := N_patched) (sc := defScope s_patched) (own := [("row", 3)]) (by decide +kernel)) (fun _ _ _ _ _ => (pnm 3 nd)) (fun _ _ _ _ _ => pts_nil) (fun _ _ _ _ _ => (pe_callTy (listK K) rfl T.z_list PyProof.Rows.boot_list (pa_cons (pv 3) pa_nil))))
  (pss_cons (ps_for PassesOwn.never rfl (piL K (pv 1)) (ptup K 3 (pgs_cons (pnm 3 nd) (pgs_cons (pnm 4 nd) (pgs_cons (pnm 5 nd) pgs_nil))))
 (pss_cons (pst 6 nd (pe_ix (ixK K) (pv 2) (pv 3) (fun _ _ => rfl)))
  (pss_one (ps_asg (pe_op (addK K) (pe_op (addK K) (pe_slice (slK K) (pv 6) po_none (po_some (pv 4))) (pe_callTy (listK K) rfl T.z_list PyProof.Rows.boot_list (pa_cons (pv 5) pa_nil))) (pe_slice (slK K) (pv 6) (po_some (pe_op (addK K) (pv 4) (pe_callB (lenK K) rfl T.z_len PySem.boot_len (pa_cons (pv 5) pa_nil)))) po_none)) (pg_sub (pv 2) (pv 3) set_list)))))
  (pss_one (ps_ret (pv 2))))), ?_⟩
  exact run_q (cn := cnOf K A) (body := b_patched) ((gd_seq (gd_clr (gd_asg (gd_comp (own := [3]) (gd_itL (GdQ.g (GdV.q gd_var))) gd_nm gd_yes (GdQ.g (gd_call c_list (gd_cons gd_var gd_nil))) (by decide)) gd_nm))
  (gd_seq (gd_clr (gd_for (gd_itL (GdQ.g (GdV.q gd_var))) (gd_ttp (gd_tcons gd_nm (gd_tcons gd_nm (gd_tcons gd_nm gd_tnil))) rfl)
 (gd_seq (gd_asg (GdQ.g (GdV.q (gd_op2v o2_ix gd_var gd_var))) gd_nm)
  (gd_clr (gd_set gd_var (GdQ.g (gd_op2 o2_add (GdQ.v (gd_op2 o2_add (GdQ.v (gd_sl gd_var gd_po0 (gd_po1 gd_var))) (GdQ.v (gd_call c_list (gd_cons gd_var gd_nil))))) (GdQ.v (gd_sl gd_var (gd_po1 (GdQ.v (gd_op2 o2_add gd_var (GdQ.v (gd_call c_len (gd_cons gd_var gd_nil)))))) gd_po0)))))))))
  (gd_ret gd_mv)))) h N_patched rfl
theorem sc_law : FnScope N_law P_law (defScope s_law) := ⟨rfl, rfl, rfl, by decide +kernel, rfl, by decide +kernel, by decide +kernel⟩
theorem ok_law (T : Txt K mg A) (hf : LawHolds) : FnOk P w K mg base CX0 8 A.f_law A.d_law P_law (spLaw K) := by
  refine T.F_law.ok sc_law (fun vs H Q E h => SpQ.len (spLaw_q (cn := cnOf K A) hf h)) (fun cdv A_ outer s H vs Q E hr h => ?_)
  have nd := sc_law.nd
  have h := spLaw_q (cn := cnOf K A) hf h
  refine ⟨_, (pss_cons (pst 1 nd (pe_call (ok_law_bag T) (hr.mono (by decide)) rfl T.g_law_bag T.F_law_bag.kp T.b_law_bag .nil pass0 (pa_cons (pv 0) pa_nil)))
  (pss_cons (ps_for PassesOwn.never rfl (pi_range1 rfl T.z_range (pa_cons pe_int pa_nil)) (pnm 2 nd)
 (pss_cons (pst 3 nd (pe_call (ok_law_shape T) (hr.mono (by decide)) rfl T.g_law_shape T.F_law_shape.kp T.b_law_shape .nil pass0 (pa_cons (pv 1) pa_nil)))
  (pss_cons (pst 4 nd (pe_call (ok_law_pictures T) (hr.mono (by decide)) rfl T.g_law_pictures T.F_law_pictures.kp T.b_law_pictures .nil pass0 (pa_cons (pv 1) (pa_cons (pv 3) pa_nil))))
  (pss_cons (ps_for PassesOwn.never rfl (pi_range1 rfl T.z_range (pa_cons pe_int pa_nil)) (pnm 5 nd)
 (pss_one (ps_for PassesOwn.never rfl (pi_range1 rfl T.z_range (pa_cons pe_int pa_nil)) (pnm 6 nd)
 (pss_cons (pst 7 nd (pe_call (ok_patch T) hr rfl T.g_patch T.F_patch.kp T.b_patch .nil pass0 (pa_cons (pe_ix (ixK K) (pe_ix (ixK K) (pv 4) (pv 5) (fun _ _ => rfl)) pe_int (fun _ _ => rfl)) (pa_cons (pe_ix (ixK K) (pe_ix (ixK K) (pv 4) (pv 6) (fun _ _ => rfl)) pe_int (fun _ _ => rfl)) pa_nil))))
  (pss_cons (ps_if (pt_cmpR (neK K hr.units) (pe_call (ok_cost_of T) (hr.mono (by decide)) rfl T.g_cost_of T.F_cost_of.kp T.b_cost_of .nil pass0 (pa_cons (pv 7) pa_nil)) (pe_call (ok_law_sums T) (hr.mono (by decide)) rfl T.g_law_sums T.F_law_sums.kp T.b_law_sums .nil pass0 (pa_cons (pv 4) (pa_cons (pv 5) (pa_cons (pv 6) pa_nil)))) (nomark _))
 (pss_one (ps_ret pe_bl))
 pss_nil)
  (pss_one (ps_if (pt_cmpR (neK K hr.units) (pe_call (ok_patched T) (hr.mono (by decide)) rfl T.g_patched T.F_patched.kp T.b_patched .nil pass0 (pa_cons (pe_ix (ixK K) (pe_ix (ixK K) (pv 4) (pv 5) (fun _ _ => rfl)) pe_int (fun _ _ => rfl)) (pa_cons (pv 7) pa_nil))) (pe_ix (ixK K) (pe_ix (ixK K) (pv 4) (pv 6) (fun _ _ => rfl)) pe_int (fun _ _ => rfl)) (nomark _))
 (pss_one (ps_ret pe_bl))
 pss_nil)))))))
  (pss_cons (ps_asg (pe_tup (pa_cons (pe_ix (ixK K) (pv 4) pe_int (fun _ _ => rfl)) (pa_cons (pe_ix (ixK K) (pv 4) pe_int (fun _ _ => rfl)) pa_nil))) (ptup K 2 (pgs_cons (ptup K 2 (pgs_cons (pnm 8 nd) (pgs_cons (pnm 9 nd) pgs_nil))) (pgs_cons (ptup K 2 (pgs_cons (pnm 10 nd) (pgs_cons (pnm 11 nd) pgs_nil))) pgs_nil))))
  (pss_one (ps_for PassesOwn.never rfl (piL K (pe_slice (slK K) (pe_listZK K zipB_4 (by decide) (by decide) rfl rfl T.z_list rfl T.z_zip (pa_cons (pv 8) (pa_cons (pv 10) (pa_cons (pv 9) (pa_cons (pv 11) pa_nil))))) po_none (po_some pe_int))) (ptup K 4 (pgs_cons (pnm 12 nd) (pgs_cons (pnm 13 nd) (pgs_cons (pnm 14 nd) (pgs_cons (pnm 15 nd) pgs_nil)))))
 (pss_one (ps_if (pt_not (pt_val (pe_call (ok_law_row_priced T) (hr.mono (by decide)) rfl T.g_law_row_priced T.F_law_row_priced.kp T.b_law_row_priced .nil pass0 (pa_cons (pv 12) (pa_cons (pv 13) (pa_cons (pv 14) (pa_cons (pv 15) (pa_cons (pv 3) pa_nil))))))))
 (pss_one (ps_ret pe_bl))
 pss_nil)))))))))
  (pss_one (ps_ret pe_bl)))), ?_⟩
  exact run_q (cn := cnOf K A) (body := b_law) ((gd_seq (gd_asg (GdQ.g (gd_fn (gd_cons gd_var gd_nil))) gd_nm)
  (gd_seq (gd_clr (gd_for (gd_itR1 (GdQ.g (gd_c rfl))) gd_nm
 (gd_seq (gd_clr (gd_asg (GdG.fz (gd_gfn (ar_slot (.inl rfl) ar_nil))) gd_nm))
  (gd_seq (gd_asg (GdG.fz (gd_gfn (ar_slot (.inl rfl) (ar_slot (.inr rfl) ar_nil)))) gd_nm)
  (gd_seq (gd_clr (gd_for (gd_itR1 (GdQ.g (gd_c rfl))) gd_nm
 (gd_clr (gd_for (gd_itR1 (GdQ.g (gd_c rfl))) gd_nm
 (gd_seq (gd_asg (GdQ.g (GdQ.fz (gd_fn (gd_cons (gd_op2v o2_ix (gd_op2v o2_ix gd_var gd_var) (GdQ.v (gd_c rfl))) (gd_cons (gd_op2v o2_ix (gd_op2v o2_ix gd_var gd_var) (GdQ.v (gd_c rfl))) gd_nil))))) gd_nm)
  (gd_seq (gd_ifS (GdT.g (gd_test (GdQ.v (gd_op2 o2_ne (GdQ.v (gd_fn (gd_cons gd_var gd_nil))) (GdQ.v (gd_fn (gd_cons gd_var (gd_cons gd_var (gd_cons gd_var gd_nil)))))))))
 (gd_ret (GdQ.g (gd_c rfl)))
 gd_next)
  (gd_clr (gd_ifS (GdT.g (gd_test (GdQ.v (gd_op2 o2_ne (GdQ.v (gd_fn (gd_cons (gd_op2v o2_ix (gd_op2v o2_ix gd_var gd_var) (GdQ.v (gd_c rfl))) (gd_cons gd_var gd_nil)))) (gd_op2v o2_ix (gd_op2v o2_ix gd_var gd_var) (GdQ.v (gd_c rfl)))))))
 (gd_ret (GdQ.g (gd_c rfl)))
 gd_next))))))))
  (gd_seq (gd_clr (gd_asg (GdQ.g (gd_tup (gd_cons (gd_op2v o2_ix gd_var (GdQ.v (gd_c rfl))) (gd_cons (gd_op2v o2_ix gd_var (GdQ.v (gd_c rfl))) gd_nil)) (by decide))) (gd_ttp (gd_tcons (gd_ttp (gd_tcons gd_nm (gd_tcons gd_nm gd_tnil)) rfl) (gd_tcons (gd_ttp (gd_tcons gd_nm (gd_tcons gd_nm gd_tnil)) rfl) gd_tnil)) rfl)))
  (gd_clr (gd_for (gd_itL (GdQ.g (gd_sl (GdQ.v (gd_listZ (n := 4) (gd_cons gd_var (gd_cons gd_var (gd_cons gd_var (gd_cons gd_var gd_nil)))) rfl)) gd_po0 (gd_po1 (GdQ.v (gd_c rfl)))))) (gd_ttp (gd_tcons gd_nm (gd_tcons gd_nm (gd_tcons gd_nm (gd_tcons gd_nm gd_tnil)))) rfl)
 (gd_clr (gd_ifS (GdT.g (gd_not (gd_val (GdQ.v (gd_fn (gd_cons gd_var (gd_cons gd_var (gd_cons gd_var (gd_cons gd_var (gd_cons gd_var gd_nil))))))))))
 (gd_ret (GdQ.g (gd_c rfl)))
 gd_next))))))))))
  (gd_ret (GdQ.g (gd_c rfl)))))) h N_law rfl
end
theorem all_mk {l : PySem.W.OpenLaw} {w : World} {K : PySem.W.Frag} {h : Heap} {mg : Str → Option Value} {fa : Addr} (X : K.In h) (G : h.Ns mainGlobals mg) (hfa : mg "law" = some (.ref fa)) (hf : LawHolds)
    {ca_Change : Addr}
    {fa_law_bag : Addr} {od_law_bag an_law_bag : Option Addr} {sl_law_bag : Array (Option Value)} {oc_law_bag kV_law_bag dc_law_bag pm_law_bag cd_law_bag ct_law_bag : Value}
    {fa_law_take : Addr} {od_law_take an_law_take : Option Addr} {sl_law_take : Array (Option Value)} {oc_law_take kV_law_take dc_law_take pm_law_take cd_law_take ct_law_take : Value}
    {fa_law_shape : Addr} {od_law_shape an_law_shape : Option Addr} {sl_law_shape : Array (Option Value)} {oc_law_shape kV_law_shape dc_law_shape pm_law_shape cd_law_shape ct_law_shape : Value}
    {fa_law_one : Addr} {od_law_one an_law_one : Option Addr} {sl_law_one : Array (Option Value)} {oc_law_one kV_law_one dc_law_one pm_law_one cd_law_one ct_law_one : Value}
    {fa_law_block_cells : Addr} {od_law_block_cells an_law_block_cells : Option Addr} {sl_law_block_cells : Array (Option Value)} {oc_law_block_cells kV_law_block_cells dc_law_block_cells pm_law_block_cells cd_law_block_cells ct_law_block_cells : Value}
    {fa_law_rows_of : Addr} {od_law_rows_of an_law_rows_of : Option Addr} {sl_law_rows_of : Array (Option Value)} {oc_law_rows_of kV_law_rows_of dc_law_rows_of pm_law_rows_of cd_law_rows_of ct_law_rows_of : Value}
    {fa_law_pictures : Addr} {od_law_pictures an_law_pictures : Option Addr} {sl_law_pictures : Array (Option Value)} {oc_law_pictures kV_law_pictures dc_law_pictures pm_law_pictures cd_law_pictures ct_law_pictures : Value}
    {fa_Change_nodes_at : Addr} {od_Change_nodes_at an_Change_nodes_at : Option Addr} {sl_Change_nodes_at : Array (Option Value)} {oc_Change_nodes_at kV_Change_nodes_at dc_Change_nodes_at pm_Change_nodes_at cd_Change_nodes_at ct_Change_nodes_at : Value}
    {fa_Change_moves_from : Addr} {od_Change_moves_from an_Change_moves_from : Option Addr} {sl_Change_moves_from : Array (Option Value)} {oc_Change_moves_from kV_Change_moves_from dc_Change_moves_from pm_Change_moves_from cd_Change_moves_from ct_Change_moves_from : Value}
    {fa_cheapest : Addr} {od_cheapest an_cheapest : Option Addr} {sl_cheapest : Array (Option Value)} {oc_cheapest kV_cheapest dc_cheapest pm_cheapest cd_cheapest ct_cheapest : Value}
    {fa_settle : Addr} {od_settle an_settle : Option Addr} {sl_settle : Array (Option Value)} {oc_settle kV_settle dc_settle pm_settle cd_settle ct_settle : Value}
    {fa_Change_last_at : Addr} {od_Change_last_at an_Change_last_at : Option Addr} {sl_Change_last_at : Array (Option Value)} {oc_Change_last_at kV_Change_last_at dc_Change_last_at pm_Change_last_at cd_Change_last_at ct_Change_last_at : Value}
    {fa_Change_is_end : Addr} {od_Change_is_end an_Change_is_end : Option Addr} {sl_Change_is_end : Array (Option Value)} {oc_Change_is_end kV_Change_is_end dc_Change_is_end pm_Change_is_end cd_Change_is_end ct_Change_is_end : Value}
    {fa_priced : Addr} {od_priced an_priced : Option Addr} {sl_priced : Array (Option Value)} {oc_priced kV_priced dc_priced pm_priced cd_priced ct_priced : Value}
    {fa_Change_first_node : Addr} {od_Change_first_node an_Change_first_node : Option Addr} {sl_Change_first_node : Array (Option Value)} {oc_Change_first_node kV_Change_first_node dc_Change_first_node pm_Change_first_node cd_Change_first_node ct_Change_first_node : Value}
    {fa_first_least : Addr} {od_first_least an_first_least : Option Addr} {sl_first_least : Array (Option Value)} {oc_first_least kV_first_least dc_first_least pm_first_least cd_first_least ct_first_least : Value}
    {fa_way_of : Addr} {od_way_of an_way_of : Option Addr} {sl_way_of : Array (Option Value)} {oc_way_of kV_way_of dc_way_of pm_way_of cd_way_of ct_way_of : Value}
    {fa_spots_of : Addr} {od_spots_of an_spots_of : Option Addr} {sl_spots_of : Array (Option Value)} {oc_spots_of kV_spots_of dc_spots_of pm_spots_of cd_spots_of ct_spots_of : Value}
    {fa_Change_init : Addr} {od_Change_init an_Change_init : Option Addr} {sl_Change_init : Array (Option Value)} {oc_Change_init kV_Change_init dc_Change_init pm_Change_init cd_Change_init ct_Change_init : Value}
    {fa_row_writes : Addr} {od_row_writes an_row_writes : Option Addr} {sl_row_writes : Array (Option Value)} {oc_row_writes kV_row_writes dc_row_writes pm_row_writes cd_row_writes ct_row_writes : Value}
    {fa_patch : Addr} {od_patch an_patch : Option Addr} {sl_patch : Array (Option Value)} {oc_patch kV_patch dc_patch pm_patch cd_patch ct_patch : Value}
    {fa_law_least : Addr} {od_law_least an_law_least : Option Addr} {sl_law_least : Array (Option Value)} {oc_law_least kV_law_least dc_law_least pm_law_least cd_law_least ct_law_least : Value}
    {fa_all_nodes : Addr} {od_all_nodes an_all_nodes : Option Addr} {sl_all_nodes : Array (Option Value)} {oc_all_nodes kV_all_nodes dc_all_nodes pm_all_nodes cd_all_nodes ct_all_nodes : Value}
    {fa_fair_at : Addr} {od_fair_at an_fair_at : Option Addr} {sl_fair_at : Array (Option Value)} {oc_fair_at kV_fair_at dc_fair_at pm_fair_at cd_fair_at ct_fair_at : Value}
    {fa_is_price : Addr} {od_is_price an_is_price : Option Addr} {sl_is_price : Array (Option Value)} {oc_is_price kV_is_price dc_is_price pm_is_price cd_is_price ct_is_price : Value}
    {fa_fair : Addr} {od_fair an_fair : Option Addr} {sl_fair : Array (Option Value)} {oc_fair kV_fair dc_fair pm_fair cd_fair ct_fair : Value}
    {fa_law_row_priced : Addr} {od_law_row_priced an_law_row_priced : Option Addr} {sl_law_row_priced : Array (Option Value)} {oc_law_row_priced kV_law_row_priced dc_law_row_priced pm_law_row_priced cd_law_row_priced ct_law_row_priced : Value}
    {fa_cost_of : Addr} {od_cost_of an_cost_of : Option Addr} {sl_cost_of : Array (Option Value)} {oc_cost_of kV_cost_of dc_cost_of pm_cost_of cd_cost_of ct_cost_of : Value}
    {fa_law_sums : Addr} {od_law_sums an_law_sums : Option Addr} {sl_law_sums : Array (Option Value)} {oc_law_sums kV_law_sums dc_law_sums pm_law_sums cd_law_sums ct_law_sums : Value}
    {fa_patched : Addr} {od_patched an_patched : Option Addr} {sl_patched : Array (Option Value)} {oc_patched kV_patched dc_patched pm_patched cd_patched ct_patched : Value}
    {fa_law : Addr} {od_law an_law : Option Addr} {sl_law : Array (Option Value)} {oc_law kV_law dc_law pm_law cd_law ct_law : Value}
    {t_BEGIN : Tok}
    (cg_Change : PySem.W.nsIn K mainGlobals "Change" = some (some (.ref ca_Change)))
    (pg_Change : PySem.W.plainGet K ca_Change Str.empty = true)
    (hd_Change : PySem.W.hasDictIn K ca_Change = true)
    (po_Change : PySem.W.plainOver K ca_Change = true)
    (sa_Change : PySem.W.findIn K (.ref ca_Change) "__setattr__" = some (some (.builtin "object.__setattr__")))
    (na_Change_before : PySem.W.findIn K (.ref ca_Change) "before" = some none)
    (na_Change_behind : PySem.W.findIn K (.ref ca_Change) "behind" = some none)
    (na_Change_spots : PySem.W.findIn K (.ref ca_Change) "spots" = some none)
    (n_law_bag : PySem.W.nsIn K mainGlobals "_law_bag" = some (some (.ref fa_law_bag)))
    (l_law_bag : K.lookup fa_law_bag = some ⟨oc_law_bag, od_law_bag, .func (PySem.W.fnOf "_law_bag" "_law_bag" (defArgs s_law_bag) (defBody s_law_bag) (defScope s_law_bag) .none kV_law_bag dc_law_bag pm_law_bag an_law_bag cd_law_bag ct_law_bag), sl_law_bag⟩)
    (y_law_bag : PySem.W.codeIn K cd_law_bag "_law_bag" = true)
    (x_law_bag : PySem.W.keepIn K (.ref fa_law_bag) = true)
    (n_law_take : PySem.W.nsIn K mainGlobals "_law_take" = some (some (.ref fa_law_take)))
    (l_law_take : K.lookup fa_law_take = some ⟨oc_law_take, od_law_take, .func (PySem.W.fnOf "_law_take" "_law_take" (defArgs s_law_take) (defBody s_law_take) (defScope s_law_take) .none kV_law_take dc_law_take pm_law_take an_law_take cd_law_take ct_law_take), sl_law_take⟩)
    (y_law_take : PySem.W.codeIn K cd_law_take "_law_take" = true)
    (x_law_take : PySem.W.keepIn K (.ref fa_law_take) = true)
    (n_law_shape : PySem.W.nsIn K mainGlobals "_law_shape" = some (some (.ref fa_law_shape)))
    (l_law_shape : K.lookup fa_law_shape = some ⟨oc_law_shape, od_law_shape, .func (PySem.W.fnOf "_law_shape" "_law_shape" (defArgs s_law_shape) (defBody s_law_shape) (defScope s_law_shape) .none kV_law_shape dc_law_shape pm_law_shape an_law_shape cd_law_shape ct_law_shape), sl_law_shape⟩)
    (y_law_shape : PySem.W.codeIn K cd_law_shape "_law_shape" = true)
    (x_law_shape : PySem.W.keepIn K (.ref fa_law_shape) = true)
    (n_law_one : PySem.W.nsIn K mainGlobals "_law_one" = some (some (.ref fa_law_one)))
    (l_law_one : K.lookup fa_law_one = some ⟨oc_law_one, od_law_one, .func (PySem.W.fnOf "_law_one" "_law_one" (defArgs s_law_one) (defBody s_law_one) (defScope s_law_one) .none kV_law_one dc_law_one pm_law_one an_law_one cd_law_one ct_law_one), sl_law_one⟩)
    (y_law_one : PySem.W.codeIn K cd_law_one "_law_one" = true)
    (x_law_one : PySem.W.keepIn K (.ref fa_law_one) = true)
    (n_law_block_cells : PySem.W.nsIn K mainGlobals "_law_block_cells" = some (some (.ref fa_law_block_cells)))
    (l_law_block_cells : K.lookup fa_law_block_cells = some ⟨oc_law_block_cells, od_law_block_cells, .func (PySem.W.fnOf "_law_block_cells" "_law_block_cells" (defArgs s_law_block_cells) (defBody s_law_block_cells) (defScope s_law_block_cells) .none kV_law_block_cells dc_law_block_cells pm_law_block_cells an_law_block_cells cd_law_block_cells ct_law_block_cells), sl_law_block_cells⟩)
    (y_law_block_cells : PySem.W.codeIn K cd_law_block_cells "_law_block_cells" = true)
    (x_law_block_cells : PySem.W.keepIn K (.ref fa_law_block_cells) = true)
    (n_law_rows_of : PySem.W.nsIn K mainGlobals "_law_rows_of" = some (some (.ref fa_law_rows_of)))
    (l_law_rows_of : K.lookup fa_law_rows_of = some ⟨oc_law_rows_of, od_law_rows_of, .func (PySem.W.fnOf "_law_rows_of" "_law_rows_of" (defArgs s_law_rows_of) (defBody s_law_rows_of) (defScope s_law_rows_of) .none kV_law_rows_of dc_law_rows_of pm_law_rows_of an_law_rows_of cd_law_rows_of ct_law_rows_of), sl_law_rows_of⟩)
    (y_law_rows_of : PySem.W.codeIn K cd_law_rows_of "_law_rows_of" = true)
    (x_law_rows_of : PySem.W.keepIn K (.ref fa_law_rows_of) = true)
    (n_law_pictures : PySem.W.nsIn K mainGlobals "_law_pictures" = some (some (.ref fa_law_pictures)))
    (l_law_pictures : K.lookup fa_law_pictures = some ⟨oc_law_pictures, od_law_pictures, .func (PySem.W.fnOf "_law_pictures" "_law_pictures" (defArgs s_law_pictures) (defBody s_law_pictures) (defScope s_law_pictures) .none kV_law_pictures dc_law_pictures pm_law_pictures an_law_pictures cd_law_pictures ct_law_pictures), sl_law_pictures⟩)
    (y_law_pictures : PySem.W.codeIn K cd_law_pictures "_law_pictures" = true)
    (x_law_pictures : PySem.W.keepIn K (.ref fa_law_pictures) = true)
    (n_Change_nodes_at : PySem.W.findIn K (.ref ca_Change) "nodes_at" = some (some (.ref fa_Change_nodes_at)))
    (i_Change_nodes_at : PySem.W.isFn K (.ref fa_Change_nodes_at) = true)
    (l_Change_nodes_at : K.lookup fa_Change_nodes_at = some ⟨oc_Change_nodes_at, od_Change_nodes_at, .func (PySem.W.fnOf "nodes_at" "Change.nodes_at" (defArgs s_Change_nodes_at) (defBody s_Change_nodes_at) (defScope s_Change_nodes_at) .none kV_Change_nodes_at dc_Change_nodes_at pm_Change_nodes_at an_Change_nodes_at cd_Change_nodes_at ct_Change_nodes_at), sl_Change_nodes_at⟩)
    (y_Change_nodes_at : PySem.W.codeIn K cd_Change_nodes_at "Change.nodes_at" = true)
    (x_Change_nodes_at : PySem.W.keepIn K (.ref fa_Change_nodes_at) = true)
    (n_Change_moves_from : PySem.W.findIn K (.ref ca_Change) "moves_from" = some (some (.ref fa_Change_moves_from)))
    (i_Change_moves_from : PySem.W.isFn K (.ref fa_Change_moves_from) = true)
    (l_Change_moves_from : K.lookup fa_Change_moves_from = some ⟨oc_Change_moves_from, od_Change_moves_from, .func (PySem.W.fnOf "moves_from" "Change.moves_from" (defArgs s_Change_moves_from) (defBody s_Change_moves_from) (defScope s_Change_moves_from) .none kV_Change_moves_from dc_Change_moves_from pm_Change_moves_from an_Change_moves_from cd_Change_moves_from ct_Change_moves_from), sl_Change_moves_from⟩)
    (y_Change_moves_from : PySem.W.codeIn K cd_Change_moves_from "Change.moves_from" = true)
    (x_Change_moves_from : PySem.W.keepIn K (.ref fa_Change_moves_from) = true)
    (n_cheapest : PySem.W.nsIn K mainGlobals "cheapest" = some (some (.ref fa_cheapest)))
    (l_cheapest : K.lookup fa_cheapest = some ⟨oc_cheapest, od_cheapest, .func (PySem.W.fnOf "cheapest" "cheapest" (defArgs s_cheapest) (defBody s_cheapest) (defScope s_cheapest) .none kV_cheapest dc_cheapest pm_cheapest an_cheapest cd_cheapest ct_cheapest), sl_cheapest⟩)
    (y_cheapest : PySem.W.codeIn K cd_cheapest "cheapest" = true)
    (x_cheapest : PySem.W.keepIn K (.ref fa_cheapest) = true)
    (n_settle : PySem.W.nsIn K mainGlobals "settle" = some (some (.ref fa_settle)))
    (l_settle : K.lookup fa_settle = some ⟨oc_settle, od_settle, .func (PySem.W.fnOf "settle" "settle" (defArgs s_settle) (defBody s_settle) (defScope s_settle) .none kV_settle dc_settle pm_settle an_settle cd_settle ct_settle), sl_settle⟩)
    (y_settle : PySem.W.codeIn K cd_settle "settle" = true)
    (x_settle : PySem.W.keepIn K (.ref fa_settle) = true)
    (n_Change_last_at : PySem.W.findIn K (.ref ca_Change) "last_at" = some (some (.ref fa_Change_last_at)))
    (i_Change_last_at : PySem.W.isFn K (.ref fa_Change_last_at) = true)
    (l_Change_last_at : K.lookup fa_Change_last_at = some ⟨oc_Change_last_at, od_Change_last_at, .func (PySem.W.fnOf "last_at" "Change.last_at" (defArgs s_Change_last_at) (defBody s_Change_last_at) (defScope s_Change_last_at) .none kV_Change_last_at dc_Change_last_at pm_Change_last_at an_Change_last_at cd_Change_last_at ct_Change_last_at), sl_Change_last_at⟩)
    (y_Change_last_at : PySem.W.codeIn K cd_Change_last_at "Change.last_at" = true)
    (x_Change_last_at : PySem.W.keepIn K (.ref fa_Change_last_at) = true)
    (n_Change_is_end : PySem.W.findIn K (.ref ca_Change) "is_end" = some (some (.ref fa_Change_is_end)))
    (i_Change_is_end : PySem.W.isFn K (.ref fa_Change_is_end) = true)
    (l_Change_is_end : K.lookup fa_Change_is_end = some ⟨oc_Change_is_end, od_Change_is_end, .func (PySem.W.fnOf "is_end" "Change.is_end" (defArgs s_Change_is_end) (defBody s_Change_is_end) (defScope s_Change_is_end) .none kV_Change_is_end dc_Change_is_end pm_Change_is_end an_Change_is_end cd_Change_is_end ct_Change_is_end), sl_Change_is_end⟩)
    (y_Change_is_end : PySem.W.codeIn K cd_Change_is_end "Change.is_end" = true)
    (x_Change_is_end : PySem.W.keepIn K (.ref fa_Change_is_end) = true)
    (n_priced : PySem.W.nsIn K mainGlobals "priced" = some (some (.ref fa_priced)))
    (l_priced : K.lookup fa_priced = some ⟨oc_priced, od_priced, .func (PySem.W.fnOf "priced" "priced" (defArgs s_priced) (defBody s_priced) (defScope s_priced) .none kV_priced dc_priced pm_priced an_priced cd_priced ct_priced), sl_priced⟩)
    (y_priced : PySem.W.codeIn K cd_priced "priced" = true)
    (x_priced : PySem.W.keepIn K (.ref fa_priced) = true)
    (n_Change_first_node : PySem.W.findIn K (.ref ca_Change) "first_node" = some (some (.ref fa_Change_first_node)))
    (i_Change_first_node : PySem.W.isFn K (.ref fa_Change_first_node) = true)
    (l_Change_first_node : K.lookup fa_Change_first_node = some ⟨oc_Change_first_node, od_Change_first_node, .func (PySem.W.fnOf "first_node" "Change.first_node" (defArgs s_Change_first_node) (defBody s_Change_first_node) (defScope s_Change_first_node) .none kV_Change_first_node dc_Change_first_node pm_Change_first_node an_Change_first_node cd_Change_first_node ct_Change_first_node), sl_Change_first_node⟩)
    (y_Change_first_node : PySem.W.codeIn K cd_Change_first_node "Change.first_node" = true)
    (x_Change_first_node : PySem.W.keepIn K (.ref fa_Change_first_node) = true)
    (n_first_least : PySem.W.nsIn K mainGlobals "first_least" = some (some (.ref fa_first_least)))
    (l_first_least : K.lookup fa_first_least = some ⟨oc_first_least, od_first_least, .func (PySem.W.fnOf "first_least" "first_least" (defArgs s_first_least) (defBody s_first_least) (defScope s_first_least) .none kV_first_least dc_first_least pm_first_least an_first_least cd_first_least ct_first_least), sl_first_least⟩)
    (y_first_least : PySem.W.codeIn K cd_first_least "first_least" = true)
    (x_first_least : PySem.W.keepIn K (.ref fa_first_least) = true)
    (n_way_of : PySem.W.nsIn K mainGlobals "way_of" = some (some (.ref fa_way_of)))
    (l_way_of : K.lookup fa_way_of = some ⟨oc_way_of, od_way_of, .func (PySem.W.fnOf "way_of" "way_of" (defArgs s_way_of) (defBody s_way_of) (defScope s_way_of) .none kV_way_of dc_way_of pm_way_of an_way_of cd_way_of ct_way_of), sl_way_of⟩)
    (y_way_of : PySem.W.codeIn K cd_way_of "way_of" = true)
    (x_way_of : PySem.W.keepIn K (.ref fa_way_of) = true)
    (n_spots_of : PySem.W.nsIn K mainGlobals "spots_of" = some (some (.ref fa_spots_of)))
    (l_spots_of : K.lookup fa_spots_of = some ⟨oc_spots_of, od_spots_of, .func (PySem.W.fnOf "spots_of" "spots_of" (defArgs s_spots_of) (defBody s_spots_of) (defScope s_spots_of) .none kV_spots_of dc_spots_of pm_spots_of an_spots_of cd_spots_of ct_spots_of), sl_spots_of⟩)
    (y_spots_of : PySem.W.codeIn K cd_spots_of "spots_of" = true)
    (x_spots_of : PySem.W.keepIn K (.ref fa_spots_of) = true)
    (n_Change_init : PySem.W.findIn K (.ref ca_Change) "__init__" = some (some (.ref fa_Change_init)))
    (i_Change_init : PySem.W.isFn K (.ref fa_Change_init) = true)
    (l_Change_init : K.lookup fa_Change_init = some ⟨oc_Change_init, od_Change_init, .func (PySem.W.fnOf "__init__" "Change.__init__" (defArgs s_Change_init) (defBody s_Change_init) (defScope s_Change_init) .none kV_Change_init dc_Change_init pm_Change_init an_Change_init cd_Change_init ct_Change_init), sl_Change_init⟩)
    (y_Change_init : PySem.W.codeIn K cd_Change_init "Change.__init__" = true)
    (x_Change_init : PySem.W.keepIn K (.ref fa_Change_init) = true)
    (mk_Change : PySem.W.makesIn K ca_Change = true)
    (kc_Change : PySem.W.keepIn K (.ref ca_Change) = true)
    (n_row_writes : PySem.W.nsIn K mainGlobals "row_writes" = some (some (.ref fa_row_writes)))
    (l_row_writes : K.lookup fa_row_writes = some ⟨oc_row_writes, od_row_writes, .func (PySem.W.fnOf "row_writes" "row_writes" (defArgs s_row_writes) (defBody s_row_writes) (defScope s_row_writes) .none kV_row_writes dc_row_writes pm_row_writes an_row_writes cd_row_writes ct_row_writes), sl_row_writes⟩)
    (y_row_writes : PySem.W.codeIn K cd_row_writes "row_writes" = true)
    (x_row_writes : PySem.W.keepIn K (.ref fa_row_writes) = true)
    (n_patch : PySem.W.nsIn K mainGlobals "patch" = some (some (.ref fa_patch)))
    (l_patch : K.lookup fa_patch = some ⟨oc_patch, od_patch, .func (PySem.W.fnOf "patch" "patch" (defArgs s_patch) (defBody s_patch) (defScope s_patch) .none kV_patch dc_patch pm_patch an_patch cd_patch ct_patch), sl_patch⟩)
    (y_patch : PySem.W.codeIn K cd_patch "patch" = true)
    (x_patch : PySem.W.keepIn K (.ref fa_patch) = true)
    (n_law_least : PySem.W.nsIn K mainGlobals "_law_least" = some (some (.ref fa_law_least)))
    (l_law_least : K.lookup fa_law_least = some ⟨oc_law_least, od_law_least, .func (PySem.W.fnOf "_law_least" "_law_least" (defArgs s_law_least) (defBody s_law_least) (defScope s_law_least) .none kV_law_least dc_law_least pm_law_least an_law_least cd_law_least ct_law_least), sl_law_least⟩)
    (y_law_least : PySem.W.codeIn K cd_law_least "_law_least" = true)
    (x_law_least : PySem.W.keepIn K (.ref fa_law_least) = true)
    (n_all_nodes : PySem.W.nsIn K mainGlobals "all_nodes" = some (some (.ref fa_all_nodes)))
    (l_all_nodes : K.lookup fa_all_nodes = some ⟨oc_all_nodes, od_all_nodes, .func (PySem.W.fnOf "all_nodes" "all_nodes" (defArgs s_all_nodes) (defBody s_all_nodes) (defScope s_all_nodes) .none kV_all_nodes dc_all_nodes pm_all_nodes an_all_nodes cd_all_nodes ct_all_nodes), sl_all_nodes⟩)
    (y_all_nodes : PySem.W.codeIn K cd_all_nodes "all_nodes" = true)
    (x_all_nodes : PySem.W.keepIn K (.ref fa_all_nodes) = true)
    (n_fair_at : PySem.W.nsIn K mainGlobals "fair_at" = some (some (.ref fa_fair_at)))
    (l_fair_at : K.lookup fa_fair_at = some ⟨oc_fair_at, od_fair_at, .func (PySem.W.fnOf "fair_at" "fair_at" (defArgs s_fair_at) (defBody s_fair_at) (defScope s_fair_at) .none kV_fair_at dc_fair_at pm_fair_at an_fair_at cd_fair_at ct_fair_at), sl_fair_at⟩)
    (y_fair_at : PySem.W.codeIn K cd_fair_at "fair_at" = true)
    (x_fair_at : PySem.W.keepIn K (.ref fa_fair_at) = true)
    (n_is_price : PySem.W.nsIn K mainGlobals "is_price" = some (some (.ref fa_is_price)))
    (l_is_price : K.lookup fa_is_price = some ⟨oc_is_price, od_is_price, .func (PySem.W.fnOf "is_price" "is_price" (defArgs s_is_price) (defBody s_is_price) (defScope s_is_price) .none kV_is_price dc_is_price pm_is_price an_is_price cd_is_price ct_is_price), sl_is_price⟩)
    (y_is_price : PySem.W.codeIn K cd_is_price "is_price" = true)
    (x_is_price : PySem.W.keepIn K (.ref fa_is_price) = true)
    (n_fair : PySem.W.nsIn K mainGlobals "fair" = some (some (.ref fa_fair)))
    (l_fair : K.lookup fa_fair = some ⟨oc_fair, od_fair, .func (PySem.W.fnOf "fair" "fair" (defArgs s_fair) (defBody s_fair) (defScope s_fair) .none kV_fair dc_fair pm_fair an_fair cd_fair ct_fair), sl_fair⟩)
    (y_fair : PySem.W.codeIn K cd_fair "fair" = true)
    (x_fair : PySem.W.keepIn K (.ref fa_fair) = true)
    (n_law_row_priced : PySem.W.nsIn K mainGlobals "_law_row_priced" = some (some (.ref fa_law_row_priced)))
    (l_law_row_priced : K.lookup fa_law_row_priced = some ⟨oc_law_row_priced, od_law_row_priced, .func (PySem.W.fnOf "_law_row_priced" "_law_row_priced" (defArgs s_law_row_priced) (defBody s_law_row_priced) (defScope s_law_row_priced) .none kV_law_row_priced dc_law_row_priced pm_law_row_priced an_law_row_priced cd_law_row_priced ct_law_row_priced), sl_law_row_priced⟩)
    (y_law_row_priced : PySem.W.codeIn K cd_law_row_priced "_law_row_priced" = true)
    (x_law_row_priced : PySem.W.keepIn K (.ref fa_law_row_priced) = true)
    (n_cost_of : PySem.W.nsIn K mainGlobals "cost_of" = some (some (.ref fa_cost_of)))
    (l_cost_of : K.lookup fa_cost_of = some ⟨oc_cost_of, od_cost_of, .func (PySem.W.fnOf "cost_of" "cost_of" (defArgs s_cost_of) (defBody s_cost_of) (defScope s_cost_of) .none kV_cost_of dc_cost_of pm_cost_of an_cost_of cd_cost_of ct_cost_of), sl_cost_of⟩)
    (y_cost_of : PySem.W.codeIn K cd_cost_of "cost_of" = true)
    (x_cost_of : PySem.W.keepIn K (.ref fa_cost_of) = true)
    (n_law_sums : PySem.W.nsIn K mainGlobals "_law_sums" = some (some (.ref fa_law_sums)))
    (l_law_sums : K.lookup fa_law_sums = some ⟨oc_law_sums, od_law_sums, .func (PySem.W.fnOf "_law_sums" "_law_sums" (defArgs s_law_sums) (defBody s_law_sums) (defScope s_law_sums) .none kV_law_sums dc_law_sums pm_law_sums an_law_sums cd_law_sums ct_law_sums), sl_law_sums⟩)
    (y_law_sums : PySem.W.codeIn K cd_law_sums "_law_sums" = true)
    (x_law_sums : PySem.W.keepIn K (.ref fa_law_sums) = true)
    (n_patched : PySem.W.nsIn K mainGlobals "patched" = some (some (.ref fa_patched)))
    (l_patched : K.lookup fa_patched = some ⟨oc_patched, od_patched, .func (PySem.W.fnOf "patched" "patched" (defArgs s_patched) (defBody s_patched) (defScope s_patched) .none kV_patched dc_patched pm_patched an_patched cd_patched ct_patched), sl_patched⟩)
    (y_patched : PySem.W.codeIn K cd_patched "patched" = true)
    (x_patched : PySem.W.keepIn K (.ref fa_patched) = true)
    (n_law : PySem.W.nsIn K mainGlobals "law" = some (some (.ref fa_law)))
    (l_law : K.lookup fa_law = some ⟨oc_law, od_law, .func (PySem.W.fnOf "law" "law" (defArgs s_law) (defBody s_law) (defScope s_law) .none kV_law dc_law pm_law an_law cd_law ct_law), sl_law⟩)
    (y_law : PySem.W.codeIn K cd_law "law" = true)
    (x_law : PySem.W.keepIn K (.ref fa_law) = true)
    (z_abs : PySem.W.nsIn K mainGlobals "abs" = some none)
    (z_bool : PySem.W.nsIn K mainGlobals "bool" = some none)
    (z_dict : PySem.W.nsIn K mainGlobals "dict" = some none)
    (z_enumerate : PySem.W.nsIn K mainGlobals "enumerate" = some none)
    (z_int : PySem.W.nsIn K mainGlobals "int" = some none)
    (z_isinstance : PySem.W.nsIn K mainGlobals "isinstance" = some none)
    (z_len : PySem.W.nsIn K mainGlobals "len" = some none)
    (z_list : PySem.W.nsIn K mainGlobals "list" = some none)
    (z_min : PySem.W.nsIn K mainGlobals "min" = some none)
    (z_range : PySem.W.nsIn K mainGlobals "range" = some none)
    (z_sum : PySem.W.nsIn K mainGlobals "sum" = some none)
    (z_zip : PySem.W.nsIn K mainGlobals "zip" = some none)
    (cc_BEGIN : PySem.W.nsIn K mainGlobals "BEGIN" = some (some (.int 4 t_BEGIN))) :
    ∃ fd : FuncData, (∀ (s : Shared) (v : Value), BindsTo s fd ⟨[v], []⟩ [("script", v)]) ∧ ∀ base : Heap, K.In base → base.Ns mainGlobals mg → FnOk l.prog w K mg base CX0 8 fa fd ["script"] (spLaw K) := by
  have e := hfa.symm.trans (PySem.W.mg_of X G n_law)
  cases e
  let AA : Ads := {
    f_law_bag := fa_law_bag,
    d_law_bag := PySem.W.fnOf "_law_bag" "_law_bag" (defArgs s_law_bag) (defBody s_law_bag) (defScope s_law_bag) .none kV_law_bag dc_law_bag pm_law_bag an_law_bag cd_law_bag ct_law_bag,
    f_law_take := fa_law_take,
    d_law_take := PySem.W.fnOf "_law_take" "_law_take" (defArgs s_law_take) (defBody s_law_take) (defScope s_law_take) .none kV_law_take dc_law_take pm_law_take an_law_take cd_law_take ct_law_take,
    f_law_shape := fa_law_shape,
    d_law_shape := PySem.W.fnOf "_law_shape" "_law_shape" (defArgs s_law_shape) (defBody s_law_shape) (defScope s_law_shape) .none kV_law_shape dc_law_shape pm_law_shape an_law_shape cd_law_shape ct_law_shape,
    f_law_one := fa_law_one,
    d_law_one := PySem.W.fnOf "_law_one" "_law_one" (defArgs s_law_one) (defBody s_law_one) (defScope s_law_one) .none kV_law_one dc_law_one pm_law_one an_law_one cd_law_one ct_law_one,
    f_law_block_cells := fa_law_block_cells,
    d_law_block_cells := PySem.W.fnOf "_law_block_cells" "_law_block_cells" (defArgs s_law_block_cells) (defBody s_law_block_cells) (defScope s_law_block_cells) .none kV_law_block_cells dc_law_block_cells pm_law_block_cells an_law_block_cells cd_law_block_cells ct_law_block_cells,
    f_law_rows_of := fa_law_rows_of,
    d_law_rows_of := PySem.W.fnOf "_law_rows_of" "_law_rows_of" (defArgs s_law_rows_of) (defBody s_law_rows_of) (defScope s_law_rows_of) .none kV_law_rows_of dc_law_rows_of pm_law_rows_of an_law_rows_of cd_law_rows_of ct_law_rows_of,
    f_law_pictures := fa_law_pictures,
    d_law_pictures := PySem.W.fnOf "_law_pictures" "_law_pictures" (defArgs s_law_pictures) (defBody s_law_pictures) (defScope s_law_pictures) .none kV_law_pictures dc_law_pictures pm_law_pictures an_law_pictures cd_law_pictures ct_law_pictures,
    f_Change_nodes_at := fa_Change_nodes_at,
    d_Change_nodes_at := PySem.W.fnOf "nodes_at" "Change.nodes_at" (defArgs s_Change_nodes_at) (defBody s_Change_nodes_at) (defScope s_Change_nodes_at) .none kV_Change_nodes_at dc_Change_nodes_at pm_Change_nodes_at an_Change_nodes_at cd_Change_nodes_at ct_Change_nodes_at,
    f_Change_moves_from := fa_Change_moves_from,
    d_Change_moves_from := PySem.W.fnOf "moves_from" "Change.moves_from" (defArgs s_Change_moves_from) (defBody s_Change_moves_from) (defScope s_Change_moves_from) .none kV_Change_moves_from dc_Change_moves_from pm_Change_moves_from an_Change_moves_from cd_Change_moves_from ct_Change_moves_from,
    f_cheapest := fa_cheapest,
    d_cheapest := PySem.W.fnOf "cheapest" "cheapest" (defArgs s_cheapest) (defBody s_cheapest) (defScope s_cheapest) .none kV_cheapest dc_cheapest pm_cheapest an_cheapest cd_cheapest ct_cheapest,
    f_settle := fa_settle,
    d_settle := PySem.W.fnOf "settle" "settle" (defArgs s_settle) (defBody s_settle) (defScope s_settle) .none kV_settle dc_settle pm_settle an_settle cd_settle ct_settle,
    f_Change_last_at := fa_Change_last_at,
    d_Change_last_at := PySem.W.fnOf "last_at" "Change.last_at" (defArgs s_Change_last_at) (defBody s_Change_last_at) (defScope s_Change_last_at) .none kV_Change_last_at dc_Change_last_at pm_Change_last_at an_Change_last_at cd_Change_last_at ct_Change_last_at,
    f_Change_is_end := fa_Change_is_end,
    d_Change_is_end := PySem.W.fnOf "is_end" "Change.is_end" (defArgs s_Change_is_end) (defBody s_Change_is_end) (defScope s_Change_is_end) .none kV_Change_is_end dc_Change_is_end pm_Change_is_end an_Change_is_end cd_Change_is_end ct_Change_is_end,
    f_priced := fa_priced,
    d_priced := PySem.W.fnOf "priced" "priced" (defArgs s_priced) (defBody s_priced) (defScope s_priced) .none kV_priced dc_priced pm_priced an_priced cd_priced ct_priced,
    f_Change_first_node := fa_Change_first_node,
    d_Change_first_node := PySem.W.fnOf "first_node" "Change.first_node" (defArgs s_Change_first_node) (defBody s_Change_first_node) (defScope s_Change_first_node) .none kV_Change_first_node dc_Change_first_node pm_Change_first_node an_Change_first_node cd_Change_first_node ct_Change_first_node,
    f_first_least := fa_first_least,
    d_first_least := PySem.W.fnOf "first_least" "first_least" (defArgs s_first_least) (defBody s_first_least) (defScope s_first_least) .none kV_first_least dc_first_least pm_first_least an_first_least cd_first_least ct_first_least,
    f_way_of := fa_way_of,
    d_way_of := PySem.W.fnOf "way_of" "way_of" (defArgs s_way_of) (defBody s_way_of) (defScope s_way_of) .none kV_way_of dc_way_of pm_way_of an_way_of cd_way_of ct_way_of,
    f_spots_of := fa_spots_of,
    d_spots_of := PySem.W.fnOf "spots_of" "spots_of" (defArgs s_spots_of) (defBody s_spots_of) (defScope s_spots_of) .none kV_spots_of dc_spots_of pm_spots_of an_spots_of cd_spots_of ct_spots_of,
    f_Change_init := fa_Change_init,
    d_Change_init := PySem.W.fnOf "__init__" "Change.__init__" (defArgs s_Change_init) (defBody s_Change_init) (defScope s_Change_init) .none kV_Change_init dc_Change_init pm_Change_init an_Change_init cd_Change_init ct_Change_init,
    f_row_writes := fa_row_writes,
    d_row_writes := PySem.W.fnOf "row_writes" "row_writes" (defArgs s_row_writes) (defBody s_row_writes) (defScope s_row_writes) .none kV_row_writes dc_row_writes pm_row_writes an_row_writes cd_row_writes ct_row_writes,
    f_patch := fa_patch,
    d_patch := PySem.W.fnOf "patch" "patch" (defArgs s_patch) (defBody s_patch) (defScope s_patch) .none kV_patch dc_patch pm_patch an_patch cd_patch ct_patch,
    f_law_least := fa_law_least,
    d_law_least := PySem.W.fnOf "_law_least" "_law_least" (defArgs s_law_least) (defBody s_law_least) (defScope s_law_least) .none kV_law_least dc_law_least pm_law_least an_law_least cd_law_least ct_law_least,
    f_all_nodes := fa_all_nodes,
    d_all_nodes := PySem.W.fnOf "all_nodes" "all_nodes" (defArgs s_all_nodes) (defBody s_all_nodes) (defScope s_all_nodes) .none kV_all_nodes dc_all_nodes pm_all_nodes an_all_nodes cd_all_nodes ct_all_nodes,
    f_fair_at := fa_fair_at,
    d_fair_at := PySem.W.fnOf "fair_at" "fair_at" (defArgs s_fair_at) (defBody s_fair_at) (defScope s_fair_at) .none kV_fair_at dc_fair_at pm_fair_at an_fair_at cd_fair_at ct_fair_at,
    f_is_price := fa_is_price,
    d_is_price := PySem.W.fnOf "is_price" "is_price" (defArgs s_is_price) (defBody s_is_price) (defScope s_is_price) .none kV_is_price dc_is_price pm_is_price an_is_price cd_is_price ct_is_price,
    f_fair := fa_fair,
    d_fair := PySem.W.fnOf "fair" "fair" (defArgs s_fair) (defBody s_fair) (defScope s_fair) .none kV_fair dc_fair pm_fair an_fair cd_fair ct_fair,
    f_law_row_priced := fa_law_row_priced,
    d_law_row_priced := PySem.W.fnOf "_law_row_priced" "_law_row_priced" (defArgs s_law_row_priced) (defBody s_law_row_priced) (defScope s_law_row_priced) .none kV_law_row_priced dc_law_row_priced pm_law_row_priced an_law_row_priced cd_law_row_priced ct_law_row_priced,
    f_cost_of := fa_cost_of,
    d_cost_of := PySem.W.fnOf "cost_of" "cost_of" (defArgs s_cost_of) (defBody s_cost_of) (defScope s_cost_of) .none kV_cost_of dc_cost_of pm_cost_of an_cost_of cd_cost_of ct_cost_of,
    f_law_sums := fa_law_sums,
    d_law_sums := PySem.W.fnOf "_law_sums" "_law_sums" (defArgs s_law_sums) (defBody s_law_sums) (defScope s_law_sums) .none kV_law_sums dc_law_sums pm_law_sums an_law_sums cd_law_sums ct_law_sums,
    f_patched := fa_patched,
    d_patched := PySem.W.fnOf "patched" "patched" (defArgs s_patched) (defBody s_patched) (defScope s_patched) .none kV_patched dc_patched pm_patched an_patched cd_patched ct_patched,
    f_law := fa,
    d_law := PySem.W.fnOf "law" "law" (defArgs s_law) (defBody s_law) (defScope s_law) .none kV_law dc_law pm_law an_law cd_law ct_law,
    c_Change := ca_Change,
    t_BEGIN := t_BEGIN }
  have T : Txt K mg AA := {
    F_law_bag := fun_mk (st := s_law_bag) l_law_bag y_law_bag x_law_bag,
    b_law_bag := (fun_mk (st := s_law_bag) l_law_bag y_law_bag x_law_bag).binds (ps := P_law_bag) fun _ _ _ _ _ _ us hl => match us, hl with | [_], _ => rfl,
    g_law_bag := PySem.W.mg_of X G n_law_bag,
    F_law_take := fun_mk (st := s_law_take) l_law_take y_law_take x_law_take,
    b_law_take := (fun_mk (st := s_law_take) l_law_take y_law_take x_law_take).binds (ps := P_law_take) fun _ _ _ _ _ _ us hl => match us, hl with | [_, _], _ => rfl,
    g_law_take := PySem.W.mg_of X G n_law_take,
    F_law_shape := fun_mk (st := s_law_shape) l_law_shape y_law_shape x_law_shape,
    b_law_shape := (fun_mk (st := s_law_shape) l_law_shape y_law_shape x_law_shape).binds (ps := P_law_shape) fun _ _ _ _ _ _ us hl => match us, hl with | [_], _ => rfl,
    g_law_shape := PySem.W.mg_of X G n_law_shape,
    F_law_one := fun_mk (st := s_law_one) l_law_one y_law_one x_law_one,
    b_law_one := (fun_mk (st := s_law_one) l_law_one y_law_one x_law_one).binds (ps := P_law_one) fun _ _ _ _ _ _ us hl => match us, hl with | [_, _], _ => rfl,
    g_law_one := PySem.W.mg_of X G n_law_one,
    F_law_block_cells := fun_mk (st := s_law_block_cells) l_law_block_cells y_law_block_cells x_law_block_cells,
    b_law_block_cells := (fun_mk (st := s_law_block_cells) l_law_block_cells y_law_block_cells x_law_block_cells).binds (ps := P_law_block_cells) fun _ _ _ _ _ _ us hl => match us, hl with | [_, _], _ => rfl,
    g_law_block_cells := PySem.W.mg_of X G n_law_block_cells,
    F_law_rows_of := fun_mk (st := s_law_rows_of) l_law_rows_of y_law_rows_of x_law_rows_of,
    b_law_rows_of := (fun_mk (st := s_law_rows_of) l_law_rows_of y_law_rows_of x_law_rows_of).binds (ps := P_law_rows_of) fun _ _ _ _ _ _ us hl => match us, hl with | [_, _, _], _ => rfl,
    g_law_rows_of := PySem.W.mg_of X G n_law_rows_of,
    F_law_pictures := fun_mk (st := s_law_pictures) l_law_pictures y_law_pictures x_law_pictures,
    b_law_pictures := (fun_mk (st := s_law_pictures) l_law_pictures y_law_pictures x_law_pictures).binds (ps := P_law_pictures) fun _ _ _ _ _ _ us hl => match us, hl with | [_, _], _ => rfl,
    g_law_pictures := PySem.W.mg_of X G n_law_pictures,
    F_Change_nodes_at := fun_mk (st := s_Change_nodes_at) l_Change_nodes_at y_Change_nodes_at x_Change_nodes_at,
    b_Change_nodes_at := (fun_mk (st := s_Change_nodes_at) l_Change_nodes_at y_Change_nodes_at x_Change_nodes_at).binds (ps := P_Change_nodes_at) fun _ _ _ _ _ _ us hl => match us, hl with | [_, _], _ => rfl,
    m_Change_nodes_at := ⟨n_Change_nodes_at, i_Change_nodes_at, x_Change_nodes_at⟩,
    F_Change_moves_from := fun_mk (st := s_Change_moves_from) l_Change_moves_from y_Change_moves_from x_Change_moves_from,
    b_Change_moves_from := (fun_mk (st := s_Change_moves_from) l_Change_moves_from y_Change_moves_from x_Change_moves_from).binds (ps := P_Change_moves_from) fun _ _ _ _ _ _ us hl => match us, hl with | [_, _], _ => rfl,
    m_Change_moves_from := ⟨n_Change_moves_from, i_Change_moves_from, x_Change_moves_from⟩,
    F_cheapest := fun_mk (st := s_cheapest) l_cheapest y_cheapest x_cheapest,
    b_cheapest := (fun_mk (st := s_cheapest) l_cheapest y_cheapest x_cheapest).binds (ps := P_cheapest) fun _ _ _ _ _ _ us hl => match us, hl with | [_, _, _], _ => rfl,
    g_cheapest := PySem.W.mg_of X G n_cheapest,
    F_settle := fun_mk (st := s_settle) l_settle y_settle x_settle,
    b_settle := (fun_mk (st := s_settle) l_settle y_settle x_settle).binds (ps := P_settle) fun _ _ _ _ _ _ us hl => match us, hl with | [_, _, _], _ => rfl,
    g_settle := PySem.W.mg_of X G n_settle,
    F_Change_last_at := fun_mk (st := s_Change_last_at) l_Change_last_at y_Change_last_at x_Change_last_at,
    b_Change_last_at := (fun_mk (st := s_Change_last_at) l_Change_last_at y_Change_last_at x_Change_last_at).binds (ps := P_Change_last_at) fun _ _ _ _ _ _ us hl => match us, hl with | [_], _ => rfl,
    m_Change_last_at := ⟨n_Change_last_at, i_Change_last_at, x_Change_last_at⟩,
    F_Change_is_end := fun_mk (st := s_Change_is_end) l_Change_is_end y_Change_is_end x_Change_is_end,
    b_Change_is_end := (fun_mk (st := s_Change_is_end) l_Change_is_end y_Change_is_end x_Change_is_end).binds (ps := P_Change_is_end) fun _ _ _ _ _ _ us hl => match us, hl with | [_, _], _ => rfl,
    m_Change_is_end := ⟨n_Change_is_end, i_Change_is_end, x_Change_is_end⟩,
    F_priced := fun_mk (st := s_priced) l_priced y_priced x_priced,
    b_priced := (fun_mk (st := s_priced) l_priced y_priced x_priced).binds (ps := P_priced) fun _ _ _ _ _ _ us hl => match us, hl with | [_], _ => rfl,
    g_priced := PySem.W.mg_of X G n_priced,
    F_Change_first_node := fun_mk (st := s_Change_first_node) l_Change_first_node y_Change_first_node x_Change_first_node,
    b_Change_first_node := (fun_mk (st := s_Change_first_node) l_Change_first_node y_Change_first_node x_Change_first_node).binds (ps := P_Change_first_node) fun _ _ _ _ _ _ us hl => match us, hl with | [_], _ => rfl,
    m_Change_first_node := ⟨n_Change_first_node, i_Change_first_node, x_Change_first_node⟩,
    F_first_least := fun_mk (st := s_first_least) l_first_least y_first_least x_first_least,
    b_first_least := (fun_mk (st := s_first_least) l_first_least y_first_least x_first_least).binds (ps := P_first_least) fun _ _ _ _ _ _ us hl => match us, hl with | [_, _, _], _ => rfl,
    g_first_least := PySem.W.mg_of X G n_first_least,
    F_way_of := fun_mk (st := s_way_of) l_way_of y_way_of x_way_of,
    b_way_of := (fun_mk (st := s_way_of) l_way_of y_way_of x_way_of).binds (ps := P_way_of) fun _ _ _ _ _ _ us hl => match us, hl with | [_], _ => rfl,
    g_way_of := PySem.W.mg_of X G n_way_of,
    F_spots_of := fun_mk (st := s_spots_of) l_spots_of y_spots_of x_spots_of,
    b_spots_of := (fun_mk (st := s_spots_of) l_spots_of y_spots_of x_spots_of).binds (ps := P_spots_of) fun _ _ _ _ _ _ us hl => match us, hl with | [_], _ => rfl,
    g_spots_of := PySem.W.mg_of X G n_spots_of,
    F_Change_init := fun_mk (st := s_Change_init) l_Change_init y_Change_init x_Change_init,
    b_Change_init := (fun_mk (st := s_Change_init) l_Change_init y_Change_init x_Change_init).binds (ps := P_Change_init) fun _ _ _ _ _ _ us hl => match us, hl with | [_, _, _], _ => rfl,
    mk_Change := ⟨mk_Change, n_Change_init, i_Change_init, kc_Change⟩,
    F_row_writes := fun_mk (st := s_row_writes) l_row_writes y_row_writes x_row_writes,
    b_row_writes := (fun_mk (st := s_row_writes) l_row_writes y_row_writes x_row_writes).binds (ps := P_row_writes) fun _ _ _ _ _ _ us hl => match us, hl with | [_, _, _], _ => rfl,
    g_row_writes := PySem.W.mg_of X G n_row_writes,
    F_patch := fun_mk (st := s_patch) l_patch y_patch x_patch,
    b_patch := (fun_mk (st := s_patch) l_patch y_patch x_patch).binds (ps := P_patch) fun _ _ _ _ _ _ us hl => match us, hl with | [_, _], _ => rfl,
    g_patch := PySem.W.mg_of X G n_patch,
    F_law_least := fun_mk (st := s_law_least) l_law_least y_law_least x_law_least,
    b_law_least := (fun_mk (st := s_law_least) l_law_least y_law_least x_law_least).binds (ps := P_law_least) fun _ _ _ _ _ _ us hl => match us, hl with | [_, _], _ => rfl,
    g_law_least := PySem.W.mg_of X G n_law_least,
    F_all_nodes := fun_mk (st := s_all_nodes) l_all_nodes y_all_nodes x_all_nodes,
    b_all_nodes := (fun_mk (st := s_all_nodes) l_all_nodes y_all_nodes x_all_nodes).binds (ps := P_all_nodes) fun _ _ _ _ _ _ us hl => match us, hl with | [_], _ => rfl,
    g_all_nodes := PySem.W.mg_of X G n_all_nodes,
    F_fair_at := fun_mk (st := s_fair_at) l_fair_at y_fair_at x_fair_at,
    b_fair_at := (fun_mk (st := s_fair_at) l_fair_at y_fair_at x_fair_at).binds (ps := P_fair_at) fun _ _ _ _ _ _ us hl => match us, hl with | [_, _, _], _ => rfl,
    g_fair_at := PySem.W.mg_of X G n_fair_at,
    F_is_price := fun_mk (st := s_is_price) l_is_price y_is_price x_is_price,
    b_is_price := (fun_mk (st := s_is_price) l_is_price y_is_price x_is_price).binds (ps := P_is_price) fun _ _ _ _ _ _ us hl => match us, hl with | [_], _ => rfl,
    g_is_price := PySem.W.mg_of X G n_is_price,
    F_fair := fun_mk (st := s_fair) l_fair y_fair x_fair,
    b_fair := (fun_mk (st := s_fair) l_fair y_fair x_fair).binds (ps := P_fair) fun _ _ _ _ _ _ us hl => match us, hl with | [_, _], _ => rfl,
    g_fair := PySem.W.mg_of X G n_fair,
    F_law_row_priced := fun_mk (st := s_law_row_priced) l_law_row_priced y_law_row_priced x_law_row_priced,
    b_law_row_priced := (fun_mk (st := s_law_row_priced) l_law_row_priced y_law_row_priced x_law_row_priced).binds (ps := P_law_row_priced) fun _ _ _ _ _ _ us hl => match us, hl with | [_, _, _, _, _], _ => rfl,
    g_law_row_priced := PySem.W.mg_of X G n_law_row_priced,
    F_cost_of := fun_mk (st := s_cost_of) l_cost_of y_cost_of x_cost_of,
    b_cost_of := (fun_mk (st := s_cost_of) l_cost_of y_cost_of x_cost_of).binds (ps := P_cost_of) fun _ _ _ _ _ _ us hl => match us, hl with | [_], _ => rfl,
    g_cost_of := PySem.W.mg_of X G n_cost_of,
    F_law_sums := fun_mk (st := s_law_sums) l_law_sums y_law_sums x_law_sums,
    b_law_sums := (fun_mk (st := s_law_sums) l_law_sums y_law_sums x_law_sums).binds (ps := P_law_sums) fun _ _ _ _ _ _ us hl => match us, hl with | [_, _, _], _ => rfl,
    g_law_sums := PySem.W.mg_of X G n_law_sums,
    F_patched := fun_mk (st := s_patched) l_patched y_patched x_patched,
    b_patched := (fun_mk (st := s_patched) l_patched y_patched x_patched).binds (ps := P_patched) fun _ _ _ _ _ _ us hl => match us, hl with | [_, _], _ => rfl,
    g_patched := PySem.W.mg_of X G n_patched,
    F_law := fun_mk (st := s_law) l_law y_law x_law,
    b_law := (fun_mk (st := s_law) l_law y_law x_law).binds (ps := P_law) fun _ _ _ _ _ _ us hl => match us, hl with | [_], _ => rfl,
    g_law := PySem.W.mg_of X G n_law,
    cl_Change := ⟨pg_Change, hd_Change, po_Change, sa_Change⟩,
    k_Change := rfl,
    g_Change := PySem.W.mg_of X G cg_Change,
    a_before := (fun c C e => by
    have e : ctOf AA c = some C := e
    unfold ctOf at e
    split at e
    · cases e; exact ⟨⟨pg_Change, hd_Change, po_Change, sa_Change⟩, na_Change_before⟩
    · cases e),
    a_behind := (fun c C e => by
    have e : ctOf AA c = some C := e
    unfold ctOf at e
    split at e
    · cases e; exact ⟨⟨pg_Change, hd_Change, po_Change, sa_Change⟩, na_Change_behind⟩
    · cases e),
    a_spots := (fun c C e => by
    have e : ctOf AA c = some C := e
    unfold ctOf at e
    split at e
    · cases e; exact ⟨⟨pg_Change, hd_Change, po_Change, sa_Change⟩, na_Change_spots⟩
    · cases e),
    z_abs := PySem.W.mg_none_of X G z_abs,
    z_bool := PySem.W.mg_none_of X G z_bool,
    z_dict := PySem.W.mg_none_of X G z_dict,
    z_enumerate := PySem.W.mg_none_of X G z_enumerate,
    z_int := PySem.W.mg_none_of X G z_int,
    z_isinstance := PySem.W.mg_none_of X G z_isinstance,
    z_len := PySem.W.mg_none_of X G z_len,
    z_list := PySem.W.mg_none_of X G z_list,
    z_min := PySem.W.mg_none_of X G z_min,
    z_range := PySem.W.mg_none_of X G z_range,
    z_sum := PySem.W.mg_none_of X G z_sum,
    z_zip := PySem.W.mg_none_of X G z_zip,
    c_BEGIN := PySem.W.mg_of X G cc_BEGIN }
  exact ⟨AA.d_law, fun s v => .of_eq rfl, fun base _ _ => ok_law T hf⟩
end Pv
open PySem PySem.W PyProof.Rows in
set_option maxHeartbeats 0 in
theorem PySem.Challenge.cw_outweave_k80_whole_rows_of_blocks_behind_holds : PySem.Challenge.rw_outweave_k80_whole_rows_of_blocks_behind.Holds := by
  w_on; o_law; k_head; (case hw => w_witness2)
  k_fill
  refine L2.walk_of (l := PySem.Challenge.rw_outweave_k80_whole_rows_of_blocks_behind) (n := 63) (k := 8) (x := "script") (CX := fun _ => L2.CX0) (sp := fun w => Pv.spLaw _) rfl (by decide) rfl ⟨rfl, by decide, by decide⟩ (fun w h Y => PySem.W.kIn_of Y) ?F (fun _ _ a ns hl _ hS => ⟨a, ns, rfl, hS, hl, fun _ => rfl⟩) (fun _ _ _ _ _ h => h)
  case F =>
    intro w mg fa h KX G hmg
    refine' Pv.all_mk KX G hmg Pv.law_holds ?cg_Change ?pg_Change ?hd_Change ?po_Change ?sa_Change ?na_Change_before ?na_Change_behind ?na_Change_spots ?n_law_bag ?l_law_bag ?y_law_bag ?x_law_bag ?n_law_take ?l_law_take ?y_law_take ?x_law_take ?n_law_shape ?l_law_shape ?y_law_shape ?x_law_shape ?n_law_one ?l_law_one ?y_law_one ?x_law_one ?n_law_block_cells ?l_law_block_cells ?y_law_block_cells ?x_law_block_cells ?n_law_rows_of ?l_law_rows_of ?y_law_rows_of ?x_law_rows_of ?n_law_pictures ?l_law_pictures ?y_law_pictures ?x_law_pictures ?n_Change_nodes_at ?i_Change_nodes_at ?l_Change_nodes_at ?y_Change_nodes_at ?x_Change_nodes_at ?n_Change_moves_from ?i_Change_moves_from ?l_Change_moves_from ?y_Change_moves_from ?x_Change_moves_from ?n_cheapest ?l_cheapest ?y_cheapest ?x_cheapest ?n_settle ?l_settle ?y_settle ?x_settle ?n_Change_last_at ?i_Change_last_at ?l_Change_last_at ?y_Change_last_at ?x_Change_last_at ?n_Change_is_end ?i_Change_is_end ?l_Change_is_end ?y_Change_is_end ?x_Change_is_end ?n_priced ?l_priced ?y_priced ?x_priced ?n_Change_first_node ?i_Change_first_node ?l_Change_first_node ?y_Change_first_node ?x_Change_first_node ?n_first_least ?l_first_least ?y_first_least ?x_first_least ?n_way_of ?l_way_of ?y_way_of ?x_way_of ?n_spots_of ?l_spots_of ?y_spots_of ?x_spots_of ?n_Change_init ?i_Change_init ?l_Change_init ?y_Change_init ?x_Change_init ?mk_Change ?kc_Change ?n_row_writes ?l_row_writes ?y_row_writes ?x_row_writes ?n_patch ?l_patch ?y_patch ?x_patch ?n_law_least ?l_law_least ?y_law_least ?x_law_least ?n_all_nodes ?l_all_nodes ?y_all_nodes ?x_all_nodes ?n_fair_at ?l_fair_at ?y_fair_at ?x_fair_at ?n_is_price ?l_is_price ?y_is_price ?x_is_price ?n_fair ?l_fair ?y_fair ?x_fair ?n_law_row_priced ?l_law_row_priced ?y_law_row_priced ?x_law_row_priced ?n_cost_of ?l_cost_of ?y_cost_of ?x_cost_of ?n_law_sums ?l_law_sums ?y_law_sums ?x_law_sums ?n_patched ?l_patched ?y_patched ?x_patched ?n_law ?l_law ?y_law ?x_law ?z_abs ?z_bool ?z_dict ?z_enumerate ?z_int ?z_isinstance ?z_len ?z_list ?z_min ?z_range ?z_sum ?z_zip ?cc_BEGIN
    (case cg_Change => k_is)
    (case pg_Change => k_is)
    (case hd_Change => k_is)
    (case po_Change => k_is)
    (case sa_Change => k_is)
    (case na_Change_before => k_is)
    (case na_Change_behind => k_is)
    (case na_Change_spots => k_is)
    (case n_law_bag => k_is)
    (case l_law_bag => k_is)
    (case y_law_bag => k_is)
    (case x_law_bag => k_is)
    (case n_law_take => k_is)
    (case l_law_take => k_is)
    (case y_law_take => k_is)
    (case x_law_take => k_is)
    (case n_law_shape => k_is)
    (case l_law_shape => k_is)
    (case y_law_shape => k_is)
    (case x_law_shape => k_is)
    (case n_law_one => k_is)
    (case l_law_one => k_is)
    (case y_law_one => k_is)
    (case x_law_one => k_is)
    (case n_law_block_cells => k_is)
    (case l_law_block_cells => k_is)
    (case y_law_block_cells => k_is)
    (case x_law_block_cells => k_is)
    (case n_law_rows_of => k_is)
    (case l_law_rows_of => k_is)
    (case y_law_rows_of => k_is)
    (case x_law_rows_of => k_is)
    (case n_law_pictures => k_is)
    (case l_law_pictures => k_is)
    (case y_law_pictures => k_is)
    (case x_law_pictures => k_is)
    (case n_Change_nodes_at => k_is)
    (case i_Change_nodes_at => k_is)
    (case l_Change_nodes_at => k_is)
    (case y_Change_nodes_at => k_is)
    (case x_Change_nodes_at => k_is)
    (case n_Change_moves_from => k_is)
    (case i_Change_moves_from => k_is)
    (case l_Change_moves_from => k_is)
    (case y_Change_moves_from => k_is)
    (case x_Change_moves_from => k_is)
    (case n_cheapest => k_is)
    (case l_cheapest => k_is)
    (case y_cheapest => k_is)
    (case x_cheapest => k_is)
    (case n_settle => k_is)
    (case l_settle => k_is)
    (case y_settle => k_is)
    (case x_settle => k_is)
    (case n_Change_last_at => k_is)
    (case i_Change_last_at => k_is)
    (case l_Change_last_at => k_is)
    (case y_Change_last_at => k_is)
    (case x_Change_last_at => k_is)
    (case n_Change_is_end => k_is)
    (case i_Change_is_end => k_is)
    (case l_Change_is_end => k_is)
    (case y_Change_is_end => k_is)
    (case x_Change_is_end => k_is)
    (case n_priced => k_is)
    (case l_priced => k_is)
    (case y_priced => k_is)
    (case x_priced => k_is)
    (case n_Change_first_node => k_is)
    (case i_Change_first_node => k_is)
    (case l_Change_first_node => k_is)
    (case y_Change_first_node => k_is)
    (case x_Change_first_node => k_is)
    (case n_first_least => k_is)
    (case l_first_least => k_is)
    (case y_first_least => k_is)
    (case x_first_least => k_is)
    (case n_way_of => k_is)
    (case l_way_of => k_is)
    (case y_way_of => k_is)
    (case x_way_of => k_is)
    (case n_spots_of => k_is)
    (case l_spots_of => k_is)
    (case y_spots_of => k_is)
    (case x_spots_of => k_is)
    (case n_Change_init => k_is)
    (case i_Change_init => k_is)
    (case l_Change_init => k_is)
    (case y_Change_init => k_is)
    (case x_Change_init => k_is)
    (case mk_Change => k_is)
    (case kc_Change => k_is)
    (case n_row_writes => k_is)
    (case l_row_writes => k_is)
    (case y_row_writes => k_is)
    (case x_row_writes => k_is)
    (case n_patch => k_is)
    (case l_patch => k_is)
    (case y_patch => k_is)
    (case x_patch => k_is)
    (case n_law_least => k_is)
    (case l_law_least => k_is)
    (case y_law_least => k_is)
    (case x_law_least => k_is)
    (case n_all_nodes => k_is)
    (case l_all_nodes => k_is)
    (case y_all_nodes => k_is)
    (case x_all_nodes => k_is)
    (case n_fair_at => k_is)
    (case l_fair_at => k_is)
    (case y_fair_at => k_is)
    (case x_fair_at => k_is)
    (case n_is_price => k_is)
    (case l_is_price => k_is)
    (case y_is_price => k_is)
    (case x_is_price => k_is)
    (case n_fair => k_is)
    (case l_fair => k_is)
    (case y_fair => k_is)
    (case x_fair => k_is)
    (case n_law_row_priced => k_is)
    (case l_law_row_priced => k_is)
    (case y_law_row_priced => k_is)
    (case x_law_row_priced => k_is)
    (case n_cost_of => k_is)
    (case l_cost_of => k_is)
    (case y_cost_of => k_is)
    (case x_cost_of => k_is)
    (case n_law_sums => k_is)
    (case l_law_sums => k_is)
    (case y_law_sums => k_is)
    (case x_law_sums => k_is)
    (case n_patched => k_is)
    (case l_patched => k_is)
    (case y_patched => k_is)
    (case x_patched => k_is)
    (case n_law => k_is)
    (case l_law => k_is)
    (case y_law => k_is)
    (case x_law => k_is)
    (case z_abs => k_is)
    (case z_bool => k_is)
    (case z_dict => k_is)
    (case z_enumerate => k_is)
    (case z_int => k_is)
    (case z_isinstance => k_is)
    (case z_len => k_is)
    (case z_list => k_is)
    (case z_min => k_is)
    (case z_range => k_is)
    (case z_sum => k_is)
    (case z_zip => k_is)
    (case cc_BEGIN => k_is)

