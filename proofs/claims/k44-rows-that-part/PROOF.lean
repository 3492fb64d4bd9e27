import PyProof.Rows.All
import HandS.ForMost
import KE.DataEq
import KE.SortCalls
import KE.DataMinMax
import KE.DataFind
import KE.KEqDict
import PyProof.ReprRoads
import HandS.IsInst
import HandS.WideBits
import HandS.Ends
import PyProof.ReprLen
import PyProof.ReprText
import PyProof.StrLawsRepr
import PySem.Challenge.RW_branchlooks_k44_rows_that_part
import Wide.All
import OpenK.AllK
import Wide.FinOn
set_option Elab.async false
set_option linter.all false
set_option autoImplicit false
set_option maxRecDepth 100000
/-! VSem: a value semantics of a part of Python, by combinators over environments of data. -/
namespace VS
open PySem

/-- the size line of lists and texts -/
abbrev LIM : Nat := 16777216

inductive D where
  | non
  | bl (b : Bool)
  | int (i : Int)
  | str (s : Str)
  | lst (xs : List D)
  | tup (xs : List D)
  | dct (kvs : List (D × D))
  | ins (c : Str) (fs : List (Str × D))
  /-- a list of the caller's: it is only cut -/
  | wk (xs : List D)
instance : Inhabited D := ⟨.non⟩

/-- a slot: free; a value (owned, pinned); lent -/
inductive Sl where
  | no
  | val (d : D) (own pin : Bool)
  | lent
abbrev VE := List Sl
/-- a result: a value, and whether it is fresh -/
abbrev R := D × Bool
/-- calls: a function's name, its arguments; the result and what the parameters are behind -/
abbrev CT := Str → List R → Option (R × List R)
abbrev EF := CT → VE → Option (VE × R)
/-- an argument: a name (read where it stands), or an expression -/
inductive AR where
  | nm (i : Nat)
  | ex (f : EF)
inductive Out where
  | nx (e : VE) | rt (e : VE) (r : R) | bk (e : VE) | ct (e : VE)
abbrev SF := CT → VE → Option Out

/-! ### data -/
mutual
def toPy : D → Option PyData
  | .non => some .none
  | .bl b => some (.bool b)
  | .int i => some (.int i)
  | .str s => some (.str s)
  | .lst xs => (toPys xs).map PyData.list
  | .tup xs => (toPys xs).map PyData.tuple
  | .dct kvs => (toPyKv kvs).map PyData.dict
  | .ins _ _ => none
  | .wk _ => none
def toPys : List D → Option (List PyData)
  | [] => some []
  | x :: xs => match toPy x, toPys xs with
    | some a, some b => some (a :: b)
    | _, _ => none
def toPyKv : List (D × D) → Option (List (PyData × PyData))
  | [] => some []
  | (k, v) :: r => match toPy k, toPy v, toPyKv r with
    | some a, some b, some c => some ((a, b) :: c)
    | _, _, _ => none
end

/-- plain values: they have no address -/
def D.flat : D → Bool
  | .non | .bl _ | .int _ | .str _ => true
  | _ => false

/-! ### expressions -/
def vVar (i : Nat) : EF := fun _ e => match e[i]? with
  | some (.val d _ p) => some (e.set i (.val d false p), (d, false))
  | _ => none
def vLit (d : D) : EF := fun _ e => some (e, (d, false))
/-- frozen -/
def vFrz (f : EF) : EF := fun C e => (f C e).map fun (e', r) => (e', (r.1, false))
def readAt (e : VE) (i : Nat) : Option D := match e[i]? with
  | some (.val d _ _) => some d
  | _ => none
def vArgs : List AR → CT → VE → Option (VE × List R)
  | [], _, e => some (e, [])
  | .nm i :: r, C, e => match readAt e i with
    | some _ => match vArgs r C e with
      | some (e', rs) => match readAt e' i with
        | some d => some (e', (d, false) :: rs)
        | none => none
      | none => none
    | none => none
  | .ex f :: r, C, e => match f C e with
    | some (e1, x) => match vArgs r C e1 with
      | some (e', rs) => some (e', x :: rs)
      | none => none
    | none => none
/-- a pure operation on values -/
def vP (p : List D → Option R) (as : List AR) : EF := fun C e => match vArgs as C e with
  | some (e', rs) => match p (rs.map (·.1)) with
    | some r => some (e', r)
    | none => none
  | none => none
def vNot (a : EF) : EF := fun C e => match a C e with
  | some (e', .bl b, _) => some (e', .bl (!b), false)
  | _ => none
def vAnd (a b : EF) : EF := fun C e => match a C e with
  | some (e', .bl true, _) => b C e'
  | some (e', .bl false, _) => some (e', .bl false, false)
  | _ => none
def vOr (a b : EF) : EF := fun C e => match a C e with
  | some (e', .bl true, _) => some (e', .bl true, false)
  | some (e', .bl false, _) => b C e'
  | _ => none
def vIfE (c a b : EF) : EF := fun C e => match c C e with
  | some (e', .bl true, _) => a C e'
  | some (e', .bl false, _) => b C e'
  | _ => none
/-- a op b op' c, the middle an int -/
def vChain (p q : List D → Option R) (a b c : AR) : EF := fun C e => match vArgs [a, b] C e with
  | some (e', [x, (.int j, _)]) => match p [x.1, .int j] with
    | some (.bl true, _) => match vArgs [c] C e' with
      | some (e'', [z]) => match q [.int j, z.1] with
        | some r => some (e'', r)
        | none => none
      | _ => none
    | some (.bl false, _) => some (e', .bl false, false)
    | _ => none
  | _ => none

/-! calls -/
def isOwn (e : VE) (i : Nat) : Bool := match e[i]? with
  | some (.val _ true _) => true
  | _ => false
/-- the places of the names that are lent -/
def lends (e : VE) : List AR → List Nat
  | [] => []
  | .nm i :: r => if isOwn e i then i :: lends e r else lends e r
  | .ex _ :: r => lends e r
def lendAll (e : VE) : List Nat → VE
  | [] => e
  | i :: r => (lendAll e r).set i .lent
/-- the arguments of a call: names are lent where they are owned -/
def loanR (e : VE) : List AR → List R → List R
  | .nm i :: as, r :: rs => (r.1, isOwn e i) :: loanR e as rs
  | .ex _ :: as, r :: rs => r :: loanR e as rs
  | _, _ => []
/-- behind the call the lent names are what the parameters are -/
def takeBack (e0 : VE) : List AR → List R → VE
  | .nm i :: as, r :: rs => match e0[i]? with
    | some (.val _ true p) => (takeBack e0 as rs).set i (.val r.1 r.2 p)
    | _ => takeBack e0 as rs
  | .ex _ :: as, _ :: rs => takeBack e0 as rs
  | _, _ => e0
def vCall (f : Str) (as : List AR) : EF := fun C e => match vArgs as C e with
  | some (e1, rs) => if (lends e1 as).Nodup then
      match C f (loanR e1 as rs) with
      | some (r, outs) => if outs.length = as.length then some (takeBack e1 as outs, r) else none
      | none => none
    else none
  | none => none

/-! ### iteration -/
abbrev TF := CT → R → VE → Option VE
/-- what a loop walks: the items; the places of the names that are walked -/
structure IF where
  args : List AR
  items : List D → Option (List D)
def putBack (e0 e : VE) : List Nat → VE
  | [] => e
  | i :: r => match e0[i]? with
    | some s => putBack e0 (e.set i s) r
    | none => putBack e0 e r
def wipeE (e : VE) : List Nat → VE
  | [] => e
  | i :: r => (wipeE e r).set i .no
/-- a slot that can be hidden -/
def hides (e : VE) (i : Nat) : Bool := match e[i]? with
  | some .no => true
  | some (.val _ false _) => true
  | _ => false
def vAll : List EF → CT → VE → Option (VE × Bool)
  | [], _, e => some (e, true)
  | c :: cs, C, e => match c C e with
    | some (e', .bl true, _) => vAll cs C e'
    | some (e', .bl false, _) => some (e', false)
    | _ => none
def lcGo (tg : TF) (own : List Nat) (cs : List EF) (el : EF) (C : CT) : List D → VE → List D → Option (VE × List D)
  | [], e, acc => some (e, acc)
  | x :: xs, e, acc => match tg C (x, false) e with
    | some e1 => match vAll cs C e1 with
      | some (e2, true) => match el C e2 with
        | some (e3, y) => if own.all (hides e3) = true then lcGo tg own cs el C xs (wipeE e3 own) (acc ++ [y.1]) else none
        | none => none
      | some (e2, false) => if own.all (hides e2) = true then lcGo tg own cs el C xs (wipeE e2 own) acc else none
      | none => none
    | none => none
/-- [el for tg in it if cs]; own: the places of the names of its block -/
def vLC (it : IF) (tg : TF) (own : List Nat) (cs : List EF) (el : EF) : EF := fun C e => match vArgs it.args C e with
  | some (e1, rs) => match it.items (rs.map (·.1)) with
    | some xs =>
      if (lends e1 it.args).Nodup ∧ own.all (hides e1) = true then
        match lcGo tg own cs el C xs (wipeE (lendAll e1 (lends e1 it.args)) own) [] with
        | some (e2, ys) => some (putBack e1 (putBack e1 e2 own) (lends e1 it.args), (.lst ys, true))
        | none => none
      else none
    | none => none
  | none => none

/-! ### targets -/
def tName (i : Nat) : TF := fun _ r e => match e[i]? with
  | some .no => some (e.set i (.val r.1 r.2 false))
  | some (.val _ _ false) => some (e.set i (.val r.1 r.2 false))
  | _ => none
def tTupGo : List TF → CT → List D → VE → Option VE
  | [], _, [], e => some e
  | t :: ts, C, d :: ds, e => match t C (d, false) e with
    | some e1 => tTupGo ts C ds e1
    | none => none
  | _, _, _, _ => none
def tTup (ts : List TF) : TF := fun C r e => match r.1 with
  | .tup ds => tTupGo ts C ds e
  | _ => none
/-- a negative or other index of a list -/
def ixD (n : Nat) (i : Int) : Option Nat := if 0 ≤ i then (if i < n then some i.toNat else none) else if -(n : Int) ≤ i then some (i + n).toNat else none
/-- x[i] = v of an owned list -/
def tSub (x : Nat) (ix : EF) : TF := fun C r e => match readAt e x with
  | some _ => match ix C e with
    | some (e1, .int k, _) => match e1[x]? with
      | some (.val (.lst xs) true p) => match ixD xs.length k with
        | some j => some (e1.set x (.val (.lst (xs.set j r.1)) true p))
        | none => none
      | _ => none
    | _ => none
  | none => none

/-! ### statements -/
def sNext : SF := fun _ e => some (.nx e)
def sSeq (a b : SF) : SF := fun C e => match a C e with
  | some (.nx e') => b C e'
  | o => o
def sAsg (t : TF) (f : EF) : SF := fun C e => match f C e with
  | some (e1, r) => match t C r e1 with
    | some e2 => some (.nx e2)
    | none => none
  | none => none
def tParGo : List TF → CT → List R → VE → Option VE
  | [], _, [], e => some e
  | t :: ts, C, r :: rs, e => match t C r e with
    | some e1 => tParGo ts C rs e1
    | none => none
  | _, _, _, _ => none
/-- a, b = x, y -/
def sPar (ts : List TF) (fs : List EF) : SF := fun C e => match vArgs (fs.map .ex) C e with
  | some (e1, rs) => match tParGo ts C rs e1 with
    | some e2 => some (.nx e2)
    | none => none
  | none => none
def sExpr (f : EF) : SF := fun C e => match f C e with
  | some (e1, _) => some (.nx e1)
  | none => none
def sRet (f : EF) : SF := fun C e => match f C e with
  | some (e1, r) => some (.rt e1 r)
  | none => none
/-- return x: an owned name that is not pinned is handed on -/
def sRetV (i : Nat) : SF := fun _ e => match e[i]? with
  | some (.val d true false) => some (.rt (e.set i .no) (d, true))
  | some (.val d _ p) => some (.rt (e.set i (.val d false p)) (d, false))
  | _ => none
def sRetN : SF := fun _ e => some (.rt e (.non, false))
def sIf (c : EF) (a b : SF) : SF := fun C e => match c C e with
  | some (e1, .bl true, _) => a C e1
  | some (e1, .bl false, _) => b C e1
  | _ => none
def sStuck : SF := fun _ _ => none
def sBrk : SF := fun _ e => some (.bk e)
def sCnt : SF := fun _ e => some (.ct e)
/-- x op= v, x a name -/
def sAug (i : Nat) (p : List D → Option R) (f : EF) : SF := fun C e => match e[i]? with
  | some (.val d _ _) => if d.flat then match f C e with
    | some (e1, r) => match e1[i]? with
      | some (.val _ _ false) => match p [d, r.1] with
        | some r' => some (.nx (e1.set i (.val r'.1 r'.2 false)))
        | none => none
      | _ => none
    | none => none
    else none
  | _ => none
/-- the item of a list at x, from the front -/
def itemAt (e : VE) (x : Nat) (k : Int) : Option D := match e[x]? with
  | some (.val (.lst xs) true _) => if 0 ≤ k then xs[k.toNat]? else none
  | _ => none
/-- x[k] op= v, x an owned list -/
def sAugS (x : Nat) (ix : EF) (p : List D → Option R) (f : EF) : SF := fun C e => match readAt e x with
  | some _ => match ix C e with
    | some (e0, .int k, _) => match itemAt e0 x k with
      | some d => match f C e0 with
        | some (e1, r) => match p [d, r.1] with
          | some r' => match e1[x]? with
            | some (.val (.lst xs) true pn) => if k.toNat < xs.length ∧ r'.2 = false then some (.nx (e1.set x (.val (.lst (xs.set k.toNat r'.1)) true pn))) else none
            | _ => none
          | none => none
        | none => none
      | none => none
    | _ => none
  | none => none
/-- a list's method that changes it, the list a name's own; the arguments are frozen -/
def vMut (m : List D → List D → Option (List D × D)) (x : Nat) (as : List EF) : EF := fun C e => match e[x]? with
  | some (.val (.lst _) true _) => match vArgs (as.map .ex) C e with
    | some (e1, rs) => match e1[x]? with
      | some (.val (.lst xs) true p) => match m xs (rs.map (·.1)) with
        | some (ys, d) => some (e1.set x (.val (.lst ys) true p), (d, false))
        | none => none
      | _ => none
    | none => none
  | _ => none
def loopGo (tg : TF) (body : SF) (C : CT) : List D → VE → Option Out
  | [], e => some (.nx e)
  | x :: xs, e => match tg C (x, false) e with
    | some e1 => match body C e1 with
      | some (.nx e2) => loopGo tg body C xs e2
      | some (.ct e2) => loopGo tg body C xs e2
      | some (.bk e2) => some (.nx e2)
      | some (.rt e2 r) => some (.rt e2 r)
      | none => none
    | none => none
def Out.back (e0 : VE) (ln : List Nat) : Out → Out
  | .nx e => .nx (putBack e0 e ln)
  | .rt e r => .rt (putBack e0 e ln) r
  | .bk e => .bk (putBack e0 e ln)
  | .ct e => .ct (putBack e0 e ln)
def sFor (it : IF) (tg : TF) (body : SF) : SF := fun C e => match vArgs it.args C e with
  | some (e1, rs) => match it.items (rs.map (·.1)) with
    | some xs =>
      if (lends e1 it.args).Nodup then (loopGo tg body C xs (lendAll e1 (lends e1 it.args))).map (Out.back e1 (lends e1 it.args)) else none
    | none => none
  | none => none
def whileGo (c : EF) (body : SF) (C : CT) : Nat → VE → Option Out
  | 0, _ => none
  | n + 1, e => match c C e with
    | some (e1, .bl true, _) => match body C e1 with
      | some (.nx e2) => whileGo c body C n e2
      | some (.ct e2) => whileGo c body C n e2
      | some (.bk e2) => some (.nx e2)
      | some (.rt e2 r) => some (.rt e2 r)
      | none => none
    | some (e1, .bl false, _) => some (.nx e1)
    | _ => none
/-- the turns that a while may take -/
def TURNS : Nat := 2 ^ 64
def sWhile (c : EF) (body : SF) : SF := fun C e => whileGo c body C TURNS e

/-! ### functions -/
structure DefF where
  np : Nat
  ns : Nat
  body : SF
/-- what the parameters are behind: those that were lent -/
def outsOf : List R → VE → Option (List R)
  | [], _ => some []
  | (d, false) :: rs, _ :: e => match outsOf rs e with
    | some outs => some ((d, false) :: outs)
    | none => none
  | (_, true) :: rs, .val d o _ :: e => match outsOf rs e with
    | some outs => some ((d, o) :: outs)
    | none => none
  | _, _ => none
def startE (df : DefF) (rs : List R) : VE := rs.map (fun r => Sl.val r.1 r.2 r.2) ++ List.replicate (df.ns - df.np) .no
def runDef (C : CT) (df : DefF) (rs : List R) : Option (R × List R) :=
  if rs.length = df.np then
    match df.body C (startE df rs) with
    | some (.nx e) => match outsOf rs e with
      | some outs => some ((.non, false), outs)
      | none => none
    | some (.rt e r) => match outsOf rs e with
      | some outs => some (r, outs)
      | none => none
    | _ => none
  else none
abbrev Tab := Str → Option DefF
def callF (T : Tab) : Nat → CT
  | 0 => fun _ _ => none
  | k + 1 => fun f rs => match T f with
    | some df => runDef (callF T k) df rs
    | none => none

/-! ### operations -/
def LE : Nat := 2 ^ 64
def smallI (i : Int) : Bool := decide (-(2 ^ 64) < i) && decide (i < 2 ^ 64)
def pAdd : List D → Option R
  | [.int i, .int j] => some (.int (i + j), false)
  | [.str a, .str b] => if a.length + b.length ≤ LIM then some (.str (a ++ b), false) else none
  | [.lst a, .lst b] => if a.length + b.length ≤ LIM then some (.lst (a ++ b), true) else none
  | [.tup a, .tup b] => if a.length + b.length ≤ LIM ∧ a ≠ [] ∧ b ≠ [] then some (.tup (a ++ b), false) else none
  | _ => none
def pSub : List D → Option R
  | [.int i, .int j] => some (.int (i - j), false)
  | _ => none
def pMul : List D → Option R
  | [.int i, .int j] => if smallI i || smallI j then some (.int (i * j), false) else none
  | [.lst a, .int k] => if 0 ≤ k ∧ k < 2 ^ 62 ∧ a.length * k.toNat ≤ LIM then some (.lst (List.replicate k.toNat a).flatten, true) else none
  | _ => none
def pFdiv : List D → Option R
  | [.int i, .int j] => if j ≠ 0 ∧ j.natAbs < 1073741824 then some (.int (i.fdiv j), false) else none
  | _ => none
def pMod : List D → Option R
  | [.int i, .int j] => if j ≠ 0 then some (.int (i.fmod j), false) else none
  | _ => none
def pPow : List D → Option R
  | [.int i, .int j] => if 0 ≤ j ∧ j ≤ 1000000 ∧ i.natAbs < 2 ^ 64 then some (.int (i ^ j.toNat), false) else none
  | _ => none
def pShl : List D → Option R
  | [.int i, .int j] => if 0 ≤ j ∧ j ≤ 1000000 ∧ i.natAbs < 2 ^ 64 then some (.int (i * 2 ^ j.toNat), false) else none
  | _ => none
def pShr : List D → Option R
  | [.int i, .int j] => if 0 ≤ j then some (.int (i / 2 ^ j.toNat), false) else none
  | _ => none
def pAnd : List D → Option R
  | [.int i, .int j] => some (.int (Builtin.bitAnd i j), false)
  | _ => none
def pOr : List D → Option R
  | [.int i, .int j] => some (.int (Builtin.bitOr i j), false)
  | _ => none
def pNeg : List D → Option R
  | [.int i] => some (.int (-i), false)
  | _ => none
/-- the depth of data -/
def DEEP : Nat := 100
def eqD (a b : D) : Option Bool := match toPy a, toPy b with
  | some x, some y => if x.plain && y.plain && decide (x.depth ≤ DEEP) then some (PyData.eqv x y) else none
  | _, _ => none
def pEq : List D → Option R
  | [a, b] => (eqD a b).map fun k => (.bl k, false)
  | _ => none
def pNe : List D → Option R
  | [a, b] => (eqD a b).map fun k => (.bl (!k), false)
  | _ => none
def pLt : List D → Option R
  | [.int i, .int j] => some (.bl (decide (i < j)), false)
  | _ => none
def pLe : List D → Option R
  | [.int i, .int j] => some (.bl (decide (i ≤ j)), false)
  | _ => none
def pGt : List D → Option R
  | [.int i, .int j] => some (.bl (decide (j < i)), false)
  | _ => none
def pGe : List D → Option R
  | [.int i, .int j] => some (.bl (decide (j ≤ i)), false)
  | _ => none
def pIsN : List D → Option R
  | [.non] => some (.bl true, false)
  | [_] => some (.bl false, false)
  | _ => none
def pNotN : List D → Option R
  | [.non] => some (.bl false, false)
  | [_] => some (.bl true, false)
  | _ => none
def pTup : List D → Option R := fun ds => if ds.length ≤ LIM then some (.tup ds, false) else none
def pLst : List D → Option R := fun ds => if ds.length ≤ LIM then some (.lst ds, true) else none
def pIdx : List D → Option R
  | [.lst xs, .int i] => match ixD xs.length i with
    | some j => (xs[j]?).map fun d => (d, false)
    | none => none
  | [.tup xs, .int i] => match ixD xs.length i with
    | some j => (xs[j]?).map fun d => (d, false)
    | none => none
  | _ => none
/-- slices; non: left out -/
def cutD (xs : List D) (lo hi : Option Int) : List D := (xs.drop (HT.sIx xs.length 0 lo)).take (HT.sIx xs.length xs.length hi - HT.sIx xs.length 0 lo)
/-- x cut at lo, hi -/
def cutR (x : D) (lo hi : Option Int) : Option R := match x with
  | .lst xs => some (.lst (cutD xs lo hi), true)
  | .wk xs => some (.lst (cutD xs lo hi), true)
  | _ => none
def pSlLH : List D → Option R
  | [x, .int a, .int b] => cutR x (some a) (some b)
  | _ => none
def pSlL : List D → Option R
  | [x, .int a] => cutR x (some a) none
  | _ => none
def pSlH : List D → Option R
  | [x, .int b] => cutR x none (some b)
  | _ => none
def pSlN : List D → Option R
  | [x] => cutR x none none
  | _ => none
def pLen : List D → Option R
  | [.lst xs] => some (.int xs.length, false)
  | [.tup xs] => some (.int xs.length, false)
  | _ => none
def pInt : List D → Option R
  | [.int i] => some (.int i, false)
  | [.bl b] => some (.int (if b then 1 else 0), false)
  | _ => none
def pBits : List D → Option R
  | [.int i] => some (.int (if i = 0 then 0 else (i.natAbs.log2 : Int) + 1), false)
  | _ => none
/-- a value's built-in type -/
def tyOf : D → Option String
  | .non => some "NoneType"
  | .bl _ => some "bool"
  | .int _ => some "int"
  | .str _ => some "str"
  | .lst _ => some "list"
  | .tup _ => some "tuple"
  | _ => none
def isaS (t T : String) : Option Bool :=
  if T = "int" then some (t == "int" || t == "bool") else if T = "bool" ∨ T = "str" ∨ T = "list" ∨ T = "tuple" ∨ T = "dict" then some (t == T) else none
def pIsa (T : String) : List D → Option R
  | [d] => match tyOf d with
    | some t => (isaS t T).map fun b => (.bl b, false)
    | none => none
  | _ => none
def pIsa2 (T U : String) : List D → Option R
  | [d] => match tyOf d with
    | some t => match isaS t T, isaS t U with
      | some a, some b => some (.bl (a || b), false)
      | _, _ => none
    | none => none
  | _ => none
def pAbs : List D → Option R
  | [.int i] => some (.int (if i < 0 then -i else i), false)
  | _ => none
def pMax2 : List D → Option R
  | [.int i, .int j] => some (.int (if j > i then j else i), false)
  | _ => none
def pMin2 : List D → Option R
  | [.int i, .int j] => some (.int (if j < i then j else i), false)
  | _ => none
def reprOk (x : PyData) : Bool := !x.hasDict && x.showable && decide (x.depth ≤ DEEP) && decide (x.shown.length ≤ LIM)
def pRepr : List D → Option R
  | [a] => match toPy a with
    | some x => if reprOk x then some (.str x.shown, false) else none
    | none => none
  | _ => none
def pList : List D → Option R
  | [.lst xs] => some (.lst xs, true)
  | [.tup xs] => some (.lst xs, true)
  | _ => none
/-! what is walked -/
def itSeq : List D → Option (List D)
  | [.lst xs] => some xs
  | [.tup xs] => some xs
  | _ => none
def itRng1 : List D → Option (List D)
  | [.int n] => if n < 2 ^ 62 ∧ -(2 ^ 62) ≤ n ∧ n ≤ LIM then some ((List.range n.toNat).map fun (k : Nat) => D.int k) else none
  | _ => none
def itRng2 : List D → Option (List D)
  | [.int a, .int b] => if -(2 ^ 62) ≤ a ∧ a < 2 ^ 62 ∧ -(2 ^ 62) ≤ b ∧ b < 2 ^ 62 ∧ b - a ≤ LIM then some ((List.range (b - a).toNat).map fun (k : Nat) => D.int (a + k)) else none
  | _ => none
/-! methods that change a list -/
def mAppend : List D → List D → Option (List D × D)
  | xs, [y] => if xs.length < LIM then some (xs ++ [y], .non) else none
  | _, _ => none
def mPop : List D → List D → Option (List D × D)
  | xs, [] => match xs[xs.length - 1]? with
    | some y => some (xs.dropLast, y)
    | none => none
  | _, _ => none
def mPopAt : List D → List D → Option (List D × D)
  | xs, [.int i] => if -(2 ^ 62) ≤ i ∧ i < 2 ^ 62 then match seqIndex? i xs.length with
    | some k => match xs[k]? with
      | some y => some (xs.eraseIdx k, y)
      | none => none
    | none => none
    else none
  | _, _ => none
def mClear : List D → List D → Option (List D × D)
  | _, [] => some ([], .non)
  | _, _ => none
def mExtend : List D → List D → Option (List D × D)
  | xs, [.lst ys] => if xs.length + ys.length ≤ LIM then some (xs ++ ys, .non) else none
  | _, _ => none
end VS

/-! VRep: how data stand in the abstract heap; environments; what holds behind an evaluation. -/
namespace VS
open PySem PySem.Spec PyProof.Rows L2

abbrev St := L2.St
/-- a program: its written part, its classes by name -/
structure Pg where
  K : PySem.W.Frag
  cl : Str → Option Addr

abbrev Pr := Addr → Prop
open Classical in
/-- the heap without the addresses of U -/
noncomputable def hide (U : Pr) (H : Hp) : Hp := fun a => if U a then none else H a
theorem hide_out {U : Pr} {H : Hp} {a : Addr} (h : ¬ U a) : hide U H a = H a := by unfold hide; rw [if_neg h]
theorem hide_in {U : Pr} {H : Hp} {a : Addr} (h : U a) : hide U H a = none := by unfold hide; rw [if_pos h]
theorem hide_some {U : Pr} {H : Hp} {a : Addr} {o : HO} (h : hide U H a = some o) : ¬ U a ∧ H a = some o := by
  by_cases u : U a
  · rw [hide_in u] at h; cases h
  · rw [hide_out u] at h; exact ⟨u, h⟩
theorem rd_hide {U : Pr} {H : Hp} {b : Addr} {u : HO} : Rd (hide U H) b u ↔ ¬ U b ∧ Rd H b u := by
  constructor
  · rintro (h | ⟨o, h⟩)
    · exact ⟨(hide_some h).1, .inl (hide_some h).2⟩
    · exact ⟨(hide_some h).1, .inr ⟨o, (hide_some h).2⟩⟩
  · rintro ⟨n, h | ⟨o, h⟩⟩
    · exact .inl (by rw [hide_out n]; exact h)
    · exact .inr ⟨o, by rw [hide_out n]; exact h⟩
/-- no dict -/
def noD : HO → Bool
  | .dK _ => false
  | .dT _ => false
  | .frz _ _ => false
  | _ => true
/-- what can be read in G can be read in G' -/
structure Grow (G G' : Hp) : Prop where
  rd : ∀ b u, Rd G b u → Rd G' b u
  ex : ∀ b u, noD u = true → G b = some u → G' b = some u
theorem Grow.refl (G : Hp) : Grow G G := ⟨fun _ _ h => h, fun _ _ _ h => h⟩
theorem Grow.trans {A B C : Hp} (h : Grow A B) (g : Grow B C) : Grow A C := ⟨fun b u r => g.rd b u (h.rd b u r), fun b u n r => g.ex b u n (h.ex b u n r)⟩
theorem rdSame {H H' : Hp} (s : L2.Same H H') {b : Addr} {u : HO} (h : Rd H b u) : Rd H' b u := h.elim (fun h => .inl (s _ _ h)) fun ⟨o, h⟩ => .inr ⟨o, s _ _ h⟩
theorem rd_ne {H : Hp} {b : Addr} {u : HO} (h : Rd H b u) : H b ≠ none := by
  rcases h with h | ⟨o, h⟩ <;> rw [h] <;> exact nofun
theorem grow_hideR {U U' : Pr} {H H' : Hp} (s : ∀ b u, ¬ U b → Rd H b u → Rd H' b u) (s2 : ∀ b u, ¬ U b → noD u = true → H b = some u → H' b = some u) (h : ∀ b, U' b → H b ≠ none → U b) : Grow (hide U H) (hide U' H') :=
  ⟨fun b u r => by
    obtain ⟨n, r⟩ := rd_hide.mp r
    exact rd_hide.mpr ⟨fun z => n (h b z (rd_ne r)), s b u n r⟩, fun b u n r => by
    obtain ⟨k, r⟩ := hide_some r
    rw [hide_out fun z => k (h b z (by rw [r]; exact nofun))]
    exact s2 b u k n r⟩
theorem grow_hide {U U' : Pr} {H H' : Hp} (s : L2.Same H H') (h : ∀ b, U' b → H b ≠ none → U b) : Grow (hide U H) (hide U' H') := grow_hideR (fun _ _ _ r => rdSame s r) (fun b u _ _ r => s b u r) h

def keyD : Key → D
  | .inl i => .int i
  | .inr x => .str x

mutual
inductive RepF (P : Pg) (G : Hp) : V → D → Prop
  | non : RepF P G .non .non
  | bl (b : Bool) : RepF P G (.bl b) (.bl b)
  | int (i : Int) : RepF P G (.int i) (.int i)
  | str (s : Str) : RepF P G (.str s) (.str s)
  | lst {a : Addr} {vs : List V} {ds : List D} : G a = some (.lst vs) → vs.length ≤ LIM → RepFs P G vs ds → RepF P G (.ref a) (.lst ds)
  | tup {a : Addr} {vs : List V} {ds : List D} : G a = some (.tup vs) → vs.length ≤ LIM → RepFs P G vs ds → RepF P G (.ref a) (.tup ds)
  | dK {a : Addr} {kvs : List (Key × V)} {ds : List (D × D)} : Rd G a (.dK kvs) → kvs.length ≤ LIM → RepKs P G kvs ds → RepF P G (.ref a) (.dct ds)
  | dT {a : Addr} {kvs : List (List Key × V)} {ds : List (D × D)} : Rd G a (.dT kvs) → kvs.length ≤ LIM → RepTs P G kvs ds → RepF P G (.ref a) (.dct ds)
  | ins {a C dx : Addr} {c : Str} {vfs : List (Str × V)} {fs : List (Str × D)} : P.cl c = some C → G a = some (.ins C dx vfs) → RepIs P G vfs fs → RepF P G (.ref a) (.ins c fs)
  | wk {a : Addr} {vs : List V} {ds : List D} : SqL P.K G a vs → RepFs P G vs ds → RepF P G (.ref a) (.wk ds)
inductive RepFs (P : Pg) (G : Hp) : List V → List D → Prop
  | nil : RepFs P G [] []
  | cons {v : V} {vs : List V} {d : D} {ds : List D} : RepF P G v d → RepFs P G vs ds → RepFs P G (v :: vs) (d :: ds)
inductive RepKs (P : Pg) (G : Hp) : List (Key × V) → List (D × D) → Prop
  | nil : RepKs P G [] []
  | cons {k : Key} {v : V} {r : List (Key × V)} {d : D} {ds : List (D × D)} : RepF P G v d → RepKs P G r ds → RepKs P G ((k, v) :: r) ((keyD k, d) :: ds)
inductive RepTs (P : Pg) (G : Hp) : List (List Key × V) → List (D × D) → Prop
  | nil : RepTs P G [] []
  | cons {k : List Key} {v : V} {r : List (List Key × V)} {d : D} {ds : List (D × D)} : RepF P G v d → RepTs P G r ds → RepTs P G ((k, v) :: r) ((.tup (k.map keyD), d) :: ds)
inductive RepIs (P : Pg) (G : Hp) : List (Str × V) → List (Str × D) → Prop
  | nil : RepIs P G [] []
  | cons {k : Str} {v : V} {r : List (Str × V)} {d : D} {ds : List (Str × D)} : RepF P G v d → RepIs P G r ds → RepIs P G ((k, v) :: r) ((k, d) :: ds)
end

theorem Grow.sqL {K : PySem.W.Frag} {G G' : Hp} (g : Grow G G') {a : Addr} {xs : List V} (h : SqL K G a xs) : SqL K G' a xs := h.elim (fun h => .inl (g.rd _ _ h)) .inr
theorem Grow.sqT {K : PySem.W.Frag} {G G' : Hp} (g : Grow G G') {a : Addr} {xs : List V} (h : SqT K G a xs) : SqT K G' a xs := h.elim (fun h => .inl (g.rd _ _ h)) .inr
section
variable {P : Pg} {G G' : Hp}
mutual
theorem RepF.grow (g : Grow G G') : ∀ {v : V} {d : D}, RepF P G v d → RepF P G' v d
  | _, _, .non => .non
  | _, _, .bl b => .bl b
  | _, _, .int i => .int i
  | _, _, .str s => .str s
  | _, _, .lst h l r => .lst (g.ex _ _ rfl h) l (r.grow g)
  | _, _, .tup h l r => .tup (g.ex _ _ rfl h) l (r.grow g)
  | _, _, .wk h r => .wk (g.sqL h) (r.grow g)
  | _, _, .dK h l r => .dK (g.rd _ _ h) l (r.grow g)
  | _, _, .dT h l r => .dT (g.rd _ _ h) l (r.grow g)
  | _, _, .ins c h r => .ins c (g.ex _ _ rfl h) (r.grow g)
theorem RepFs.grow (g : Grow G G') : ∀ {v : List V} {d : List D}, RepFs P G v d → RepFs P G' v d
  | _, _, .nil => .nil
  | _, _, .cons h r => .cons (h.grow g) (r.grow g)
theorem RepKs.grow (g : Grow G G') : ∀ {v : List (Key × V)} {d : List (D × D)}, RepKs P G v d → RepKs P G' v d
  | _, _, .nil => .nil
  | _, _, .cons h r => .cons (h.grow g) (r.grow g)
theorem RepTs.grow (g : Grow G G') : ∀ {v : List (List Key × V)} {d : List (D × D)}, RepTs P G v d → RepTs P G' v d
  | _, _, .nil => .nil
  | _, _, .cons h r => .cons (h.grow g) (r.grow g)
theorem RepIs.grow (g : Grow G G') : ∀ {v : List (Str × V)} {d : List (Str × D)}, RepIs P G v d → RepIs P G' v d
  | _, _, .nil => .nil
  | _, _, .cons h r => .cons (h.grow g) (r.grow g)
end

theorem RepFs.length : ∀ {v : List V} {d : List D}, RepFs P G v d → v.length = d.length
  | _, _, .nil => rfl
  | _, _, .cons _ r => congrArg (· + 1) r.length
theorem RepFs.append : ∀ {v w : List V} {d e : List D}, RepFs P G v d → RepFs P G w e → RepFs P G (v ++ w) (d ++ e)
  | _, _, _, _, .nil, s => s
  | _, _, _, _, .cons h r, s => .cons h (r.append s)
theorem RepFs.get : ∀ {v : List V} {d : List D} {i : Nat} {x : D}, RepFs P G v d → d[i]? = some x → ∃ y, v[i]? = some y ∧ RepF P G y x
  | _, _, _, _, .nil, e => by simp at e
  | _, _, 0, _, .cons h _, e => by simp at e; subst e; exact ⟨_, rfl, h⟩
  | _, _, i + 1, x, .cons _ r, e => by
    obtain ⟨y, h1, h2⟩ := r.get (i := i) (x := x) (by simpa using e)
    exact ⟨y, by simpa using h1, h2⟩
theorem RepFs.get' : ∀ {v : List V} {d : List D} {i : Nat} {y : V}, RepFs P G v d → v[i]? = some y → ∃ x, d[i]? = some x ∧ RepF P G y x
  | _, _, _, _, .nil, e => by simp at e
  | _, _, 0, _, .cons h _, e => by simp at e; subst e; exact ⟨_, rfl, h⟩
  | _, _, i + 1, x, .cons _ r, e => by
    obtain ⟨y, h1, h2⟩ := r.get' (i := i) (y := x) (by simpa using e)
    exact ⟨y, by simpa using h1, h2⟩
theorem RepFs.set {y : V} {x : D} (h : RepF P G y x) : ∀ {v : List V} {d : List D} (i : Nat), RepFs P G v d → RepFs P G (v.set i y) (d.set i x)
  | _, _, _, .nil => .nil
  | _, _, 0, .cons _ r => .cons h r
  | _, _, i + 1, .cons k r => .cons k (RepFs.set h i r)
theorem RepFs.take : ∀ {v : List V} {d : List D} (n : Nat), RepFs P G v d → RepFs P G (v.take n) (d.take n)
  | _, _, 0, _ => by rw [List.take_zero, List.take_zero]; exact .nil
  | _, _, _ + 1, .nil => .nil
  | _, _, n + 1, .cons h r => .cons h (RepFs.take n r)
theorem RepFs.drop : ∀ {v : List V} {d : List D} (n : Nat), RepFs P G v d → RepFs P G (v.drop n) (d.drop n)
  | _, _, 0, r => r
  | _, _, _ + 1, .nil => .nil
  | _, _, n + 1, .cons _ r => RepFs.drop n r
theorem RepFs.eraseIdx : ∀ {v : List V} {d : List D} (n : Nat), RepFs P G v d → RepFs P G (v.eraseIdx n) (d.eraseIdx n)
  | _, _, _, .nil => .nil
  | _, _, 0, .cons _ r => r
  | _, _, n + 1, .cons h r => .cons h (RepFs.eraseIdx n r)
theorem RepFs.dropLast {v : List V} {d : List D} (r : RepFs P G v d) : RepFs P G v.dropLast d.dropLast := by
  rw [List.dropLast_eq_take, List.dropLast_eq_take, r.length]; exact r.take _
theorem RepFs.rep {v : List V} {d : List D} (r : RepFs P G v d) : ∀ k : Nat, RepFs P G (List.replicate k v).flatten (List.replicate k d).flatten
  | 0 => .nil
  | k + 1 => by
    rw [List.replicate_succ, List.replicate_succ, List.flatten_cons, List.flatten_cons]
    exact r.append (r.rep k)
end

/-- an object at p, its items elsewhere -/
inductive RepO (P : Pg) (G H : Hp) : Addr → D → Prop
  | lst {p : Addr} {vs : List V} {ds : List D} : H p = some (.lst vs) → vs.length ≤ LIM → RepFs P G vs ds → RepO P G H p (.lst ds)
  | dK {p : Addr} {kvs : List (Key × V)} {ds : List (D × D)} : H p = some (.dK kvs) → kvs.length ≤ LIM → RepKs P G kvs ds → RepO P G H p (.dct ds)
  | dT {p : Addr} {kvs : List (List Key × V)} {ds : List (D × D)} : H p = some (.dT kvs) → kvs.length ≤ LIM → RepTs P G kvs ds → RepO P G H p (.dct ds)
  | ins {p C dx : Addr} {c : Str} {vfs : List (Str × V)} {fs : List (Str × D)} : P.cl c = some C → H p = some (.ins C dx vfs) → RepIs P G vfs fs → RepO P G H p (.ins c fs)
theorem RepO.grow {P : Pg} {G G' H H' : Hp} {p : Addr} {d : D} (h : RepO P G H p d) (g : Grow G G') (e : H' p = H p) : RepO P G' H' p d := by
  cases h with
  | lst h l r => exact .lst (by rw [e]; exact h) l (r.grow g)
  | dK h l r => exact .dK (by rw [e]; exact h) l (r.grow g)
  | dT h l r => exact .dT (by rw [e]; exact h) l (r.grow g)
  | ins c h r => exact .ins c (by rw [e]; exact h) (r.grow g)
theorem RepO.there {P : Pg} {G H : Hp} {p : Addr} {d : D} (h : RepO P G H p d) : H p ≠ none := by
  cases h with
  | lst h l r => rw [h]; exact nofun
  | dK h l r => rw [h]; exact nofun
  | dT h l r => rw [h]; exact nofun
  | ins c h r => rw [h]; exact nofun
theorem RepO.mut {P : Pg} {G H : Hp} {p : Addr} {d : D} (h : RepO P G H p d) : Mut (H p) := by
  cases h with
  | lst h l r => rw [h]; trivial
  | dK h l r => rw [h]; trivial
  | dT h l r => rw [h]; trivial
  | ins c h r => rw [h]; trivial
/-- frozen: the object can be seen in G -/
theorem RepO.frz {P : Pg} {G H : Hp} {p : Addr} {d : D} (h : RepO P G H p d) (e : G p = H p) : RepF P G (.ref p) d := by
  cases h with
  | lst h l r => exact .lst (e.trans h) l r
  | dK h l r => exact .dK (.inl (e.trans h)) l r
  | dT h l r => exact .dT (.inl (e.trans h)) l r
  | ins c h r => exact .ins c (e.trans h) r

/-- a value as a result -/
def RV (P : Pg) (G H : Hp) (v : V) (r : R) : Prop := if r.2 = true then ∃ p, v = .ref p ∧ RepO P G H p r.1 else RepF P G v r.1
/-- a value that can be read -/
def RR (P : Pg) (G H : Hp) (v : V) (d : D) : Prop := RepF P G v d ∨ ∃ p, v = .ref p ∧ RepO P G H p d
theorem RV.f {P : Pg} {G H : Hp} {v : V} {d : D} (h : RepF P G v d) : RV P G H v (d, false) := h
theorem RV.o {P : Pg} {G H : Hp} {p : Addr} {d : D} (h : RepO P G H p d) : RV P G H (.ref p) (d, true) := ⟨p, rfl, h⟩
theorem RV.rr {P : Pg} {G H : Hp} {v : V} {r : R} (h : RV P G H v r) : RR P G H v r.1 := by
  obtain ⟨d, o⟩ := r
  cases o with
  | false => exact .inl h
  | true => exact .inr h
/-- the address that a result owns -/
def OwnV (v : V) (r : R) (a : Addr) : Prop := r.2 = true ∧ v = .ref a
theorem RV.grow {P : Pg} {G G' H H' : Hp} {v : V} {r : R} (h : RV P G H v r) (g : Grow G G') (e : ∀ a, OwnV v r a → H' a = H a) : RV P G' H' v r := by
  obtain ⟨d, o⟩ := r
  cases o with
  | false => exact RepF.grow g h
  | true =>
    obtain ⟨p, rfl, h⟩ := h
    exact ⟨p, rfl, h.grow g (e p ⟨rfl, rfl⟩)⟩
theorem RR.grow {P : Pg} {G G' H H' : Hp} {v : V} {d : D} (h : RR P G H v d) (g : Grow G G') (e : ∀ a, v = .ref a → H a ≠ none → H' a = H a) : RR P G' H' v d := by
  rcases h with h | ⟨p, rfl, h⟩
  · exact .inl (h.grow g)
  · exact .inr ⟨p, rfl, h.grow g (e p rfl h.there)⟩

/-- slot i owns a -/
def Own (e : VE) (σ : St) (i : Nat) (a : Addr) : Prop := ∃ (d : D) (p : Bool), e[i]? = some (Sl.val d true p) ∧ σ[i]? = some (some (.ref a))
/-- what is owned: the frame's, the environment's -/
def Us (F : Pr) (e : VE) (σ : St) : Pr := fun a => F a ∨ ∃ i, Own e σ i a
structure EnvOk (P : Pg) (F : Pr) (e : VE) (σ : St) (H : Hp) : Prop where
  len : e.length = σ.length
  slot : ∀ (i : Nat) (d : D) (o p : Bool), e[i]? = some (Sl.val d o p) → ∃ v, σ[i]? = some (some v) ∧ RV P (hide (Us F e σ) H) H v (d, o)
  inj : ∀ (i j : Nat) (a : Addr), Own e σ i a → Own e σ j a → i = j
  dj : ∀ (i : Nat) (a : Addr), Own e σ i a → ¬ F a
  al : ∀ a, F a → H a ≠ none

/-- lent and pinned slots stay -/
def Fixed (s : Sl) : Bool := match s with
  | .lent => true
  | .val _ _ p => p
  | .no => false
def isLent (s : Sl) : Bool := match s with
  | .lent => true
  | _ => false
structure Stay (e : VE) (σ : St) (e' : VE) (σ' : St) : Prop where
  len : e'.length = e.length
  fix : ∀ (i : Nat) (s : Sl), e[i]? = some s → Fixed s = true → σ'[i]? = σ[i]? ∧ ∃ s', e'[i]? = some s' ∧ Fixed s' = true ∧ isLent s' = isLent s
theorem Stay.refl (e : VE) (σ : St) : Stay e σ e σ := ⟨rfl, fun i s h f => ⟨rfl, s, h, f, rfl⟩⟩
theorem Stay.trans {e e1 e2 : VE} {σ σ1 σ2 : St} (a : Stay e σ e1 σ1) (b : Stay e1 σ1 e2 σ2) : Stay e σ e2 σ2 := by
  refine ⟨b.len.trans a.len, fun i s h f => ?_⟩
  obtain ⟨h1, s1, h2, h3, h4⟩ := a.fix i s h f
  obtain ⟨g1, s2, g2, g3, g4⟩ := b.fix i s1 h2 h3
  exact ⟨g1.trans h1, s2, g2, g3, g4.trans h4⟩

/-- the results' own addresses -/
def OwnVs (vs : List V) (rs : List R) (k : Nat) (a : Addr) : Prop := ∃ d, vs[k]? = some (.ref a) ∧ rs[k]? = some (d, true)
/-- what is owned behind: the frame's, the results', the environment's -/
def UsR (F : Pr) (vs : List V) (rs : List R) : Pr := fun a => F a ∨ ∃ k, OwnVs vs rs k a

/-- the results: expressions' (none), names' (some i: what stands at the slot) -/
inductive RVs (P : Pg) (G H : Hp) (e : VE) (σ : St) : List (Option Nat) → List V → List R → Prop
  | nil : RVs P G H e σ [] [] []
  | ex {v : V} {r : R} {ks : List (Option Nat)} {vs : List V} {rs : List R} : RV P G H v r → RVs P G H e σ ks vs rs → RVs P G H e σ (none :: ks) (v :: vs) (r :: rs)
  | nm {i : Nat} {v : V} {d : D} {o p : Bool} {ks : List (Option Nat)} {vs : List V} {rs : List R} : e[i]? = some (.val d o p) → σ[i]? = some (some v) → RVs P G H e σ ks vs rs → RVs P G H e σ (some i :: ks) (v :: vs) ((d, false) :: rs)
structure Post (P : Pg) (F : Pr) (e : VE) (σ : St) (H : Hp) (ks : List (Option Nat)) (e' : VE) (σ' : St) (vs : List V) (rs : List R) (H' : Hp) : Prop where
  env : EnvOk P (UsR F vs rs) e' σ' H'
  rv : RVs P (hide (Us (UsR F vs rs) e' σ') H') H' e' σ' ks vs rs
  inj : ∀ (i j : Nat) (a : Addr), OwnVs vs rs i a → OwnVs vs rs j a → i = j
  nf : ∀ (k : Nat) (a : Addr), OwnVs vs rs k a → ¬ F a
  fr : ∀ a, F a → H' a = H a
  gr : Grow (hide (Us F e σ) H) (hide (Us (UsR F vs rs) e' σ') H')
  st : Stay e σ e' σ'

theorem ownVs_nil {k : Nat} {a : Addr} : ¬ OwnVs [] [] k a := fun ⟨_, h, _⟩ => by simp at h
theorem usR_nil {F : Pr} {a : Addr} : UsR F [] [] a ↔ F a := ⟨fun h => h.elim id fun ⟨_, h⟩ => (ownVs_nil h).elim, .inl⟩
theorem usR_nil' {F : Pr} : UsR F [] [] = F := funext fun _ => propext usR_nil
theorem ownVs_cons {v : V} {r : R} {vs : List V} {rs : List R} {k : Nat} {a : Addr} : OwnVs (v :: vs) (r :: rs) k a ↔ (k = 0 ∧ OwnV v r a) ∨ ∃ j, k = j + 1 ∧ OwnVs vs rs j a := by
  cases k with
  | zero =>
    constructor
    · rintro ⟨d, h1, h2⟩
      simp at h1 h2
      exact .inl ⟨rfl, by rw [h2], h1⟩
    · rintro (⟨_, h1, h2⟩ | ⟨j, h, _⟩)
      · obtain ⟨d, o⟩ := r
        cases h1
        exact ⟨d, by simpa using h2, rfl⟩
      · omega
  | succ j =>
    constructor
    · rintro ⟨d, h1, h2⟩
      exact .inr ⟨j, rfl, d, by simpa using h1, by simpa using h2⟩
    · rintro (⟨h, _⟩ | ⟨i, h, d, h1, h2⟩)
      · omega
      · obtain rfl : j = i := by omega
        exact ⟨d, by simpa using h1, by simpa using h2⟩
theorem usR_one {F : Pr} {v : V} {r : R} {a : Addr} : UsR F [v] [r] a ↔ F a ∨ OwnV v r a := by
  constructor
  · rintro (h | ⟨k, h⟩)
    · exact .inl h
    · rcases ownVs_cons.mp h with ⟨_, h⟩ | ⟨j, _, h⟩
      · exact .inr h
      · exact (ownVs_nil h).elim
  · rintro (h | h)
    · exact .inl h
    · exact .inr ⟨0, ownVs_cons.mpr (.inl ⟨rfl, h⟩)⟩
theorem usR_cons {F : Pr} {v : V} {r : R} {vs : List V} {rs : List R} : UsR (UsR F [v] [r]) vs rs = UsR F (v :: vs) (r :: rs) := funext fun a => propext (by
  constructor
  · rintro (h | ⟨k, h⟩)
    · rcases usR_one.mp h with h | h
      · exact .inl h
      · exact .inr ⟨0, ownVs_cons.mpr (.inl ⟨rfl, h⟩)⟩
    · exact .inr ⟨k + 1, ownVs_cons.mpr (.inr ⟨k, rfl, h⟩)⟩
  · rintro (h | ⟨k, h⟩)
    · exact .inl (.inl h)
    · rcases ownVs_cons.mp h with ⟨_, h⟩ | ⟨j, _, h⟩
      · exact .inl (usR_one.mpr (.inr h))
      · exact .inr ⟨j, h⟩)
theorem usR_flat {F : Pr} {v : V} {d : D} {vs : List V} {rs : List R} : UsR F (v :: vs) ((d, false) :: rs) = UsR F vs rs := funext fun a => propext (by
  constructor
  · rintro (h | ⟨k, h⟩)
    · exact .inl h
    · rcases ownVs_cons.mp h with ⟨_, h, _⟩ | ⟨j, _, h⟩
      · cases h
      · exact .inr ⟨j, h⟩
  · rintro (h | ⟨k, h⟩)
    · exact .inl h
    · exact .inr ⟨k + 1, ownVs_cons.mpr (.inr ⟨k, rfl, h⟩)⟩)
end VS

/-! VPost: evaluations put together; arguments; pure operations. -/
namespace VS
open PySem PySem.Spec PyProof.Rows L2
variable {P : Pg} {C : CT}

theorem us_nil {F : Pr} {e : VE} {σ : St} : Us (UsR F [] []) e σ = Us F e σ := by rw [usR_nil']
theorem EnvOk.there {F : Pr} {e : VE} {σ : St} {H : Hp} (E : EnvOk P F e σ H) {a : Addr} (h : Us F e σ a) : H a ≠ none := by
  rcases h with h | ⟨i, d, p, h1, h2⟩
  · exact E.al a h
  · obtain ⟨v, h3, q, h4, h5⟩ := E.slot i d true p h1
    rw [h2] at h3
    cases h3
    cases h4
    exact h5.there
theorem Post.nil {F : Pr} {e : VE} {σ : St} {H : Hp} (E : EnvOk P F e σ H) : Post P F e σ H [] e σ [] [] H where
  env := by rw [usR_nil']; exact E
  rv := .nil
  inj := fun i j a h => (ownVs_nil h).elim
  nf := fun k a h => (ownVs_nil h).elim
  fr := fun _ _ => rfl
  gr := by rw [us_nil]; exact .refl _
  st := .refl _ _
theorem Post.consG {F : Pr} {e e1 e2 : VE} {σ σ1 σ2 : St} {H H1 H2 : Hp} {v : V} {r : R} {ks : List (Option Nat)} {vs : List V} {rs : List R}
    (a : Post P F e σ H [none] e1 σ1 [v] [r] H1) (b : Post P (UsR F [v] [r]) e1 σ1 H1 ks e2 σ2 vs rs H2) : Post P F e σ H (none :: ks) e2 σ2 (v :: vs) (r :: rs) H2 where
  env := by rw [← usR_cons]; exact b.env
  rv := by
    rw [← usR_cons]
    cases a.rv with
    | ex h _ => exact .ex (h.grow b.gr fun x o => b.fr x (usR_one.mpr (.inr o))) b.rv
  inj := fun i j x h g => by
    rcases ownVs_cons.mp h with ⟨h0, h⟩ | ⟨i', h0, h⟩ <;> rcases ownVs_cons.mp g with ⟨g0, g⟩ | ⟨j', g0, g⟩
    · omega
    · exact (b.nf _ _ g (usR_one.mpr (.inr h))).elim
    · exact (b.nf _ _ h (usR_one.mpr (.inr g))).elim
    · have := b.inj _ _ _ h g; omega
  nf := fun k x h => by
    rcases ownVs_cons.mp h with ⟨_, h⟩ | ⟨i', _, h⟩
    · exact a.nf 0 x (ownVs_cons.mpr (.inl ⟨rfl, h⟩))
    · exact fun z => b.nf _ _ h (usR_one.mpr (.inl z))
  fr := fun x h => (b.fr x (usR_one.mpr (.inl h))).trans (a.fr x h)
  gr := by rw [← usR_cons]; exact a.gr.trans b.gr
  st := a.st.trans b.st
/-- a name put ahead -/
theorem Post.consN {F : Pr} {e e' : VE} {σ σ' : St} {H H' : Hp} {ks : List (Option Nat)} {vs : List V} {rs : List R} (b : Post P F e σ H ks e' σ' vs rs H') {i : Nat} {d : D} {o p : Bool} (h : e'[i]? = some (.val d o p)) {v : V} (hv : σ'[i]? = some (some v)) :
    Post P F e σ H (some i :: ks) e' σ' (v :: vs) ((d, false) :: rs) H' where
  env := by rw [usR_flat]; exact b.env
  rv := by
    rw [usR_flat]
    exact .nm h hv b.rv
  inj := fun i j x h g => by
    rcases ownVs_cons.mp h with ⟨_, h, _⟩ | ⟨i', h0, h⟩
    · cases h
    · rcases ownVs_cons.mp g with ⟨_, g, _⟩ | ⟨j', g0, g⟩
      · cases g
      · have := b.inj _ _ _ h g; omega
  nf := fun k x h => by
    rcases ownVs_cons.mp h with ⟨_, h, _⟩ | ⟨i', _, h⟩
    · cases h
    · exact b.nf _ _ h
  fr := b.fr
  gr := by rw [usR_flat]; exact b.gr
  st := b.st

/-! ### readings -/
def semE (P : Pg) (C : CT) (f : EF) : TE := fun σ H Q => ∃ (F : Pr) (e e' : VE) (r : R), EnvOk P F e σ H ∧ f C e = some (e', r) ∧ ∀ v H', Post P F e σ H [none] e' σ [v] [r] H' → Q v H'
def semAR (P : Pg) (C : CT) : AR → TE
  | .nm i => tVar i
  | .ex f => semE P C f
def semL (P : Pg) (C : CT) : List AR → TA
  | [] => tNil
  | a :: r => tCons (semAR P C a) (semL P C r)
def isEx : AR → Option Nat
  | .nm i => some i
  | .ex _ => none
theorem args_ok {σ : St} : ∀ (as : List AR) {F : Pr} {e e' : VE} {H : Hp} {rs : List R} {Q : List V → Hp → Prop}, EnvOk P F e σ H → vArgs as C e = some (e', rs) → (∀ vs H', Post P F e σ H (as.map isEx) e' σ vs rs H' → Q vs H') → semL P C as σ H Q
  | [], F, e, e', H, rs, Q, E, h, q => by
    have h' : some (e, ([] : List R)) = some (e', rs) := h
    cases h'
    exact q [] H (Post.nil E)
  | .nm i :: r, F, e, e', H, rs, Q, E, h, q => by
    unfold vArgs at h
    split at h
    · rename_i d0 h0
      split at h
      · rename_i e1 rs1 h1
        split at h
        · rename_i d h2
          cases h
          obtain ⟨d1, o1, p1, hs⟩ : ∃ (d1 : D) (o1 p1 : Bool), e[i]? = some (Sl.val d1 o1 p1) := by
            unfold readAt at h0
            split at h0
            · rename_i d' o' p' z; exact ⟨d', o', p', z⟩
            · cases h0
          obtain ⟨o2, p2, hs2⟩ : ∃ (o2 p2 : Bool), e'[i]? = some (Sl.val d o2 p2) := by
            unfold readAt at h2
            split at h2
            · rename_i d' o' p' z; cases h2; exact ⟨o', p', z⟩
            · cases h2
          obtain ⟨v, hv, _⟩ := E.slot i d1 o1 p1 hs
          exact ⟨v, hv, args_ok r E h1 fun vs H' p => q (v :: vs) H' (p.consN hs2 hv)⟩
        · cases h
      · cases h
    · cases h
  | .ex f :: r, F, e, e', H, rs, Q, E, h, q => by
    unfold vArgs at h
    split at h
    · rename_i e1 x h1
      split at h
      · rename_i e2 rs2 h2
        cases h
        exact ⟨F, e, e1, x, E, h1, fun v H1 p1 => args_ok r p1.env h2 fun vs H' p2 => q (v :: vs) H' (p1.consG p2)⟩
      · cases h
    · cases h

/-! ### pure operations -/
inductive RRs (P : Pg) (G H : Hp) : List V → List D → Prop
  | nil : RRs P G H [] []
  | cons {v : V} {d : D} {vs : List V} {ds : List D} : RR P G H v d → RRs P G H vs ds → RRs P G H (v :: vs) (d :: ds)
theorem RVs.rrs {U : Pr} {H : Hp} {e : VE} {σ : St} (E : ∀ (i : Nat) (d : D) (o p : Bool), e[i]? = some (Sl.val d o p) → ∃ v, σ[i]? = some (some v) ∧ RV P (hide U H) H v (d, o)) {ks : List (Option Nat)} {vs : List V} {rs : List R} (h : RVs P (hide U H) H e σ ks vs rs) : RRs P (hide U H) H vs (rs.map (·.1)) := by
  induction h with
  | nil => exact .nil
  | ex r _ ih => exact .cons r.rr ih
  | nm h1 h2 _ ih =>
    obtain ⟨v, h3, h4⟩ := E _ _ _ _ h1
    rw [h2] at h3
    cases h3
    exact .cons h4.rr ih
theorem Post.rrs {F : Pr} {e e' : VE} {σ σ' : St} {H H' : Hp} {ks : List (Option Nat)} {vs : List V} {rs : List R} (p : Post P F e σ H ks e' σ' vs rs H') : RRs P (hide (Us (UsR F vs rs) e' σ') H') H' vs (rs.map (·.1)) := p.rv.rrs p.env.slot
structure Res (P : Pg) (U : Pr) (H : Hp) (v : V) (r : R) (H' : Hp) : Prop where
  same : Same H H'
  rv : RV P (hide (fun a => U a ∨ OwnV v r a) H') H' v r
  new : ∀ a, OwnV v r a → H a = none
theorem Res.old {U : Pr} {H : Hp} {v : V} {d : D} (h : RepF P (hide U H) v d) : Res P U H v (d, false) H where
  same := .refl _
  rv := h.grow (grow_hide (.refl _) fun b z _ => z.elim id fun z => by cases z.1)
  new := fun a z => by cases z.1
theorem same_upd {H : Hp} {p : Addr} {o : HO} (h : H p = none) : Same H (upd H p o) := fun b x e => by
  rw [upd_ne (ne_of_none e h)]; exact e
theorem Res.newLst {U : Pr} {H : Hp} {p : Addr} {vs : List V} {ds : List D} (h : RepFs P (hide U H) vs ds) (n : H p = none) (l : vs.length ≤ LIM) : Res P U H (.ref p) (.lst ds, true) (upd H p (.lst vs)) where
  same := same_upd n
  rv := ⟨p, rfl, .lst upd_same l (h.grow (grow_hide (same_upd n) fun b z t => z.elim id fun z => by
    cases z.2; exact (t n).elim))⟩
  new := fun a z => by cases z.2; exact n
theorem Res.newTup {U : Pr} {H : Hp} {p : Addr} {vs : List V} {ds : List D} (h : RepFs P (hide U H) vs ds) (n : H p = none) (u : ¬ U p) (l : vs.length ≤ LIM) : Res P U H (.ref p) (.tup ds, false) (upd H p (.tup vs)) where
  same := same_upd n
  rv := .tup (vs := vs) (by rw [hide_out fun z => z.elim u fun z => nomatch z.1]; exact upd_same) l (h.grow (grow_hide (same_upd n) fun b z t => z.elim id fun z => by cases z.1))
  new := fun a z => by cases z.1
/-- a pure operation's reading -/
def primR (P : Pg) (p : List D → Option R) : List V → Hp → VK → Prop := fun vs H Q => ∃ (U : Pr) (ds : List D) (r : R), (∀ a, U a → H a ≠ none) ∧ RRs P (hide U H) H vs ds ∧ p ds = some r ∧ ∀ v H', Res P U H v r H' → Q v H'
theorem Post.prim {F : Pr} {e e' : VE} {σ σ' : St} {H H1 H2 : Hp} {ks : List (Option Nat)} {vs : List V} {rs : List R} {v : V} {r : R} (p : Post P F e σ H ks e' σ' vs rs H1) (q : Res P (Us (UsR F vs rs) e' σ') H1 v r H2) :
    Post P F e σ H [none] e' σ' [v] [r] H2 := by
  have sub : ∀ b, Us (UsR F [v] [r]) e' σ' b → H1 b ≠ none → Us (UsR F vs rs) e' σ' b := fun b z t => by
    rcases z with z | z
    · rcases usR_one.mp z with z | z
      · exact .inl (.inl z)
      · exact (t (q.new b z)).elim
    · exact .inr z
  have gr1 : Grow (hide (Us (UsR F vs rs) e' σ') H1) (hide (Us (UsR F [v] [r]) e' σ') H2) := grow_hide q.same sub
  have frz : ∀ a u, H1 a = some u → H2 a = H1 a := fun a u z => by rw [z]; exact q.same a u z
  have frn : ∀ a, H1 a ≠ none → H2 a = H1 a := fun a z => by
    cases h : H1 a with
    | none => exact (z h).elim
    | some u => exact q.same a u h
  refine ⟨⟨p.env.len, fun i d o pn h => ?_, p.env.inj, fun i a h z => ?_, fun a z => ?_⟩, ?_, fun i j a h g => ?_, fun k a h => ?_, fun a z => ?_, p.gr.trans gr1, p.st⟩
  · obtain ⟨w, h1, h2⟩ := p.env.slot i d o pn h
    refine ⟨w, h1, h2.grow gr1 fun a oa => frn a (p.env.there (.inr ⟨i, d, pn, ?_, ?_⟩))⟩
    · have e1 : o = true := oa.1
      rw [← e1]; exact h
    · rw [h1, oa.2]
  · rcases usR_one.mp z with z | z
    · exact p.env.dj i a h (.inl z)
    · exact p.env.there (.inr ⟨i, h⟩) (q.new a z)
  · rcases usR_one.mp z with z | z
    · have := p.env.al a (.inl z)
      rw [frn a this]; exact this
    · have := q.rv
      obtain ⟨h1, h2⟩ := z
      obtain ⟨d, o⟩ := r
      obtain rfl : o = true := h1
      obtain ⟨p', h3, h4⟩ := this
      rw [h2] at h3
      cases h3
      exact h4.there
  · refine .ex (q.rv.grow (grow_hide (.refl _) fun b z t => ?_) fun _ _ => rfl) .nil
    rcases z with z | z
    · rcases usR_one.mp z with z | z
      · exact .inl (.inl (.inl z))
      · exact .inr z
    · exact .inl (.inr z)
  · rcases ownVs_cons.mp h with ⟨h0, _⟩ | ⟨i', _, h⟩
    · rcases ownVs_cons.mp g with ⟨g0, _⟩ | ⟨j', _, g⟩
      · omega
      · exact (ownVs_nil g).elim
    · exact (ownVs_nil h).elim
  · intro z
    rcases ownVs_cons.mp h with ⟨_, h⟩ | ⟨i', _, h⟩
    · exact p.env.al a (.inl z) (q.new a h)
    · exact ownVs_nil h
  · rw [frn a (p.env.al a (.inl z))]; exact p.fr a z
theorem sem_prim {p : List D → Option R} {as : List AR} {σ : St} {H : Hp} {Q : VK} (h : semE P C (vP p as) σ H Q) : semL P C as σ H fun vs H' => primR P p vs H' Q := by
  obtain ⟨F, e, e', r, E, h1, q⟩ := h
  unfold vP at h1
  split at h1
  · rename_i e1 rs h2
    split at h1
    · rename_i r1 h3
      cases h1
      exact args_ok as E h2 fun vs H' po => ⟨_, _, _, fun a z => po.env.there z, po.rrs, h3, fun v H'' re => q v H'' (po.prim re)⟩
    · cases h1
  · cases h1

/-! ### what a readable value is -/
section
variable {G H : Hp} {v : V}
theorem RR.int {i : Int} (h : RR P G H v (.int i)) : v = .int i := by
  rcases h with h | ⟨p, _, h⟩
  · cases h; rfl
  · cases h
theorem RR.bl {b : Bool} (h : RR P G H v (.bl b)) : v = .bl b := by
  rcases h with h | ⟨p, _, h⟩
  · cases h; rfl
  · cases h
theorem RR.str {s : Str} (h : RR P G H v (.str s)) : v = .str s := by
  rcases h with h | ⟨p, _, h⟩
  · cases h; rfl
  · cases h
theorem RR.non (h : RR P G H v .non) : v = .non := by
  rcases h with h | ⟨p, _, h⟩
  · cases h; rfl
  · cases h
theorem RR.lst {U : Pr} {ds : List D} (h : RR P (hide U H) H v (.lst ds)) : ∃ a vs, v = .ref a ∧ H a = some (.lst vs) ∧ RepFs P (hide U H) vs ds ∧ vs.length ≤ LIM := by
  rcases h with h | ⟨p, rfl, h⟩
  · cases h with
    | lst h l r => exact ⟨_, _, rfl, (hide_some h).2, r, l⟩
  · cases h with
    | lst h l r => exact ⟨_, _, rfl, h, r, l⟩
theorem RR.tup {U : Pr} {ds : List D} (h : RR P (hide U H) H v (.tup ds)) : ∃ a vs, v = .ref a ∧ H a = some (.tup vs) ∧ RepFs P (hide U H) vs ds ∧ vs.length ≤ LIM := by
  rcases h with h | ⟨p, rfl, h⟩
  · cases h with
    | tup h l r => exact ⟨_, _, rfl, (hide_some h).2, r, l⟩
  · cases h
theorem RR.wk {U : Pr} {ds : List D} (h : RR P (hide U H) H v (.wk ds)) : ∃ a vs, v = .ref a ∧ SqL P.K H a vs ∧ RepFs P (hide U H) vs ds := by
  rcases h with h | ⟨p, rfl, h⟩
  · cases h with
    | wk h r => exact ⟨_, _, rfl, h.elim (fun h => .inl (rd_hide.mp h).2) .inr, r⟩
  · cases h
end
theorem RRs.one {G H : Hp} {vs : List V} {d : D} (h : RRs P G H vs [d]) : ∃ v, vs = [v] ∧ RR P G H v d := by
  cases h with
  | cons h r => cases r; exact ⟨_, rfl, h⟩
theorem RRs.two {G H : Hp} {vs : List V} {d d' : D} (h : RRs P G H vs [d, d']) : ∃ v v', vs = [v, v'] ∧ RR P G H v d ∧ RR P G H v' d' := by
  cases h with
  | cons h r =>
    obtain ⟨_, rfl, r2⟩ := r.one
    exact ⟨_, _, rfl, h, r2⟩
theorem RRs.three {G H : Hp} {vs : List V} {d d' d'' : D} (h : RRs P G H vs [d, d', d'']) : ∃ v v' v'', vs = [v, v', v''] ∧ RR P G H v d ∧ RR P G H v' d' ∧ RR P G H v'' d'' := by
  cases h with
  | cons h r =>
    obtain ⟨_, _, rfl, r2, r'⟩ := r.two
    exact ⟨_, _, _, rfl, h, r2, r'⟩
/-! flat answers -/
theorem Res.int {U : Pr} {H : Hp} (i : Int) : Res P U H (.int i) (.int i, false) H := .old (.int i)
theorem Res.bl {U : Pr} {H : Hp} (b : Bool) : Res P U H (.bl b) (.bl b, false) H := .old (.bl b)
theorem Res.str {U : Pr} {H : Hp} (b : Str) : Res P U H (.str b) (.str b, false) H := .old (.str b)
theorem Res.non {U : Pr} {H : Hp} : Res P U H .non (.non, false) H := .old .non
end VS

/-! VOps: the operations on values, over the layer's rules. -/
namespace VS
open PySem PySem.Spec PyProof.Rows L2
variable {P : Pg} {C : CT} {X : Cx}

def opR (P : Pg) (p : List D → Option R) : R2 := fun x y H Q => primR P p [x, y] H Q
theorem RRs.of1 {G H : Hp} {v : V} {ds : List D} (h : RRs P G H [v] ds) : ∃ d, ds = [d] ∧ RR P G H v d := by
  cases h with
  | cons h r => cases r; exact ⟨_, rfl, h⟩
theorem RRs.of2 {G H : Hp} {v w : V} {ds : List D} (h : RRs P G H [v, w] ds) : ∃ d d', ds = [d, d'] ∧ RR P G H v d ∧ RR P G H w d' := by
  cases h with
  | cons h r => obtain ⟨_, rfl, r2⟩ := r.of1; exact ⟨_, _, rfl, h, r2⟩
theorem RRs.of3 {G H : Hp} {v w x : V} {ds : List D} (h : RRs P G H [v, w, x] ds) : ∃ d d' d'', ds = [d, d', d''] ∧ RR P G H v d ∧ RR P G H w d' ∧ RR P G H x d'' := by
  cases h with
  | cons h r => obtain ⟨_, _, rfl, r2, r3⟩ := r.of2; exact ⟨_, _, _, rfl, h, r2, r3⟩

theorem add_any : OpR X (binaryOp .Add) (opR P pAdd) := by
  intro pins s σ H x y v u Q I rx ry ⟨U, ds, r, al, rr, hp, q⟩
  obtain ⟨d1, d2, rfl, h1, h2⟩ := rr.of2
  unfold pAdd at hp
  split at hp
  · rename_i i j e
    injection e with e1 e2; injection e2 with e2 _; subst e1 e2
    cases h1.int; cases h2.int; cases hp
    exact op_add pins s σ H _ _ _ _ Q I rx ry ⟨i, j, rfl, rfl, q _ _ (.int _)⟩
  · rename_i i j e
    injection e with e1 e2; injection e2 with e2 _; subst e1 e2
    cases h1.str; cases h2.str
    split at hp
    · rename_i hl
      cases hp
      exact op_add_str pins s σ H _ _ _ _ Q I rx ry ⟨i, j, rfl, rfl, hl, q _ _ (.str _)⟩
    · cases hp
  · rename_i i j e
    injection e with e1 e2; injection e2 with e2 _; subst e1 e2
    obtain ⟨a, vs, rfl, ha, ra, la⟩ := h1.lst
    obtain ⟨b, ws, rfl, hb, rb, lb⟩ := h2.lst
    split at hp
    · rename_i hl
      cases hp
      have l1 := ra.length
      have l2 := rb.length
      have hl' : i.length + j.length ≤ 16777216 := hl
      exact op_cat pins s σ H _ _ _ _ Q I rx ry ⟨a, b, vs, ws, rfl, rfl, ha, hb, by show _ ≤ 16777216; omega, fun p np => q _ _ (.newLst (ra.append rb) np (by rw [List.length_append]; show _ ≤ 16777216; omega))⟩
    · cases hp
  · rename_i i j e
    injection e with e1 e2; injection e2 with e2 _; subst e1 e2
    obtain ⟨a, vs, rfl, ha, ra, la⟩ := h1.tup
    obtain ⟨b, ws, rfl, hb, rb, lb⟩ := h2.tup
    split at hp
    · rename_i hl
      obtain ⟨hl, hi, hj⟩ := hl
      cases hp
      have hl' : i.length + j.length ≤ 16777216 := hl
      have l1 := ra.length
      have l2 := rb.length
      refine op_catT pins s σ H _ _ _ _ Q I rx ry ⟨a, b, vs, ws, rfl, rfl, .of ha, .of hb, fun z => ?_, ?_, fun z => ?_, fun _ p np => ?_⟩
      · subst z; exact hi (List.eq_nil_of_length_eq_zero l1.symm)
      · show _ ≤ 16777216; omega
      · subst z; exact (hj (List.eq_nil_of_length_eq_zero l2.symm)).elim
      · exact q _ _ (.newTup (ra.append rb) np (fun z => al p z np) (by rw [List.length_append]; show _ ≤ 16777216; omega))
    · cases hp
  · cases hp

/-- ints, under a condition -/
theorem int2 {f : Value → Value → Sem Value} {p : List D → Option R} {Cn : Int → Int → Prop} {g : Int → Int → V} {g' : Int → Int → D} (ho : OpR X f (rI Cn g)) (hg : ∀ i j G, RepF P G (g i j) (g' i j))
    (hp : ∀ d d' r, p [d, d'] = some r → ∃ i j, d = .int i ∧ d' = .int j ∧ Cn i j ∧ r = (g' i j, false)) : OpR X f (opR P p) := by
  intro pins s σ H x y v u Q I rx ry ⟨U, ds, r, al, rr, h, q⟩
  obtain ⟨d1, d2, rfl, h1, h2⟩ := rr.of2
  obtain ⟨i, j, rfl, rfl, c, rfl⟩ := hp d1 d2 r h
  cases h1.int; cases h2.int
  exact ho pins s σ H _ _ _ _ Q I rx ry ⟨i, j, rfl, rfl, c, q _ _ (.old (hg i j _))⟩
theorem int2' {f : Value → Value → Sem Value} {p : List D → Option R} {g : Int → Int → V} {g' : Int → Int → D} (ho : OpR X f (rI0 g)) (hg : ∀ i j G, RepF P G (g i j) (g' i j))
    (hp : ∀ d d' r, p [d, d'] = some r → ∃ i j, d = .int i ∧ d' = .int j ∧ r = (g' i j, false)) : OpR X f (opR P p) :=
  int2 (Cn := fun _ _ => True) (fun pins s σ H x y v u Q I rx ry ⟨i, j, e1, e2, _, q⟩ => ho pins s σ H x y v u Q I rx ry ⟨i, j, e1, e2, q⟩) hg fun d d' r h => by
    obtain ⟨i, j, e1, e2, e3⟩ := hp d d' r h
    exact ⟨i, j, e1, e2, trivial, e3⟩
theorem sub_any : OpR X (binaryOp .Sub) (opR P pSub) := int2' op_sub (fun _ _ _ => .int _) fun d d' r h => by
  unfold pSub at h
  split at h
  · rename_i i j e; injection e with e1 e2; injection e2 with e2 _; subst e1 e2; cases h; exact ⟨i, j, rfl, rfl, rfl⟩
  · cases h
theorem fdiv_any : OpR X (binaryOp .FloorDiv) (opR P pFdiv) := int2 op_fdivN (fun _ _ _ => .int _) fun d d' r h => by
  unfold pFdiv at h
  split at h
  · rename_i i j e; injection e with e1 e2; injection e2 with e2 _; subst e1 e2
    split at h
    · rename_i c; cases h; exact ⟨i, j, rfl, rfl, c, rfl⟩
    · cases h
  · cases h
theorem mod_any : OpR X (binaryOp .Mod) (opR P pMod) := int2 op_modN (fun _ _ _ => .int _) fun d d' r h => by
  unfold pMod at h
  split at h
  · rename_i i j e; injection e with e1 e2; injection e2 with e2 _; subst e1 e2
    split at h
    · rename_i c; cases h; exact ⟨i, j, rfl, rfl, c, rfl⟩
    · cases h
  · cases h
theorem pow_any : OpR X (binaryOp .Pow) (opR P pPow) := int2 op_pow (fun _ _ _ => .int _) fun d d' r h => by
  unfold pPow at h
  split at h
  · rename_i i j e; injection e with e1 e2; injection e2 with e2 _; subst e1 e2
    split at h
    · rename_i c; cases h; exact ⟨i, j, rfl, rfl, c, rfl⟩
    · cases h
  · cases h
theorem shl_any : OpR X (binaryOp .LShift) (opR P pShl) := int2 op_shl (fun _ _ _ => .int _) fun d d' r h => by
  unfold pShl at h
  split at h
  · rename_i i j e; injection e with e1 e2; injection e2 with e2 _; subst e1 e2
    split at h
    · rename_i c; cases h; exact ⟨i, j, rfl, rfl, c, rfl⟩
    · cases h
  · cases h
theorem shr_any : OpR X (binaryOp .RShift) (opR P pShr) := int2 op_shr (fun _ _ _ => .int _) fun d d' r h => by
  unfold pShr at h
  split at h
  · rename_i i j e; injection e with e1 e2; injection e2 with e2 _; subst e1 e2
    split at h
    · rename_i c; cases h; exact ⟨i, j, rfl, rfl, c, rfl⟩
    · cases h
  · cases h
theorem and_any : OpR X (binaryOp .BitAnd) (opR P pAnd) := int2' op_and (fun _ _ _ => .int _) fun d d' r h => by
  unfold pAnd at h
  split at h
  · rename_i i j e; injection e with e1 e2; injection e2 with e2 _; subst e1 e2; cases h; exact ⟨i, j, rfl, rfl, rfl⟩
  · cases h
theorem or_any : OpR X (binaryOp .BitOr) (opR P pOr) := int2' op_or (fun _ _ _ => .int _) fun d d' r h => by
  unfold pOr at h
  split at h
  · rename_i i j e; injection e with e1 e2; injection e2 with e2 _; subst e1 e2; cases h; exact ⟨i, j, rfl, rfl, rfl⟩
  · cases h
theorem lt_any : OpR X (compareOp .Lt) (opR P pLt) := int2' op_lt (fun _ _ _ => .bl _) fun d d' r h => by
  unfold pLt at h
  split at h
  · rename_i i j e; injection e with e1 e2; injection e2 with e2 _; subst e1 e2; cases h; exact ⟨i, j, rfl, rfl, rfl⟩
  · cases h
theorem le_any : OpR X (compareOp .LtE) (opR P pLe) := int2' op_le (fun _ _ _ => .bl _) fun d d' r h => by
  unfold pLe at h
  split at h
  · rename_i i j e; injection e with e1 e2; injection e2 with e2 _; subst e1 e2; cases h; exact ⟨i, j, rfl, rfl, rfl⟩
  · cases h
theorem gt_any : OpR X (compareOp .Gt) (opR P pGt) := int2' op_gt (fun _ _ _ => .bl _) fun d d' r h => by
  unfold pGt at h
  split at h
  · rename_i i j e; injection e with e1 e2; injection e2 with e2 _; subst e1 e2; cases h; exact ⟨i, j, rfl, rfl, rfl⟩
  · cases h
theorem ge_any : OpR X (compareOp .GtE) (opR P pGe) := int2' op_ge (fun _ _ _ => .bl _) fun d d' r h => by
  unfold pGe at h
  split at h
  · rename_i i j e; injection e with e1 e2; injection e2 with e2 _; subst e1 e2; cases h; exact ⟨i, j, rfl, rfl, rfl⟩
  · cases h
theorem smallI_ok {i : Int} (h : smallI i = true) : -(2 ^ 64) < i ∧ i < 2 ^ 64 := by
  unfold smallI at h
  rw [Bool.and_eq_true, decide_eq_true_eq, decide_eq_true_eq] at h
  exact h
theorem mul_any : OpR X (binaryOp .Mult) (opR P pMul) := by
  intro pins s σ H x y v u Q I rx ry ⟨U, ds, r, al, rr, hp, q⟩
  obtain ⟨d1, d2, rfl, h1, h2⟩ := rr.of2
  unfold pMul at hp
  split at hp
  · rename_i i j e
    injection e with e1 e2; injection e2 with e2 _; subst e1 e2
    cases h1.int; cases h2.int
    split at hp
    · rename_i hc
      cases hp
      refine op_mul pins s σ H _ _ _ _ Q I rx ry ⟨i, j, rfl, rfl, ?_, q _ _ (.int _)⟩
      rw [Bool.or_eq_true] at hc
      exact hc.elim (fun z => .inl (smallI_ok z)) fun z => .inr (smallI_ok z)
    · cases hp
  · rename_i a k e
    injection e with e1 e2; injection e2 with e2 _; subst e1 e2
    obtain ⟨l, xs, rfl, ha, ra, la⟩ := h1.lst
    cases h2.int
    split at hp
    · rename_i hc
      cases hp
      obtain ⟨hk0, hk1, hk2⟩ := hc
      have l1 := ra.length
      have h1' : -(2 ^ 63) ≤ k := by omega
      have h2' : k < 2 ^ 63 := by omega
      exact op_rep pins s σ H _ _ _ _ Q I rx ry ⟨l, k, xs, rfl, rfl, ha, h1', h2', by rw [l1]; exact hk2, fun p np => q _ _ (.newLst (ra.rep _) np (by rw [PyProof.Rows.lm_len_rep_flat, l1, Nat.mul_comm]; exact hk2))⟩
    · cases hp
  · cases hp
end VS

/-! VOps2: == and repr of data; subscripts, slices, len and other built-in functions. -/
namespace VS
open PySem PySem.Spec PyProof.Rows L2
variable {P : Pg} {C : CT} {X : Cx}

section
variable {pins : List (Addr × Obj)} {σ : L2.St} {H : Hp} {s : Shared} {U : Pr}
theorem keyD_py (k : Key) : toPy (keyD k) = some (match k with | .inl i => PyData.int i | .inr x => .str x) := by
  cases k with
  | inl i => rw [keyD, toPy]
  | inr x => rw [keyD, toPy]
mutual
theorem RepF.reads (I : Inv X pins σ H s) (hK : X.K = P.K) : ∀ (d : D) {v : V} {u : Value} {x : PyData}, RepF P (hide U H) v d → RelV v u → toPy d = some x → x.hasDict = false → ∃ as, Reads s.heap u x as
  | .non, _, _, _, h, r, e, _ => by cases h; cases r; rw [toPy] at e; cases e; exact ⟨_, .none⟩
  | .bl b, _, _, _, h, r, e, _ => by cases h; cases r; rw [toPy] at e; cases e; exact ⟨_, .bool b⟩
  | .int i, _, _, _, h, r, e, _ => by cases h; obtain ⟨t, rfl⟩ := r; rw [toPy] at e; cases e; exact ⟨_, .int i t⟩
  | .str z, _, _, _, h, r, e, _ => by cases h; obtain ⟨t, rfl⟩ := r; rw [toPy] at e; cases e; exact ⟨_, .str z t⟩
  | .lst ds, _, _, _, h, r, e, n => by
    cases h with
    | lst h _ hr =>
      cases r
      rw [toPy] at e
      cases q : toPys ds with
      | none => rw [q] at e; cases e
      | some xs =>
        rw [q] at e
        cases e
        obtain ⟨_, its, m, rv, ho⟩ := I.hok _ _ (hide_some h).2
        obtain ⟨as, ra⟩ := RepFs.readsAll I hK ds hr rv q (by simpa [PyData.hasDict] using n)
        exact ⟨_, .list ho rfl rfl (by simpa using ra)⟩
  | .tup ds, _, _, _, h, r, e, n => by
    cases h with
    | tup h _ hr =>
      cases r
      rw [toPy] at e
      cases q : toPys ds with
      | none => rw [q] at e; cases e
      | some xs =>
        rw [q] at e
        cases e
        obtain ⟨_, its, rv, o, ho, hc, m, hd⟩ := I.hok _ _ (hide_some h).2
        obtain ⟨as, ra⟩ := RepFs.readsAll I hK ds hr rv q (by simpa [PyData.hasDict] using n)
        exact ⟨_, .tuple ho hc hd (by simpa using ra)⟩
  | .dct kvs, _, _, _, h, r, e, n => by
    rw [toPy] at e
    cases q : toPyKv kvs with
    | none => rw [q] at e; cases e
    | some xs => rw [q] at e; cases e; simp [PyData.hasDict] at n
  | .ins _ _, _, _, _, _, _, e, _ => by rw [toPy] at e; cases e
  | .wk _, _, _, _, _, _, e, _ => by rw [toPy] at e; cases e
theorem RepFs.readsAll (I : Inv X pins σ H s) (hK : X.K = P.K) : ∀ (ds : List D) {vs : List V} {us : List Value} {xs : List PyData}, RepFs P (hide U H) vs ds → Vals vs us → toPys ds = some xs → PyData.hasDictAll xs = false → ∃ as, ReadsAll s.heap us xs as
  | [], _, _, _, h, r, e, _ => by cases h; cases r; rw [toPys] at e; cases e; exact ⟨_, .nil⟩
  | d :: ds, _, _, _, h, r, e, n => by
    cases h with
    | cons h1 h2 =>
      cases r with
      | cons r1 r2 =>
        rw [toPys] at e
        cases q1 : toPy d with
        | none => rw [q1] at e; cases e
        | some x =>
          cases q2 : toPys ds with
          | none => rw [q1, q2] at e; cases e
          | some xs =>
            rw [q1, q2] at e
            cases e
            rw [PyData.hasDictAll, Bool.or_eq_false_iff] at n
            obtain ⟨as, ra⟩ := RepF.reads I hK d h1 r1 q1 n.1
            obtain ⟨bs, rb⟩ := RepFs.readsAll I hK ds h2 r2 q2 n.2
            exact ⟨_, .cons ra rb⟩
end
theorem RR.reads (I : Inv X pins σ H s) (hK : X.K = P.K) {d : D} {v : V} {u : Value} {x : PyData} (h : RR P (hide U H) H v d) (r : RelV v u) (e : toPy d = some x) (n : x.hasDict = false) : ∃ as, Reads s.heap u x as := by
  rcases h with h | ⟨p, rfl, h⟩
  · exact h.reads I hK d r e n
  · cases h with
    | @lst vs ds h _ hr =>
      cases r
      rw [toPy] at e
      cases q : toPys ds with
      | none => rw [q] at e; cases e
      | some xs =>
        rw [q] at e
        cases e
        obtain ⟨_, its, m, rv, ho⟩ := I.hok _ _ h
        obtain ⟨as, ra⟩ := RepFs.readsAll I hK ds hr rv q (by simpa [PyData.hasDict] using n)
        exact ⟨_, .list ho rfl rfl (by simpa using ra)⟩
    | @dK kvs ds h _ hr =>
      rw [toPy] at e
      cases q : toPyKv ds with
      | none => rw [q] at e; cases e
      | some xs => rw [q] at e; cases e; simp [PyData.hasDict] at n
    | @dT kvs ds h _ hr =>
      rw [toPy] at e
      cases q : toPyKv ds with
      | none => rw [q] at e; cases e
      | some xs => rw [q] at e; cases e; simp [PyData.hasDict] at n
    | ins c h hr => rw [toPy] at e; cases e
end

mutual
theorem plain_noDict : ∀ x : PyData, x.plain = true → x.hasDict = false
  | .none, _ => by rw [PyData.hasDict]
  | .bool _, _ => by rw [PyData.hasDict]
  | .int _, _ => by rw [PyData.hasDict]
  | .str _, _ => by rw [PyData.hasDict]
  | .list xs, h => by rw [PyData.hasDict]; exact plains_noDict xs (by rw [PyData.plain] at h; exact h)
  | .tuple xs, h => by rw [PyData.hasDict]; exact plains_noDict xs (by rw [PyData.plain] at h; exact h)
  | .dict _, h => by rw [PyData.plain] at h; cases h
theorem plains_noDict : ∀ x : List PyData, PyData.plainAll x = true → PyData.hasDictAll x = false
  | [], _ => by rw [PyData.hasDictAll]
  | x :: xs, h => by
    rw [PyData.plainAll, Bool.and_eq_true] at h
    rw [PyData.hasDictAll, plain_noDict x h.1, plains_noDict xs h.2]; rfl
end
theorem eqD_inv {a b : D} {k : Bool} (h : eqD a b = some k) : ∃ x y, toPy a = some x ∧ toPy b = some y ∧ x.plain = true ∧ y.plain = true ∧ x.depth ≤ DEEP ∧ k = PyData.eqv x y := by
  unfold eqD at h
  split at h
  · rename_i x y e1 e2
    split at h
    · rename_i c
      rw [Bool.and_eq_true, Bool.and_eq_true, decide_eq_true_eq] at c
      cases h
      exact ⟨x, y, e1, e2, c.1.1, c.1.2, c.2, rfl⟩
    · cases h
  · cases h
theorem eq_any (hK : X.K = P.K) (hu : X.A.units + 200 < cLine) : OpR X (compareOp .Eq) (opR P pEq) := by
  intro pins s σ H x y v u Q I rx ry ⟨U, ds, r, al, rr, hp, q⟩
  obtain ⟨d1, d2, rfl, h1, h2⟩ := rr.of2
  unfold pEq at hp
  cases e : eqD d1 d2 with
  | none => simp only [e] at hp; cases hp
  | some k =>
    simp only [e] at hp
    cases hp
    obtain ⟨x', y', e1, e2, p1, p2, hd, rfl⟩ := eqD_inv e
    obtain ⟨as, ra⟩ := h1.reads I hK rx e1 (plain_noDict _ p1)
    obtain ⟨bs, rb⟩ := h2.reads I hK ry e2 (plain_noDict _ p2)
    exact SeqAt.eq_plain ra rb p1 p2 (by have : DEEP = 100 := rfl; omega) ⟨.bl _, H, I, rfl, q _ _ (.bl _)⟩
theorem ne_any (hK : X.K = P.K) (hu : X.A.units + 200 < cLine) : OpR X (compareOp .NotEq) (opR P pNe) := by
  intro pins s σ H x y v u Q I rx ry ⟨U, ds, r, al, rr, hp, q⟩
  obtain ⟨d1, d2, rfl, h1, h2⟩ := rr.of2
  unfold pNe at hp
  cases e : eqD d1 d2 with
  | none => simp only [e] at hp; cases hp
  | some k =>
    simp only [e] at hp
    cases hp
    obtain ⟨x', y', e1, e2, p1, p2, hd, rfl⟩ := eqD_inv e
    obtain ⟨as, ra⟩ := h1.reads I hK rx e1 (plain_noDict _ p1)
    obtain ⟨bs, rb⟩ := h2.reads I hK ry e2 (plain_noDict _ p2)
    exact SeqAt.ne_plain ra rb p1 p2 (by have : DEEP = 100 := rfl; omega) ⟨.bl _, H, I, rfl, q _ _ (.bl _)⟩

/-! built-in functions -/
abbrev callR (X : Cx) (P : Pg) (f : Value) (p : List D → Option R) : Prop := CallR X f (primR P p)
theorem vals1' {x : V} {us : List Value} (r : Vals [x] us) : ∃ u, us = [u] ∧ RelV x u := by
  cases r with
  | cons h t => cases t; exact ⟨_, rfl, h⟩
theorem RRs.inv1 {G H : Hp} {vs : List V} {d : D} (h : RRs P G H vs [d]) : ∃ v, vs = [v] ∧ RR P G H v d := h.one
theorem repr_call (hK : X.K = P.K) (hg : X.A.guards = some []) (hu : X.A.units + 200 < cLine) : callR X P (.builtin "repr") pRepr := by
  intro pins s σ H xs us Q I r ⟨U, ds, res, al, rr, hp, q⟩
  unfold pRepr at hp
  split at hp
  · rename_i a
    obtain ⟨v, rfl, h⟩ := rr.one
    obtain ⟨u, rfl, rx⟩ := vals1' r
    split at hp
    · rename_i x e
      split at hp
      · rename_i c
        cases hp
        unfold reprOk at c
        rw [Bool.and_eq_true, Bool.and_eq_true, Bool.and_eq_true, decide_eq_true_eq, decide_eq_true_eq, Bool.not_eq_true'] at c
        obtain ⟨⟨⟨hd, c1⟩, c2⟩, c3⟩ := c
        have hz : x.shown.length ≤ sizeLine := c3
        have fin : ∀ (h' : Heap) (t : Tok) (tk : Nat), (∀ b o, s.heap.get? b = some o → h'.get? b = some o) → EP X pins σ Q (.str x.shown t) { s with heap := h', toks := tk } := fun h' t tk k =>
          ⟨.str x.shown, H, I.kept k, ⟨_, rfl⟩, q _ _ (.str _)⟩
        obtain ⟨as, ra⟩ := h.reads I hK rx e hd
        have hD : DEEP = 100 := rfl
        cases ra with
        | none => rw [PyData.shown] at fin; exact PySem.P.repr_of_none (fin _ _ _ fun _ _ z => z)
        | bool b => rw [PyData.shown] at fin; exact PySem.P.repr_of_bool (fin _ _ _ fun _ _ z => z)
        | int i t =>
          rw [PyData.shown] at fin
          rw [PyData.showable, decide_eq_true_eq] at c1
          exact PySem.P.repr_of_int c1 (fin _ _ _ fun _ _ z => z)
        | str z t =>
          rw [PyData.shown] at fin hz
          exact PySem.P.repr_of_str (fin _ _ _ fun _ _ z => z) hz
        | list k1 k2 k3 k4 => exact repr_of_reads' (.list k1 k2 k3 k4) c1 (fun z => by rw [hd] at z; cases z) hg (by omega) (fun _ _ z => z) (fun h' t tk k => fin h' t tk k) hz
        | tuple k1 k2 k3 k4 => exact repr_of_reads' (.tuple k1 k2 k3 k4) c1 (fun z => by rw [hd] at z; cases z) hg (by omega) (fun _ _ z => z) (fun h' t tk k => fin h' t tk k) hz
        | dict k1 k2 k3 k4 k5 => rw [PyData.hasDict] at hd; cases hd
      · cases hp
    · cases hp
  · cases hp
end VS

/-! VEnv: environments changed. -/
namespace VS
open PySem PySem.Spec PyProof.Rows L2
variable {P : Pg} {C : CT}

theorem get_set_self {α : Type} {l : List α} {i : Nat} {x y : α} (h : l[i]? = some x) : (l.set i y)[i]? = some y :=
  List.getElem?_set_self (List.getElem?_eq_some_iff.mp h).1
theorem get_set_ne {α : Type} {l : List α} {i j : Nat} {y : α} (h : i ≠ j) : (l.set i y)[j]? = l[j]? := List.getElem?_set_ne h
/-- slots that own nothing -/
def flatS (s : Sl) : Prop := ∀ d p, s ≠ Sl.val d true p
theorem own_set {e : VE} {σ : St} {i j : Nat} {s s0 : Sl} {a : Addr} (h0 : e[i]? = some s0) : Own (e.set i s) σ j a ↔ (j = i ∧ (∃ d p, s = .val d true p) ∧ σ[i]? = some (some (.ref a))) ∨ (j ≠ i ∧ Own e σ j a) := by
  by_cases h : j = i
  · subst h
    constructor
    · rintro ⟨d, p, h1, h2⟩
      rw [get_set_self h0] at h1
      exact .inl ⟨rfl, ⟨d, p, Option.some.inj h1⟩, h2⟩
    · rintro (⟨_, ⟨d, p, rfl⟩, h2⟩ | ⟨n, _⟩)
      · exact ⟨d, p, get_set_self h0, h2⟩
      · exact (n rfl).elim
  · constructor
    · rintro ⟨d, p, h1, h2⟩
      rw [get_set_ne (Ne.symm h)] at h1
      exact .inr ⟨h, d, p, h1, h2⟩
    · rintro (⟨z, _⟩ | ⟨_, d, p, h1, h2⟩)
      · exact (h z).elim
      · exact ⟨d, p, by rw [get_set_ne (Ne.symm h)]; exact h1, h2⟩
theorem own_set_flat {e : VE} {σ : St} {i j : Nat} {s s0 : Sl} {a : Addr} (h0 : e[i]? = some s0) (f : flatS s) (h : Own (e.set i s) σ j a) : j ≠ i ∧ Own e σ j a := by
  rcases (own_set h0).mp h with ⟨_, ⟨d, p, z⟩, _⟩ | h
  · exact (f d p z).elim
  · exact h
theorem own_store {e : VE} {σ : St} {i j : Nat} {v : V} {s s0 : Sl} {a : Addr} (h0 : e[i]? = some s0) (hl : e.length = σ.length) : Own (e.set i s) (σ.set i (some v)) j a ↔ (j = i ∧ (∃ d p, s = .val d true p) ∧ v = .ref a) ∨ (j ≠ i ∧ Own e σ j a) := by
  have hi : i < σ.length := by rw [← hl]; exact (List.getElem?_eq_some_iff.mp h0).1
  by_cases h : j = i
  · subst h
    constructor
    · rintro ⟨d, p, h1, h2⟩
      rw [get_set_self h0] at h1
      rw [List.getElem?_set_self hi] at h2
      exact .inl ⟨rfl, ⟨d, p, Option.some.inj h1⟩, Option.some.inj (Option.some.inj h2)⟩
    · rintro (⟨_, ⟨d, p, rfl⟩, rfl⟩ | ⟨n, _⟩)
      · exact ⟨d, p, get_set_self h0, List.getElem?_set_self hi⟩
      · exact (n rfl).elim
  · constructor
    · rintro ⟨d, p, h1, h2⟩
      rw [get_set_ne (Ne.symm h)] at h1 h2
      exact .inr ⟨h, d, p, h1, h2⟩
    · rintro (⟨z, _⟩ | ⟨_, d, p, h1, h2⟩)
      · exact (h z).elim
      · exact ⟨d, p, by rw [get_set_ne (Ne.symm h)]; exact h1, by rw [get_set_ne (Ne.symm h)]; exact h2⟩

theorem RV.here {G H : Hp} {v : V} {d : D} (h : RV P G H v (d, true)) : ∃ p, v = .ref p ∧ RepO P G H p d := h

/-- a slot frozen, or freed, or its data seen otherwise: it owns nothing any more -/
theorem EnvOk.flat {F : Pr} {e : VE} {σ : St} {H : Hp} (E : EnvOk P F e σ H) {i : Nat} {s0 s : Sl} (h0 : e[i]? = some s0) (f : flatS s)
    (hs : ∀ (G : Hp), Grow (hide (Us F e σ) H) G → (∀ d o p, s0 = .val d o p → ∀ v, σ[i]? = some (some v) → RepF P G v d) → ∀ d o p, s = .val d o p → ∃ v, σ[i]? = some (some v) ∧ RepF P G v d) :
    EnvOk P F (e.set i s) σ H ∧ Grow (hide (Us F e σ) H) (hide (Us F (e.set i s) σ) H) := by
  have gr : Grow (hide (Us F e σ) H) (hide (Us F (e.set i s) σ) H) := grow_hide (.refl _) fun b z _ => z.elim .inl fun ⟨j, z⟩ => .inr ⟨j, (own_set_flat h0 f z).2⟩
  refine ⟨⟨by rw [List.length_set]; exact E.len, fun j d o p h => ?_, fun j k a hj hk => E.inj j k a (own_set_flat h0 f hj).2 (own_set_flat h0 f hk).2, fun j a hj => E.dj j a (own_set_flat h0 f hj).2, E.al⟩, gr⟩
  by_cases hj : j = i
  · subst hj
    rw [get_set_self h0] at h
    have h := Option.some.inj h
    have ho : o = false := by
      cases o with
      | false => rfl
      | true => exact (f d p h).elim
    subst ho
    refine hs _ gr (fun d0 o0 p0 z v hv => ?_) d false p h
    subst z
    obtain ⟨w, h1, h2⟩ := E.slot j d0 o0 p0 h0
    rw [hv] at h1
    cases h1
    cases o0 with
    | false => exact RepF.grow gr h2
    | true =>
      obtain ⟨a, rfl, h2⟩ := h2
      refine (h2.grow (H' := H) gr rfl).frz ?_
      refine hide_out fun z => ?_
      rcases z with z | ⟨k, z⟩
      · exact E.dj j a ⟨d0, p0, h0, hv⟩ z
      · obtain ⟨n, z⟩ := own_set_flat h0 f z
        exact n (E.inj k j a z ⟨d0, p0, h0, hv⟩)
  · rw [get_set_ne (Ne.symm hj)] at h
    obtain ⟨v, h1, h2⟩ := E.slot j d o p h
    exact ⟨v, h1, h2.grow gr fun _ _ => rfl⟩
/-- a value is stored -/
theorem EnvOk.store {F : Pr} {e : VE} {σ : St} {H : Hp} {v : V} {r : R} (E : EnvOk P (UsR F [v] [r]) e σ H) (rv : RV P (hide (Us (UsR F [v] [r]) e σ) H) H v r) (nf : ∀ a, OwnV v r a → ¬ F a) {i : Nat} {s0 : Sl} (h0 : e[i]? = some s0) :
    EnvOk P F (e.set i (.val r.1 r.2 false)) (σ.set i (some v)) H ∧ Grow (hide (Us (UsR F [v] [r]) e σ) H) (hide (Us F (e.set i (.val r.1 r.2 false)) (σ.set i (some v))) H) := by
  have os : ∀ {j a}, Own (e.set i (.val r.1 r.2 false)) (σ.set i (some v)) j a → (j = i ∧ OwnV v r a) ∨ (j ≠ i ∧ Own e σ j a) := fun {j a} z => by
    rcases (own_store h0 E.len).mp z with ⟨z1, ⟨d, p, z2⟩, z3⟩ | z
    · injection z2 with z4 z5 z6
      exact .inl ⟨z1, z5, z3⟩
    · exact .inr z
  have gr : Grow (hide (Us (UsR F [v] [r]) e σ) H) (hide (Us F (e.set i (.val r.1 r.2 false)) (σ.set i (some v))) H) := grow_hide (.refl _) fun b z _ => by
    rcases z with z | ⟨j, z⟩
    · exact .inl (usR_one.mpr (.inl z))
    · rcases os z with ⟨_, z⟩ | ⟨_, z⟩
      · exact .inl (usR_one.mpr (.inr z))
      · exact .inr ⟨j, z⟩
  refine ⟨⟨by rw [List.length_set, List.length_set]; exact E.len, fun j d o p h => ?_, fun j k a hj hk => ?_, fun j a hj z => ?_, fun a z => E.al a (usR_one.mpr (.inl z))⟩, gr⟩
  · by_cases hj : j = i
    · subst hj
      rw [get_set_self h0] at h
      injection h with h
      injection h with e1 e2 e3
      have hi : j < σ.length := by rw [← E.len]; exact (List.getElem?_eq_some_iff.mp h0).1
      obtain ⟨d', o'⟩ := r
      cases e1; cases e2
      exact ⟨v, List.getElem?_set_self hi, rv.grow gr fun _ _ => rfl⟩
    · rw [get_set_ne (Ne.symm hj)] at h
      obtain ⟨w, h1, h2⟩ := E.slot j d o p h
      exact ⟨w, by rw [get_set_ne (Ne.symm hj)]; exact h1, h2.grow gr fun _ _ => rfl⟩
  · rcases os hj with ⟨e1, z1⟩ | ⟨n1, z1⟩ <;> rcases os hk with ⟨e2, z2⟩ | ⟨n2, z2⟩
    · rw [e1, e2]
    · exact (E.dj k a z2 (usR_one.mpr (.inr z1))).elim
    · exact (E.dj j a z1 (usR_one.mpr (.inr z2))).elim
    · exact E.inj j k a z1 z2
  · rcases os hj with ⟨_, z1⟩ | ⟨_, z1⟩
    · exact nf a z1 z
    · exact E.dj j a z1 (usR_one.mpr (.inl z))
/-- a slot is lent -/
def Plus (F : Pr) (a : Addr) : Pr := fun x => F x ∨ x = a
theorem EnvOk.lend {F : Pr} {e : VE} {σ : St} {H : Hp} (E : EnvOk P F e σ H) {i : Nat} {d : D} {p : Bool} {a : Addr} (h0 : e[i]? = some (.val d true p)) (hv : σ[i]? = some (some (.ref a))) :
    EnvOk P (Plus F a) (e.set i .lent) σ H ∧ Us (Plus F a) (e.set i .lent) σ = Us F e σ := by
  have f : flatS .lent := fun _ _ z => by cases z
  have ow : Own e σ i a := ⟨d, p, h0, hv⟩
  have us : Us (Plus F a) (e.set i .lent) σ = Us F e σ := funext fun x => propext (by
    constructor
    · rintro ((z | rfl) | ⟨j, z⟩)
      · exact .inl z
      · exact .inr ⟨i, ow⟩
      · exact .inr ⟨j, (own_set_flat h0 f z).2⟩
    · rintro (z | ⟨j, z⟩)
      · exact .inl (.inl z)
      · by_cases hj : j = i
        · subst hj
          obtain ⟨_, _, _, z⟩ := z
          rw [hv] at z
          cases z
          exact .inl (.inr rfl)
        · exact .inr ⟨j, (own_set h0).mpr (.inr ⟨hj, z⟩)⟩)
  refine ⟨⟨by rw [List.length_set]; exact E.len, fun j d' o p' h => ?_, fun j k x hj hk => E.inj j k x (own_set_flat h0 f hj).2 (own_set_flat h0 f hk).2, fun j x hj z => ?_, fun x z => ?_⟩, us⟩
  · by_cases hj : j = i
    · subst hj
      rw [get_set_self h0] at h
      cases h
    · rw [get_set_ne (Ne.symm hj)] at h
      rw [us]
      exact E.slot j d' o p' h
  · obtain ⟨n, hj⟩ := own_set_flat h0 f hj
    rcases z with z | rfl
    · exact E.dj j x hj z
    · exact n (E.inj j i x hj ow)
  · rcases z with z | rfl
    · exact E.al x z
    · exact E.there (.inr ⟨i, ow⟩)
/-- a lent slot comes back -/
theorem EnvOk.back {F : Pr} {e : VE} {σ : St} {H : Hp} {a : Addr} (E : EnvOk P (Plus F a) e σ H) (na : ¬ F a) {i : Nat} {d : D} {p : Bool} (h0 : e[i]? = some .lent) (hv : σ[i]? = some (some (.ref a))) (ho : RepO P (hide (Us (Plus F a) e σ) H) H a d) :
    EnvOk P F (e.set i (.val d true p)) σ H ∧ Us F (e.set i (.val d true p)) σ = Us (Plus F a) e σ := by
  have os : ∀ {j x}, Own (e.set i (.val d true p)) σ j x → (j = i ∧ x = a) ∨ (j ≠ i ∧ Own e σ j x) := fun {j x} z => by
    rcases (own_set h0).mp z with ⟨z1, _, z3⟩ | z
    · rw [hv] at z3
      cases z3
      exact .inl ⟨z1, rfl⟩
    · exact .inr z
  have us : Us F (e.set i (.val d true p)) σ = Us (Plus F a) e σ := funext fun x => propext (by
    constructor
    · rintro (z | ⟨j, z⟩)
      · exact .inl (.inl z)
      · rcases os z with ⟨_, rfl⟩ | ⟨_, z⟩
        · exact .inl (.inr rfl)
        · exact .inr ⟨j, z⟩
    · rintro ((z | rfl) | ⟨j, z⟩)
      · exact .inl z
      · exact .inr ⟨i, (own_set h0).mpr (.inl ⟨rfl, ⟨d, p, rfl⟩, hv⟩)⟩
      · refine .inr ⟨j, (own_set h0).mpr (.inr ⟨fun hj => ?_, z⟩)⟩
        subst hj
        obtain ⟨_, _, z, _⟩ := z
        rw [h0] at z
        cases z)
  refine ⟨⟨by rw [List.length_set]; exact E.len, fun j d' o p' h => ?_, fun j k x hj hk => ?_, fun j x hj z => ?_, fun x z => E.al x (.inl z)⟩, us⟩
  · by_cases hj : j = i
    · subst hj
      rw [get_set_self h0] at h
      cases h
      rw [us]
      exact ⟨.ref a, hv, a, rfl, ho⟩
    · rw [get_set_ne (Ne.symm hj)] at h
      rw [us]
      exact E.slot j d' o p' h
  · rcases os hj with ⟨e1, z1⟩ | ⟨n1, z1⟩ <;> rcases os hk with ⟨e2, z2⟩ | ⟨n2, z2⟩
    · rw [e1, e2]
    · subst z1; exact (E.dj k x z2 (.inr rfl)).elim
    · subst z2; exact (E.dj j x z1 (.inr rfl)).elim
    · exact E.inj j k x z1 z2
  · rcases os hj with ⟨_, rfl⟩ | ⟨_, z1⟩
    · exact na z
    · exact E.dj j x z1 (.inl z)
/-- an owned object is changed -/
theorem EnvOk.change {F : Pr} {e : VE} {σ : St} {H : Hp} (E : EnvOk P F e σ H) {i : Nat} {d d' : D} {p : Bool} {a : Addr} {o : HO} (h0 : e[i]? = some (.val d true p)) (hv : σ[i]? = some (some (.ref a)))
    (ho : RepO P (hide (Us F e σ) H) (upd H a o) a d') : EnvOk P F (e.set i (.val d' true p)) σ (upd H a o) ∧ Grow (hide (Us F e σ) H) (hide (Us F (e.set i (.val d' true p)) σ) (upd H a o)) ∧ ∀ x, F x → upd H a o x = H x := by
  have ow : Own e σ i a := ⟨d, p, h0, hv⟩
  have os : ∀ {j x}, Own (e.set i (.val d' true p)) σ j x → Own e σ j x := fun {j x} z => by
    rcases (own_set h0).mp z with ⟨z1, _, z3⟩ | z
    · subst z1; exact ⟨d, p, h0, z3⟩
    · exact z.2
  have nx : ∀ {b : Addr}, ¬ Us F e σ b → b ≠ a := fun {b} n z => n (by subst z; exact .inr ⟨i, ow⟩)
  have gr : Grow (hide (Us F e σ) H) (hide (Us F (e.set i (.val d' true p)) σ) (upd H a o)) := grow_hideR
    (fun b u n r => by
      rcases r with r | ⟨q, r⟩
      · exact .inl (by rw [upd_ne (nx n)]; exact r)
      · exact .inr ⟨q, by rw [upd_ne (nx n)]; exact r⟩)
    (fun b u n _ r => by rw [upd_ne (nx n)]; exact r) fun b z _ => z.elim .inl fun ⟨j, z⟩ => .inr ⟨j, os z⟩
  have fr : ∀ x, F x → upd H a o x = H x := fun x z => upd_ne fun q => by subst q; exact E.dj i x ow z
  refine ⟨⟨by rw [List.length_set]; exact E.len, fun j d1 o1 p1 h => ?_, fun j k x hj hk => E.inj j k x (os hj) (os hk), fun j x hj => E.dj j x (os hj), fun x z => by rw [fr x z]; exact E.al x z⟩, gr, fr⟩
  by_cases hj : j = i
  · subst hj
    rw [get_set_self h0] at h
    cases h
    exact ⟨.ref a, hv, a, rfl, ho.grow gr rfl⟩
  · rw [get_set_ne (Ne.symm hj)] at h
    obtain ⟨v, h1, h2⟩ := E.slot j d1 o1 p1 h
    refine ⟨v, h1, h2.grow gr fun x ox => upd_ne fun q => ?_⟩
    subst q
    obtain ⟨k1, k2⟩ := ox
    have k1 : o1 = true := k1
    subst k1
    exact hj (E.inj j i x ⟨d1, p1, h, by rw [h1, k2]⟩ ow)

/-! slots and Stay -/
theorem Stay.set {e : VE} {σ : St} {i : Nat} {s0 s : Sl} (h0 : e[i]? = some s0) (h : Fixed s0 = true → Fixed s = true ∧ isLent s = isLent s0) : Stay e σ (e.set i s) σ := by
  refine ⟨by rw [List.length_set], fun j t ht f => ⟨rfl, ?_⟩⟩
  by_cases hj : j = i
  · subst hj
    rw [h0] at ht
    cases ht
    exact ⟨s, get_set_self h0, (h f).1, (h f).2⟩
  · exact ⟨t, by rw [get_set_ne (Ne.symm hj)]; exact ht, f, rfl⟩
theorem Stay.store {e : VE} {σ : St} {i : Nat} {s0 s : Sl} {v : V} (h0 : e[i]? = some s0) (h : Fixed s0 = false) : Stay e σ (e.set i s) (σ.set i (some v)) := by
  refine ⟨by rw [List.length_set], fun j t ht f => ?_⟩
  have hj : j ≠ i := fun z => by subst z; rw [h0] at ht; cases ht; rw [h] at f; cases f
  exact ⟨by rw [get_set_ne (Ne.symm hj)], t, by rw [get_set_ne (Ne.symm hj)]; exact ht, f, rfl⟩

/-! results -/
theorem usR_noOwn {F : Pr} {v : V} {d : D} : UsR F [v] [(d, false)] = F := by
  have : UsR F [v] [(d, false)] = UsR F [] [] := usR_flat
  rw [this, usR_nil']
/-- results that own nothing, added -/
theorem Post.flatOf {F : Pr} {e e' : VE} {σ σ' : St} {H H' : Hp} (p : Post P F e σ H [] e' σ' [] [] H') {v : V} {d : D} (h : RepF P (hide (Us F e' σ') H') v d) : Post P F e σ H [none] e' σ' [v] [(d, false)] H' where
  env := by rw [usR_noOwn]; have := p.env; rw [usR_nil'] at this; exact this
  rv := by rw [usR_noOwn]; exact .ex h .nil
  inj := fun i j a z => by
    rcases ownVs_cons.mp z with ⟨_, z, _⟩ | ⟨_, _, z⟩
    · cases z
    · exact (ownVs_nil z).elim
  nf := fun k a z => by
    rcases ownVs_cons.mp z with ⟨_, z, _⟩ | ⟨_, _, z⟩
    · cases z
    · exact (ownVs_nil z).elim
  fr := p.fr
  gr := by rw [usR_noOwn]; have := p.gr; rw [us_nil] at this; exact this
  st := p.st
/-- results forgotten -/
theorem Post.drop {F : Pr} {e e' : VE} {σ σ' : St} {H H' : Hp} {ks : List (Option Nat)} {vs : List V} {rs : List R} (p : Post P F e σ H ks e' σ' vs rs H') : Post P F e σ H [] e' σ' [] [] H' := by
  have gr1 : Grow (hide (Us (UsR F vs rs) e' σ') H') (hide (Us F e' σ') H') := grow_hide (.refl _) fun b z _ => z.elim (fun z => .inl (.inl z)) .inr
  refine ⟨?_, .nil, fun i j a z => (ownVs_nil z).elim, fun k a z => (ownVs_nil z).elim, p.fr, ?_, p.st⟩
  · rw [usR_nil']
    exact ⟨p.env.len, fun i d o pn h => let ⟨v, h1, h2⟩ := p.env.slot i d o pn h; ⟨v, h1, h2.grow gr1 fun _ _ => rfl⟩, p.env.inj, fun i a h z => p.env.dj i a h (.inl z), fun a z => p.env.al a (.inl z)⟩
  · rw [us_nil]; exact p.gr.trans gr1
theorem Post.env0 {F : Pr} {e e' : VE} {σ σ' : St} {H H' : Hp} (p : Post P F e σ H [] e' σ' [] [] H') : EnvOk P F e' σ' H' := by have := p.env; rw [usR_nil'] at this; exact this
/-- one after another -/
theorem Post.seq {F : Pr} {e e1 e2 : VE} {σ σ1 σ2 : St} {H H1 H2 : Hp} {ks : List (Option Nat)} {vs : List V} {rs : List R} (a : Post P F e σ H [] e1 σ1 [] [] H1) (b : Post P F e1 σ1 H1 ks e2 σ2 vs rs H2) : Post P F e σ H ks e2 σ2 vs rs H2 where
  env := b.env
  rv := b.rv
  inj := b.inj
  nf := b.nf
  fr := fun x h => (b.fr x h).trans (a.fr x h)
  gr := by have := a.gr; rw [us_nil] at this; exact this.trans b.gr
  st := a.st.trans b.st
theorem Post.set0 {F : Pr} {e e' : VE} {σ σ' : St} {H H' : Hp} (E : EnvOk P F e' σ' H') (fr : ∀ x, F x → H' x = H x) (gr : Grow (hide (Us F e σ) H) (hide (Us F e' σ') H')) (st : Stay e σ e' σ') : Post P F e σ H [] e' σ' [] [] H' where
  env := by rw [usR_nil']; exact E
  rv := .nil
  inj := fun i j a h => (ownVs_nil h).elim
  nf := fun k a h => (ownVs_nil h).elim
  fr := fr
  gr := by rw [us_nil]; exact gr
  st := st
/-- a name read, frozen -/
theorem Post.var {F : Pr} {e : VE} {σ : St} {H : Hp} (E : EnvOk P F e σ H) {i : Nat} {d : D} {o p : Bool} (h0 : e[i]? = some (.val d o p)) {v : V} (hv : σ[i]? = some (some v)) : Post P F e σ H [none] (e.set i (.val d false p)) σ [v] [(d, false)] H := by
  have f : flatS (.val d false p) := fun _ _ z => by cases z
  obtain ⟨E', gr⟩ := E.flat h0 f fun G g k d1 o1 p1 z => by
    injection z with z1 z2 z3
    exact ⟨v, hv, by rw [← z1]; exact k d o p rfl v hv⟩
  have po : Post P F e σ H [] (e.set i (.val d false p)) σ [] [] H := .set0 E' (fun _ _ => rfl) gr (.set h0 fun z => ⟨z, rfl⟩)
  obtain ⟨w, h1, h2⟩ := E'.slot i d false p (get_set_self h0)
  rw [hv] at h1
  cases h1
  exact po.flatOf h2
/-- a result stored in a slot -/
theorem Post.store {F : Pr} {e e1 : VE} {σ σ1 : St} {H H1 : Hp} {v : V} {r : R} (a : Post P F e σ H [none] e1 σ1 [v] [r] H1) {i : Nat} {s0 : Sl} (h0 : e1[i]? = some s0) (hf : Fixed s0 = false) :
    Post P F e σ H [] (e1.set i (.val r.1 r.2 false)) (σ1.set i (some v)) [] [] H1 := by
  have rv : RV P (hide (Us (UsR F [v] [r]) e1 σ1) H1) H1 v r := by cases a.rv with | ex h _ => exact h
  obtain ⟨E', gr⟩ := a.env.store rv (fun x z => a.nf 0 x (ownVs_cons.mpr (.inl ⟨rfl, z⟩))) h0
  exact .set0 E' a.fr (a.gr.trans gr) (a.st.trans (.store h0 hf))
end VS

/-! VExpr: expressions and tests. -/
namespace VS
open PySem PySem.Spec PyProof.Rows L2
variable {P : Pg} {C : CT} {X : Cx}

theorem RVs.one {G H : Hp} {e : VE} {σ : L2.St} {v : V} {r : R} (h : RVs P G H e σ [none] [v] [r]) : RV P G H v r := by cases h with | ex h _ => exact h
theorem EnvOk.val {F : Pr} {e : VE} {σ : St} {H : Hp} (E : EnvOk P F e σ H) {i : Nat} {d : D} {o p : Bool} (h : e[i]? = some (.val d o p)) : ∃ v, σ[i]? = some (some v) ∧ RV P (hide (Us F e σ) H) H v (d, o) := E.slot i d o p h

/-! literals, names -/
theorem e_lit {ex : Expr} {v : V} {d : D} (h : PE X ex (tC v)) (r : ∀ G, RepF P G v d) : PE X ex (semE P C (vLit d)) := ⟨fun pins s σ H Q I ⟨F, e, e', res, E, h1, q⟩ => by
  cases h1
  exact h.run pins s σ H Q I (q v H ((Post.nil E).flatOf (r _)))⟩
theorem e_int {i : Int} {j pos} : PE X (.Constant (.int i) j pos) (semE P C (vLit (.int i))) := e_lit pe_int fun _ => .int i
theorem e_bl {b : Bool} {j pos} : PE X (.Constant (.bool b) j pos) (semE P C (vLit (.bl b))) := e_lit pe_bl fun _ => .bl b
theorem e_non {j pos} : PE X (.Constant .none j pos) (semE P C (vLit .non)) := e_lit pe_non fun _ => .non
theorem e_str {x : Str} {j pos} : PE X (.Constant (.str x) j pos) (semE P C (vLit (.str x))) := e_lit pe_str fun _ => .str x
theorem e_var {ex : Expr} {i : Nat} (h : PE X ex (tVar i)) : PE X ex (semE P C (vVar i)) := ⟨fun pins s σ H Q I ⟨F, e, e', res, E, h1, q⟩ => by
  unfold vVar at h1
  split at h1
  · rename_i d o p h2
    cases h1
    obtain ⟨v, hv, _⟩ := E.val h2
    exact h.run pins s σ H Q I ⟨v, hv, q v H (.var E h2 hv)⟩
  · cases h1⟩
/-- an argument: its expression, and that it is no star and no slice -/
structure ArOk (P : Pg) (C : CT) (X : Cx) (e : Expr) (a : AR) : Prop where
  pe : PE X e (semAR P C a)

/-! operations -/
theorem e_bin {op : Operator} {p : List D → Option R} {a b : Expr} {x y : AR} {pos : Pos} (ho : OpR X (binaryOp op) (opR P p)) (ha : PE X a (semAR P C x)) (hb : PE X b (semAR P C y)) : PE X (.BinOp a op b pos) (semE P C (vP p [x, y])) :=
  ⟨fun pins s σ H Q I h => (pe_op ho ha hb).run pins s σ H Q I (sem_prim h)⟩
theorem e_cmp {op : CmpOp} {p : List D → Option R} {a b : Expr} {x y : AR} {pos : Pos} (ho : OpR X (compareOp op) (opR P p)) (ha : PE X a (semAR P C x)) (hb : PE X b (semAR P C y)) (hm : behindInMarks op b = false) : PE X (.Compare a [op] [b] pos) (semE P C (vP p [x, y])) :=
  ⟨fun pins s σ H Q I h => (pe_cmpR ho ha hb hm).run pins s σ H Q I (sem_prim h)⟩
theorem e_un {op : UnaryOp} {p : List D → Option R} {a : Expr} {x : AR} {pos : Pos} (ho : UnR X (unaryOp op) (fun v H Q => primR P p [v] H Q)) (ha : PE X a (semAR P C x)) : PE X (.UnaryOp op a pos) (semE P C (vP p [x])) :=
  ⟨fun pins s σ H Q I h => (pe_un ho ha).run pins s σ H Q I (sem_prim h)⟩
theorem neg_any : UnR X (unaryOp .USub) (fun v H Q => primR P pNeg [v] H Q) := by
  intro pins s σ H x v Q I rx ⟨U, ds, r, al, rr, hp, q⟩
  obtain ⟨d, rfl, h⟩ := rr.of1
  unfold pNeg at hp
  split at hp
  · rename_i i e
    injection e with e _; subst e
    cases h.int; cases hp
    exact un_neg pins s σ H _ _ Q I rx ⟨i, rfl, q _ _ (.int _)⟩
  · cases hp
theorem isN_any : OpR X (compareOp .Is) (fun x y H Q => y = .non ∧ primR P pIsN [x] H Q) := by
  intro pins s σ H x y v u Q I rx ry ⟨hy, U, ds, r, al, rr, hp, q⟩
  obtain ⟨d, rfl, h⟩ := rr.of1
  refine op_isN pins s σ H _ _ _ _ Q I rx ry ⟨hy, ?_⟩
  unfold pIsN at hp
  split at hp
  · rename_i e
    injection e with e _; subst e
    cases h.non; cases hp
    rw [decide_eq_true rfl]
    exact q _ _ (.bl _)
  · rename_i d' hn e
    injection e with e _; subst e
    cases hp
    have : x ≠ .non := fun z => by
      subst z
      rcases h with h | ⟨p, z, _⟩
      · cases h; exact hn rfl
      · cases z
    rw [decide_eq_false this]
    exact q _ _ (.bl _)
  · cases hp
theorem notN_any : OpR X (compareOp .IsNot) (fun x y H Q => y = .non ∧ primR P pNotN [x] H Q) := by
  intro pins s σ H x y v u Q I rx ry ⟨hy, U, ds, r, al, rr, hp, q⟩
  obtain ⟨d, rfl, h⟩ := rr.of1
  refine op_notN pins s σ H _ _ _ _ Q I rx ry ⟨hy, ?_⟩
  unfold pNotN at hp
  split at hp
  · rename_i e
    injection e with e _; subst e
    cases h.non; cases hp
    rw [decide_eq_true rfl]
    exact q _ _ (.bl _)
  · rename_i d' hn e
    injection e with e _; subst e
    cases hp
    have : x ≠ .non := fun z => by
      subst z
      rcases h with h | ⟨p, z, _⟩
      · cases h; exact hn rfl
      · cases z
    rw [decide_eq_false this]
    exact q _ _ (.bl _)
  · cases hp
theorem e_isN {a : Expr} {x : AR} {j : Nat} {p1 pos : Pos} (ha : PE X a (semAR P C x)) : PE X (.Compare a [.Is] [.Constant .none j p1] pos) (semE P C (vP pIsN [x])) :=
  ⟨fun pins s σ H Q I h => (pe_cmpR isN_any ha pe_non rfl).run pins s σ H Q I (by
    have h := sem_prim h
    obtain z := x
    exact (show tCons _ _ σ H _ from h) |> fun z => by
      revert z
      cases x with
      | nm i => exact fun ⟨v, hv, z⟩ => ⟨v, hv, rfl, z⟩
      | ex f => exact fun ⟨F, e, e', r, E, h1, z⟩ => ⟨F, e, e', r, E, h1, fun v H' po => ⟨rfl, z v H' po⟩⟩)⟩
theorem e_notN {a : Expr} {x : AR} {j : Nat} {p1 pos : Pos} (ha : PE X a (semAR P C x)) : PE X (.Compare a [.IsNot] [.Constant .none j p1] pos) (semE P C (vP pNotN [x])) :=
  ⟨fun pins s σ H Q I h => (pe_cmpR notN_any ha pe_non rfl).run pins s σ H Q I (by
    have h := sem_prim h
    exact (show tCons _ _ σ H _ from h) |> fun z => by
      revert z
      cases x with
      | nm i => exact fun ⟨v, hv, z⟩ => ⟨v, hv, rfl, z⟩
      | ex f => exact fun ⟨F, e, e', r, E, h1, z⟩ => ⟨F, e, e', r, E, h1, fun v H' po => ⟨rfl, z v H' po⟩⟩)⟩

/-! displays -/
theorem semL_mono {σ : St} : ∀ {as : List AR} {H : Hp} {Q Q' : List V → Hp → Prop}, semL P C as σ H Q → (∀ vs H', Q vs H' → Q' vs H') → semL P C as σ H Q'
  | [], _, _, _, h, k => k _ _ h
  | .nm i :: r, _, _, _, ⟨v, hv, h⟩, k => ⟨v, hv, semL_mono h fun vs H' z => k _ _ z⟩
  | .ex f :: r, _, _, _, ⟨F, e, e', x, E, h1, h⟩, k => ⟨F, e, e', x, E, h1, fun v H' po => semL_mono (h v H' po) fun vs H' z => k _ _ z⟩
/-- the results of a display are frozen: they own nothing any more -/
theorem RVs.frz {F : Pr} {e : VE} {σ : St} {H : Hp} {ks : List (Option Nat)} {vs : List V} {rs : List R} (E : EnvOk P (UsR F vs rs) e σ H) (h : RVs P (hide (Us (UsR F vs rs) e σ) H) H e σ ks vs rs) (nf : ∀ k a, OwnVs vs rs k a → ¬ F a) (hk : ∀ k ∈ ks, k = none) :
    RepFs P (hide (Us F e σ) H) vs (rs.map (·.1)) := by
  have gr : Grow (hide (Us (UsR F vs rs) e σ) H) (hide (Us F e σ) H) := grow_hide (.refl _) fun b z _ => z.elim (fun z => .inl (.inl z)) .inr
  have see : ∀ k a, OwnVs vs rs k a → hide (Us F e σ) H a = H a := fun k a z => hide_out fun y => by
    rcases y with y | ⟨i, y⟩
    · exact nf k a z y
    · exact E.dj i a y (.inr ⟨k, z⟩)
  clear E nf
  generalize hide (Us (UsR F vs rs) e σ) H = G at h gr
  generalize hide (Us F e σ) H = G' at gr see
  induction h with
  | nil => exact .nil
  | @ex v r ks vs rs hv _ ih =>
    refine .cons ?_ (ih (fun k hk' => hk k (List.mem_cons_of_mem _ hk')) fun k a z => see (k + 1) a (ownVs_cons.mpr (.inr ⟨k, rfl, z⟩)))
    obtain ⟨d, o⟩ := r
    cases o with
    | false => exact RepF.grow gr hv
    | true =>
      obtain ⟨p, rfl, hv⟩ := hv
      exact (hv.grow (H' := H) gr rfl).frz (see 0 p (ownVs_cons.mpr (.inl ⟨rfl, rfl, rfl⟩)))
  | nm _ _ _ _ => exact nomatch hk _ List.mem_cons_self
theorem Post.frzs {F : Pr} {e e' : VE} {σ σ' : St} {H H' : Hp} {ks : List (Option Nat)} {vs : List V} {rs : List R} (p : Post P F e σ H ks e' σ' vs rs H') (hk : ∀ k ∈ ks, k = none) : RepFs P (hide (Us F e' σ') H') vs (rs.map (·.1)) := p.rv.frz p.env p.nf hk
theorem exs_true (fs : List EF) : ∀ k ∈ (fs.map AR.ex).map isEx, k = none := fun k hk => by
  rw [List.mem_map] at hk
  obtain ⟨a, ha, rfl⟩ := hk
  rw [List.mem_map] at ha
  obtain ⟨f, _, rfl⟩ := ha
  rfl
theorem sem_disp {p : List D → Option R} {fs : List EF} {σ : St} {H : Hp} {Q : VK} (h : semE P C (vP p (fs.map .ex)) σ H Q) :
    semL P C (fs.map .ex) σ H fun vs H' => ∃ (U : Pr) (ds : List D) (r : R), (∀ a, U a → H' a ≠ none) ∧ RepFs P (hide U H') vs ds ∧ p ds = some r ∧ ∀ v H'', Res P U H' v r H'' → Q v H'' := by
  obtain ⟨F, e, e', r, E, h1, q⟩ := h
  unfold vP at h1
  split at h1
  · rename_i e1 rs h2
    split at h1
    · rename_i r1 h3
      cases h1
      exact args_ok _ E h2 fun vs H' po => ⟨Us F e' σ, _, _, fun a z => po.drop.env0.there z, po.frzs (exs_true fs), h3, fun v H'' re => q v H'' (po.drop.prim (by rw [us_nil]; exact re))⟩
    · cases h1
  · cases h1
theorem e_tup {es : List Expr} {fs : List EF} {k : Nat} {pos : Pos} (ha : PA X es (semL P C (fs.map .ex))) : PE X (.Tuple es k pos) (semE P C (vP pTup (fs.map .ex))) :=
  ⟨fun pins s σ H Q I h => (pe_tup ha).run pins s σ H Q I (semL_mono (sem_disp h) fun vs H' ⟨U, ds, r, al, rr, hp, q⟩ => by
    unfold pTup at hp
    split at hp
    · rename_i hl
      cases hp
      exact ⟨by rw [rr.length]; exact hl, fun p np => q _ _ (.newTup rr np (fun z => al p z np) (by rw [rr.length]; exact hl))⟩
    · cases hp)⟩
theorem e_lst {es : List Expr} {fs : List EF} {pos : Pos} (ha : PA X es (semL P C (fs.map .ex))) : PE X (.List es pos) (semE P C (vP pLst (fs.map .ex))) :=
  ⟨fun pins s σ H Q I h => (pe_lst ha).run pins s σ H Q I (semL_mono (sem_disp h) fun vs H' ⟨U, ds, r, al, rr, hp, q⟩ => by
    unfold pLst at hp
    split at hp
    · rename_i hl
      cases hp
      exact ⟨by rw [rr.length]; exact hl, fun p np => q _ _ (.newLst rr np (by rw [rr.length]; exact hl))⟩
    · cases hp)⟩

/-! built-in functions -/
theorem e_callB {id : String} {p : List D → Option R} {x : Str} {e : Expr} {es : List Expr} {as : List AR} {np pos : Pos} (hc : callR X P (.builtin id) p) (hg : Gl X x) (hm : X.mg x = none) (hv : bootBuiltins x = some (.builtin id)) (ha : PA X (e :: es) (semL P C as))
    (hn : x ≠ "__name__") (hd : (x == ("__debug__" : Str)) = false) (he : starEach (e :: es) X.env = (false, eval e X.env) :: starEach es X.env) (hpl : (backTo pos (starEach es X.env)).any (·.1) = false) : PE X (.Call (.Name x np) (e :: es) [] pos) (semE P C (vP p as)) :=
  ⟨fun pins s σ H Q I h => (pe_callB hc hg hm hv ha hn hd he hpl).run pins s σ H Q I (sem_prim h)⟩
theorem e_callTy {T : String} {p : List D → Option R} {x : Str} {e : Expr} {es : List Expr} {as : List AR} {np pos : Pos} (hc : callR X P (.type T) p) (hg : Gl X x) (hm : X.mg x = none) (hv : bootBuiltins x = some (.type T)) (ha : PA X (e :: es) (semL P C as))
    (hn : x ≠ "__name__") (hd : (x == ("__debug__" : Str)) = false) (he : starEach (e :: es) X.env = (false, eval e X.env) :: starEach es X.env) (hpl : (backTo pos (starEach es X.env)).any (·.1) = false) : PE X (.Call (.Name x np) (e :: es) [] pos) (semE P C (vP p as)) :=
  ⟨fun pins s σ H Q I h => (pe_callTy hc hg hm hv ha hn hd he hpl).run pins s σ H Q I (sem_prim h)⟩

/-! tests -/
def semT (P : Pg) (C : CT) (f : EF) : TT := fun σ H Q => ∃ (F : Pr) (e e' : VE) (b o : Bool), EnvOk P F e σ H ∧ f C e = some (e', .bl b, o) ∧ ∀ H', Post P F e σ H [] e' σ [] [] H' → Q b H'
theorem t_val {e : Expr} {f : EF} (h : PE X e (semE P C f)) (he : ∀ whole, isTrue e X.env whole = (do let v ← whole; standAt e.pos; holding [v] (truthy v))) : PT X e (semT P C f) :=
  ⟨fun pins s σ H Q I ⟨F, e, e', b, o, E, h1, q⟩ => (pt_val h he).run pins s σ H Q I ⟨F, _, _, _, E, h1, fun v H' po => ⟨b, po.rv.one.rr.bl, q H' po.drop⟩⟩⟩
theorem t_cmp {op : CmpOp} {p : List D → Option R} {a b : Expr} {x y : AR} {pos : Pos} (ho : OpR X (compareOp op) (opR P p)) (ha : PE X a (semAR P C x)) (hb : PE X b (semAR P C y)) (hm : behindInMarks op b = false) : PT X (.Compare a [op] [b] pos) (semT P C (vP p [x, y])) :=
  ⟨fun pins s σ H Q I ⟨F, e, e', b, o, E, h1, q⟩ => (pt_cmpR ho ha hb hm).run pins s σ H Q I (sem_prim (P := P) (C := C) (as := [x, y]) (p := p) ⟨F, _, _, _, E, h1, fun v H' po => ⟨b, po.rv.one.rr.bl, q H' po.drop⟩⟩)⟩
theorem t_isN {a : Expr} {x : AR} {j : Nat} {p1 pos : Pos} (ha : PE X a (semAR P C x)) : PT X (.Compare a [.Is] [.Constant .none j p1] pos) (semT P C (vP pIsN [x])) :=
  ⟨fun pins s σ H Q I ⟨F, e, e', b, o, E, h1, q⟩ => (pt_cmpR isN_any ha pe_non rfl).run pins s σ H Q I (by
    have h := sem_prim (P := P) (C := C) (as := [x]) (p := pIsN) (σ := σ) (H := H) (Q := fun v H' => ∃ k, v = .bl k ∧ Q k H') ⟨F, _, _, _, E, h1, fun v H' po => ⟨b, po.rv.one.rr.bl, q H' po.drop⟩⟩
    exact (show tCons _ _ σ H _ from h) |> fun z => by
      revert z
      cases x with
      | nm i => exact fun ⟨v, hv, z⟩ => ⟨v, hv, rfl, z⟩
      | ex f => exact fun ⟨F, e, e', r, E, h1, z⟩ => ⟨F, e, e', r, E, h1, fun v H' po => ⟨rfl, z v H' po⟩⟩)⟩
theorem t_notN {a : Expr} {x : AR} {j : Nat} {p1 pos : Pos} (ha : PE X a (semAR P C x)) : PT X (.Compare a [.IsNot] [.Constant .none j p1] pos) (semT P C (vP pNotN [x])) :=
  ⟨fun pins s σ H Q I ⟨F, e, e', b, o, E, h1, q⟩ => (pt_cmpR notN_any ha pe_non rfl).run pins s σ H Q I (by
    have h := sem_prim (P := P) (C := C) (as := [x]) (p := pNotN) (σ := σ) (H := H) (Q := fun v H' => ∃ k, v = .bl k ∧ Q k H') ⟨F, _, _, _, E, h1, fun v H' po => ⟨b, po.rv.one.rr.bl, q H' po.drop⟩⟩
    exact (show tCons _ _ σ H _ from h) |> fun z => by
      revert z
      cases x with
      | nm i => exact fun ⟨v, hv, z⟩ => ⟨v, hv, rfl, z⟩
      | ex f => exact fun ⟨F, e, e', r, E, h1, z⟩ => ⟨F, e, e', r, E, h1, fun v H' po => ⟨rfl, z v H' po⟩⟩)⟩
theorem t_not {a : Expr} {f : EF} {pos : Pos} (ha : PT X a (semT P C f)) : PT X (.UnaryOp .Not a pos) (semT P C (vNot f)) :=
  ⟨fun pins s σ H Q I ⟨F, e, e', b, o, E, h1, q⟩ => (pt_not ha).run pins s σ H Q I (by
    unfold vNot at h1
    split at h1
    · rename_i e1 b1 o1 h2
      cases h1
      exact ⟨F, _, _, _, _, E, h2, fun H' po => q H' po⟩
    · cases h1)⟩
theorem e_not {a : Expr} {f : EF} {pos : Pos} (ha : PE X a (semE P C f)) : PE X (.UnaryOp .Not a pos) (semE P C (vNot f)) :=
  ⟨fun pins s σ H Q I ⟨F, e, e', r, E, h1, q⟩ => (pe_not ha).run pins s σ H Q I (by
    unfold vNot at h1
    split at h1
    · rename_i e1 b1 o1 h2
      cases h1
      exact ⟨F, _, _, _, E, h2, fun v H' po => ⟨b1, po.rv.one.rr.bl, q _ H' (po.drop.flatOf (.bl _))⟩⟩
    · cases h1)⟩
def vAnds : List EF → EF
  | [] => vLit (.bl true)
  | [a] => a
  | a :: b :: r => vAnd a (vAnds (b :: r))
def vOrs : List EF → EF
  | [] => vLit (.bl false)
  | [a] => a
  | a :: b :: r => vOr a (vOrs (b :: r))
theorem Post.thenT {F : Pr} {e e1 e2 : VE} {σ : St} {H H1 H2 : Hp} {ks : List (Option Nat)} {vs : List V} {rs : List R} (a : Post P F e σ H [] e1 σ [] [] H1) (b : Post P F e1 σ H1 ks e2 σ vs rs H2) : Post P F e σ H ks e2 σ vs rs H2 := a.seq b
theorem t_ands {pos : Pos} : ∀ {es : List Expr} {fs : List EF}, Paired (fun e f => PT X e (semT P C f)) es fs → es ≠ [] → PW X (.BoolOp .And es pos) (semT P C (vAnds fs))
  | [], _, _, n => (n rfl).elim
  | [e], [f], .cons h .nil, _ => pw_and1 h
  | e :: e' :: es, f :: f' :: fs, .cons h r, _ => ⟨fun whole pins s σ H Q I ⟨F, en, en', b, o, E, h1, q⟩ => (pw_and h (t_ands r (by exact nofun))).run whole pins s σ H Q I (by
    have h1 : vAnd f (vAnds (f' :: fs)) C en = some (en', .bl b, o) := h1
    unfold vAnd at h1
    split at h1
    · rename_i e1 o1 h2
      exact ⟨F, _, _, _, _, E, h2, fun H1 p1 => by
        try dsimp only
        rw [if_pos rfl]
        exact ⟨F, _, _, _, _, p1.env0, h1, fun H2 p2 => q H2 (p1.thenT p2)⟩⟩
    · rename_i e1 o1 h2
      cases h1
      exact ⟨F, _, _, _, _, E, h2, fun H1 p1 => by
        try dsimp only
        rw [if_neg Bool.false_ne_true]
        exact q H1 p1⟩
    · cases h1)⟩
theorem t_ors {pos : Pos} : ∀ {es : List Expr} {fs : List EF}, Paired (fun e f => PT X e (semT P C f)) es fs → es ≠ [] → PW X (.BoolOp .Or es pos) (semT P C (vOrs fs))
  | [], _, _, n => (n rfl).elim
  | [e], [f], .cons h .nil, _ => pw_or1 h
  | e :: e' :: es, f :: f' :: fs, .cons h r, _ => ⟨fun whole pins s σ H Q I ⟨F, en, en', b, o, E, h1, q⟩ => (pw_or h (t_ors r (by exact nofun))).run whole pins s σ H Q I (by
    have h1 : vOr f (vOrs (f' :: fs)) C en = some (en', .bl b, o) := h1
    unfold vOr at h1
    split at h1
    · rename_i e1 o1 h2
      cases h1
      exact ⟨F, _, _, _, _, E, h2, fun H1 p1 => by
        try dsimp only
        rw [if_pos rfl]
        exact q H1 p1⟩
    · rename_i e1 o1 h2
      exact ⟨F, _, _, _, _, E, h2, fun H1 p1 => by
        try dsimp only
        rw [if_neg Bool.false_ne_true]
        exact ⟨F, _, _, _, _, p1.env0, h1, fun H2 p2 => q H2 (p1.thenT p2)⟩⟩
    · cases h1)⟩
theorem e_ands {pos : Pos} : ∀ {es : List Expr} {fs : List EF}, Paired (fun e f => PE X e (semE P C f)) es fs → es ≠ [] → PE X (.BoolOp .And es pos) (semE P C (vAnds fs))
  | [], _, _, n => (n rfl).elim
  | [e], [f], .cons h .nil, _ => pe_one h
  | e :: e' :: es, f :: f' :: fs, .cons h r, _ => ⟨fun pins s σ H Q I ⟨F, en, en', res, E, h1, q⟩ => (pe_and h (e_ands r (by exact nofun))).run pins s σ H Q I (by
    have h1 : vAnd f (vAnds (f' :: fs)) C en = some (en', res) := h1
    unfold vAnd at h1
    split at h1
    · rename_i e1 o1 h2
      exact ⟨F, _, _, _, E, h2, fun v H1 p1 => ⟨true, p1.rv.one.rr.bl, by
        try dsimp only
        rw [if_pos rfl]
        exact ⟨F, _, _, _, p1.drop.env0, h1, fun w H2 p2 => q w H2 (p1.drop.thenT p2)⟩⟩⟩
    · rename_i e1 o1 h2
      cases h1
      exact ⟨F, _, _, _, E, h2, fun v H1 p1 => ⟨false, p1.rv.one.rr.bl, by
        try dsimp only
        rw [if_neg Bool.false_ne_true]
        exact q _ H1 (p1.drop.flatOf (.bl _))⟩⟩
    · cases h1)⟩
theorem e_ors {pos : Pos} : ∀ {es : List Expr} {fs : List EF}, Paired (fun e f => PE X e (semE P C f)) es fs → es ≠ [] → PE X (.BoolOp .Or es pos) (semE P C (vOrs fs))
  | [], _, _, n => (n rfl).elim
  | [e], [f], .cons h .nil, _ => pe_one h
  | e :: e' :: es, f :: f' :: fs, .cons h r, _ => ⟨fun pins s σ H Q I ⟨F, en, en', res, E, h1, q⟩ => (pe_or h (e_ors r (by exact nofun))).run pins s σ H Q I (by
    have h1 : vOr f (vOrs (f' :: fs)) C en = some (en', res) := h1
    unfold vOr at h1
    split at h1
    · rename_i e1 o1 h2
      cases h1
      exact ⟨F, _, _, _, E, h2, fun v H1 p1 => ⟨true, p1.rv.one.rr.bl, by
        try dsimp only
        rw [if_pos rfl]
        exact q _ H1 (p1.drop.flatOf (.bl _))⟩⟩
    · rename_i e1 o1 h2
      exact ⟨F, _, _, _, E, h2, fun v H1 p1 => ⟨false, p1.rv.one.rr.bl, by
        try dsimp only
        rw [if_neg Bool.false_ne_true]
        exact ⟨F, _, _, _, p1.drop.env0, h1, fun w H2 p2 => q w H2 (p1.drop.thenT p2)⟩⟩⟩
    · cases h1)⟩
theorem e_ifE {c a b : Expr} {f g h : EF} {pos : Pos} (hc : PT X c (semT P C f)) (ha : PE X a (semE P C g)) (hb : PE X b (semE P C h)) : PE X (.IfExp c a b pos) (semE P C (vIfE f g h)) :=
  ⟨fun pins s σ H Q I ⟨F, e, e', r, E, h1, q⟩ => (pe_ifExp hc ha hb).run pins s σ H Q I (by
    unfold vIfE at h1
    split at h1
    · rename_i e1 o1 h2
      exact ⟨F, _, _, _, _, E, h2, fun H1 p1 => by
        try dsimp only
        rw [if_pos rfl]
        exact ⟨F, _, _, _, p1.env0, h1, fun w H2 p2 => q w H2 (p1.thenT p2)⟩⟩
    · rename_i e1 o1 h2
      exact ⟨F, _, _, _, _, E, h2, fun H1 p1 => by
        try dsimp only
        rw [if_neg Bool.false_ne_true]
        exact ⟨F, _, _, _, p1.env0, h1, fun w H2 p2 => q w H2 (p1.thenT p2)⟩⟩
    · cases h1)⟩
end VS

/-! VBuilt: subscripts, slices, built-in functions. -/
namespace VS
open PySem PySem.Spec PyProof.Rows L2
variable {P : Pg} {C : CT} {X : Cx}

theorem ix_any : IxR X (opR P pIdx) := by
  intro value slice pins s σ H x y v u Q I rx ry ⟨U, ds, r, al, rr, hp, q⟩ hs
  obtain ⟨d1, d2, rfl, h1, h2⟩ := rr.of2
  unfold pIdx at hp
  split at hp
  · rename_i xs i e
    injection e with e1 e2; injection e2 with e2 _; subst e1 e2
    obtain ⟨a, vs, rfl, ha, ra, la⟩ := h1.lst
    cases h2.int
    split at hp
    · rename_i j hj
      cases hq : xs[j]? with
      | none => rw [hq] at hp; cases hp
      | some d =>
        rw [hq] at hp
        cases hp
        obtain ⟨w, hw, rw'⟩ := ra.get hq
        refine ix_list value slice pins s σ H _ _ _ _ Q I rx ry ⟨a, vs, i, w, rfl, rfl, .of ha, ?_, q _ _ (.old rw')⟩ hs
        unfold atI
        rw [ra.length]
        have : ixN xs.length i = some j := hj
        rw [this]
        exact hw
    · cases hp
  · rename_i xs i e
    injection e with e1 e2; injection e2 with e2 _; subst e1 e2
    obtain ⟨a, vs, rfl, ha, ra, la⟩ := h1.tup
    cases h2.int
    split at hp
    · rename_i j hj
      cases hq : xs[j]? with
      | none => rw [hq] at hp; cases hp
      | some d =>
        rw [hq] at hp
        cases hp
        obtain ⟨w, hw, rw'⟩ := ra.get hq
        refine ix_tup value slice pins s σ H _ _ _ _ Q I rx ry ⟨a, vs, i, w, rfl, rfl, .of ha, ?_, q _ _ (.old rw')⟩ hs
        unfold atI
        rw [ra.length]
        have : ixN xs.length i = some j := hj
        rw [this]
        exact hw
    · cases hp
  · cases hp
theorem e_idx {a b : Expr} {x y : AR} {pos : Pos} (ha : PE X a (semAR P C x)) (hb : PE X b (semAR P C y)) (hs : PlainIx b) : PE X (.Subscript a b pos) (semE P C (vP pIdx [x, y])) :=
  ⟨fun pins s σ H Q I h => (pe_ix ix_any ha hb hs).run pins s σ H Q I (sem_prim h)⟩

theorem cutD_eq {G : Hp} {vs : List V} {xs : List D} (h : RepFs P G vs xs) (lo hi : Option Int) : RepFs P G (cutV vs lo hi) (cutD xs lo hi) := by
  unfold cutV cutD
  rw [h.length]
  exact (h.drop _).take _
theorem sl_any (hK : X.K = P.K) : SlR X (fun x lo hi H Q => ∃ (U : Pr) (d : D) (r : R), (∀ a, U a → H a ≠ none) ∧ RR P (hide U H) H x d ∧ cutR d lo hi = some r ∧ ∀ v H', Res P U H v r H' → Q v H') := by
  intro pins s σ H x v vl vu lo hi sl Q I rx hs pl pu ⟨U, d, r, al, rr, hp, q⟩
  unfold cutR at hp
  split at hp
  · rename_i xs
    cases hp
    obtain ⟨a, vs, rfl, ha, ra, la⟩ := rr.lst
    exact sl_list pins s σ H _ _ _ _ _ _ _ Q I rx hs pl pu ⟨a, vs, rfl, .of ha, fun p np => q _ _ (.newLst (cutD_eq ra lo hi) np (Nat.le_trans (cutV_length _ _ _) la))⟩
  · rename_i xs
    cases hp
    obtain ⟨a, vs, rfl, ha, ra⟩ := rr.wk
    exact sl_list pins s σ H _ _ _ _ _ _ _ Q I rx hs pl pu ⟨a, vs, rfl, by rw [hK]; exact ha, fun p np => q _ _ (.newLst (cutD_eq ra lo hi) np (Nat.le_trans (cutV_length _ _ _) (I.list (by rw [hK]; exact ha)).choose_spec.2.2))⟩
  · cases hp
/-! arguments whose flat values are known at once -/
def flatFact (v : V) : D → Prop
  | .int i => v = .int i
  | .bl b => v = .bl b
  | .str x => v = .str x
  | .non => v = .non
  | _ => True
theorem RR.fact {G H : Hp} {v : V} {d : D} (h : RR P G H v d) : flatFact v d := by
  cases d with
  | int i => exact h.int
  | bl b => exact h.bl
  | str x => exact h.str
  | non => exact h.non
  | lst _ => trivial
  | tup _ => trivial
  | dct _ => trivial
  | ins _ _ => trivial
  | wk _ => trivial
def kArgs (P : Pg) (C : CT) : List AR → List R → L2.St → Hp → (List V → Hp → Prop) → Prop
  | [], _, _, H, Q => Q [] H
  | .nm i :: as, rs, σ, H, Q => ∃ v, σ[i]? = some (some v) ∧ kArgs P C as rs.tail σ H fun vs H' => Q (v :: vs) H'
  | .ex f :: as, rs, σ, H, Q => semE P C f σ H fun v H1 => (∀ r ∈ rs.head?, flatFact v r.1) ∧ kArgs P C as rs.tail σ H1 fun vs H2 => Q (v :: vs) H2
theorem args_okK {σ : St} : ∀ (as : List AR) {F : Pr} {e e' : VE} {H : Hp} {rs : List R} {Q : List V → Hp → Prop}, EnvOk P F e σ H → vArgs as C e = some (e', rs) → (∀ vs H', Post P F e σ H (as.map isEx) e' σ vs rs H' → Q vs H') → kArgs P C as rs σ H Q
  | [], F, e, e', H, rs, Q, E, h, q => by
    have h' : some (e, ([] : List R)) = some (e', rs) := h
    cases h'
    exact q [] H (Post.nil E)
  | .nm i :: r, F, e, e', H, rs, Q, E, h, q => by
    unfold vArgs at h
    split at h
    · rename_i d0 h0
      split at h
      · rename_i e1 rs1 h1
        split at h
        · rename_i d h2
          cases h
          obtain ⟨d1, o1, p1, hs⟩ : ∃ (d1 : D) (o1 p1 : Bool), e[i]? = some (Sl.val d1 o1 p1) := by
            unfold readAt at h0
            split at h0
            · rename_i d' o' p' z; exact ⟨d', o', p', z⟩
            · cases h0
          obtain ⟨o2, p2, hs2⟩ : ∃ (o2 p2 : Bool), e'[i]? = some (Sl.val d o2 p2) := by
            unfold readAt at h2
            split at h2
            · rename_i d' o' p' z; cases h2; exact ⟨o', p', z⟩
            · cases h2
          obtain ⟨v, hv, _⟩ := E.slot i d1 o1 p1 hs
          exact ⟨v, hv, args_okK r E h1 fun vs H' p => q (v :: vs) H' (p.consN hs2 hv)⟩
        · cases h
      · cases h
    · cases h
  | .ex f :: r, F, e, e', H, rs, Q, E, h, q => by
    unfold vArgs at h
    split at h
    · rename_i e1 x h1
      split at h
      · rename_i e2 rs2 h2
        cases h
        exact ⟨F, e, e1, x, E, h1, fun v H1 p1 => ⟨fun r hr => by cases hr; exact p1.rv.one.rr.fact, args_okK r p1.env h2 fun vs H' p2 => q (v :: vs) H' (p1.consG p2)⟩⟩
      · cases h
    · cases h
theorem sem_primK {p : List D → Option R} {as : List AR} {σ : St} {H : Hp} {Q : VK} (h : semE P C (vP p as) σ H Q) : ∃ (rs : List R) (r : R), p (rs.map (·.1)) = some r ∧ kArgs P C as rs σ H fun vs H' => ∃ (U : Pr), (∀ a, U a → H' a ≠ none) ∧ RRs P (hide U H') H' vs (rs.map (·.1)) ∧ ∀ v H'', Res P U H' v r H'' → Q v H'' := by
  obtain ⟨F, e, e', r, E, h1, q⟩ := h
  unfold vP at h1
  split at h1
  · rename_i e1 rs h2
    split at h1
    · rename_i r1 h3
      cases h1
      exact ⟨rs, r, h3, args_okK as E h2 fun vs H' po => ⟨_, fun a z => po.env.there z, po.rrs, fun v H'' re => q v H'' (po.prim re)⟩⟩
    · cases h1
  · cases h1
theorem semAR_k {x : AR} {rs : List R} {as : List AR} {σ : L2.St} {H : Hp} {Q : List V → Hp → Prop} (h : kArgs P C (x :: as) rs σ H Q) : semAR P C x σ H fun v H1 => kArgs P C as rs.tail σ H1 fun vs H2 => Q (v :: vs) H2 := by
  cases x with
  | nm i => exact h
  | ex f =>
    obtain ⟨F, e, e', r, E, h1, q⟩ := h
    exact ⟨F, e, e', r, E, h1, fun v H' po => (q v H' po).2⟩
theorem semAR_mono {x : AR} {σ : L2.St} {H : Hp} {Q Q' : VK} (h : semAR P C x σ H Q) (k : ∀ v H', Q v H' → Q' v H') : semAR P C x σ H Q' := by
  cases x with
  | nm i => obtain ⟨v, hv, h⟩ := h; exact ⟨v, hv, k _ _ h⟩
  | ex f => obtain ⟨F, e, e', r, E, h1, q⟩ := h; exact ⟨F, e, e', r, E, h1, fun v H' po => k _ _ (q v H' po)⟩
theorem slice_run (hK : X.K = P.K) {x : D} {lo hi : Option Int} {r : R} (hp : cutR x lo hi = some r) {H : Hp} {v : V} {Q : VK} (h : ∃ (U : Pr), (∀ a, U a → H a ≠ none) ∧ RR P (hide U H) H v x ∧ ∀ v H'', Res P U H v r H'' → Q v H'') :
    ∃ (U : Pr) (d : D) (r : R), (∀ a, U a → H a ≠ none) ∧ RR P (hide U H) H v d ∧ cutR d lo hi = some r ∧ ∀ v H', Res P U H v r H' → Q v H' :=
  let ⟨U, al, rr, q⟩ := h
  ⟨U, x, r, al, rr, hp, q⟩
theorem e_slLH {a b c : Expr} {x : AR} {f g : EF} {pos p2 : Pos} (hK : X.K = P.K) (ha : PE X a (semAR P C x)) (hb : PE X b (semE P C f)) (hc : PE X c (semE P C g)) : PE X (.Subscript a (.Slice (some b) (some c) none p2) pos) (semE P C (vP pSlLH [x, .ex f, .ex g])) :=
  ⟨fun pins s σ H Q I h => (pe_slice (sl_any hK) ha (po_some hb) (po_some hc)).run pins s σ H Q I (by
    obtain ⟨rs, r, hp, h⟩ := sem_primK h
    unfold pSlLH at hp
    split at hp
    · rename_i d i j e
      obtain ⟨⟨d1, o1⟩, r1, rfl⟩ : ∃ y ys, rs = y :: ys := by cases rs with | nil => simp at e | cons y ys => exact ⟨y, ys, rfl⟩
      obtain ⟨⟨d2, o2⟩, r2, rfl⟩ : ∃ y ys, r1 = y :: ys := by cases r1 with | nil => simp at e | cons y ys => exact ⟨y, ys, rfl⟩
      obtain ⟨⟨d3, o3⟩, r3, rfl⟩ : ∃ y ys, r2 = y :: ys := by cases r2 with | nil => simp at e | cons y ys => exact ⟨y, ys, rfl⟩
      simp only [List.map_cons, List.cons.injEq, List.map_eq_nil_iff] at e
      obtain ⟨rfl, rfl, rfl, rfl⟩ := e
      refine semAR_mono (semAR_k h) fun v H1 h => ?_
      obtain ⟨F1, e1, e1', x1, E1, h1, q1⟩ := h
      refine ⟨F1, e1, e1', x1, E1, h1, fun w H2 po => ?_⟩
      obtain ⟨f1, h⟩ := q1 w H2 po
      refine ⟨i, f1 _ rfl, ?_⟩
      obtain ⟨F2, e2, e2', x2, E2, h2, q2⟩ := h
      refine ⟨F2, e2, e2', x2, E2, h2, fun z H3 po => ?_⟩
      obtain ⟨f2, U, al, rr, q⟩ := q2 z H3 po
      refine ⟨j, f2 _ rfl, slice_run hK hp ⟨U, al, ?_, q⟩⟩
      cases rr with | cons k _ => exact k
    · cases hp)⟩
theorem e_slL {a b : Expr} {x : AR} {f : EF} {pos p2 : Pos} (hK : X.K = P.K) (ha : PE X a (semAR P C x)) (hb : PE X b (semE P C f)) : PE X (.Subscript a (.Slice (some b) none none p2) pos) (semE P C (vP pSlL [x, .ex f])) :=
  ⟨fun pins s σ H Q I h => (pe_slice (sl_any hK) ha (po_some hb) po_none).run pins s σ H Q I (by
    obtain ⟨rs, r, hp, h⟩ := sem_primK h
    unfold pSlL at hp
    split at hp
    · rename_i d i e
      obtain ⟨⟨d1, o1⟩, r1, rfl⟩ : ∃ y ys, rs = y :: ys := by cases rs with | nil => simp at e | cons y ys => exact ⟨y, ys, rfl⟩
      obtain ⟨⟨d2, o2⟩, r2, rfl⟩ : ∃ y ys, r1 = y :: ys := by cases r1 with | nil => simp at e | cons y ys => exact ⟨y, ys, rfl⟩
      simp only [List.map_cons, List.cons.injEq, List.map_eq_nil_iff] at e
      obtain ⟨rfl, rfl, rfl⟩ := e
      refine semAR_mono (semAR_k h) fun v H1 h => ?_
      obtain ⟨F1, e1, e1', x1, E1, h1, q1⟩ := h
      refine ⟨F1, e1, e1', x1, E1, h1, fun w H2 po => ?_⟩
      obtain ⟨f1, U, al, rr, q⟩ := q1 w H2 po
      refine ⟨i, f1 _ rfl, slice_run hK hp ⟨U, al, ?_, q⟩⟩
      cases rr with | cons k _ => exact k
    · cases hp)⟩
theorem e_slH {a b : Expr} {x : AR} {f : EF} {pos p2 : Pos} (hK : X.K = P.K) (ha : PE X a (semAR P C x)) (hb : PE X b (semE P C f)) : PE X (.Subscript a (.Slice none (some b) none p2) pos) (semE P C (vP pSlH [x, .ex f])) :=
  ⟨fun pins s σ H Q I h => (pe_slice (sl_any hK) ha po_none (po_some hb)).run pins s σ H Q I (by
    obtain ⟨rs, r, hp, h⟩ := sem_primK h
    unfold pSlH at hp
    split at hp
    · rename_i d i e
      obtain ⟨⟨d1, o1⟩, r1, rfl⟩ : ∃ y ys, rs = y :: ys := by cases rs with | nil => simp at e | cons y ys => exact ⟨y, ys, rfl⟩
      obtain ⟨⟨d2, o2⟩, r2, rfl⟩ : ∃ y ys, r1 = y :: ys := by cases r1 with | nil => simp at e | cons y ys => exact ⟨y, ys, rfl⟩
      simp only [List.map_cons, List.cons.injEq, List.map_eq_nil_iff] at e
      obtain ⟨rfl, rfl, rfl⟩ := e
      refine semAR_mono (semAR_k h) fun v H1 h => ?_
      obtain ⟨F1, e1, e1', x1, E1, h1, q1⟩ := h
      refine ⟨F1, e1, e1', x1, E1, h1, fun w H2 po => ?_⟩
      obtain ⟨f1, U, al, rr, q⟩ := q1 w H2 po
      refine ⟨i, f1 _ rfl, slice_run hK hp ⟨U, al, ?_, q⟩⟩
      cases rr with | cons k _ => exact k
    · cases hp)⟩

/-! built-in functions -/
theorem len_any : callR X P (.builtin "len") pLen := by
  intro pins s σ H xs us Q I r ⟨U, ds, res, al, rr, hp, q⟩
  unfold pLen at hp
  split at hp
  · rename_i ys
    cases hp
    obtain ⟨v, rfl, h⟩ := rr.one
    obtain ⟨a, vs, rfl, ha, ra, la⟩ := h.lst
    exact call_len_seq pins s σ H _ us Q I r ⟨a, vs, rfl, .inl (.of ha), by rw [ra.length]; exact q _ _ (.int _)⟩
  · rename_i ys
    cases hp
    obtain ⟨v, rfl, h⟩ := rr.one
    obtain ⟨a, vs, rfl, ha, ra, la⟩ := h.tup
    exact call_len_seq pins s σ H _ us Q I r ⟨a, vs, rfl, .inr (.of ha), by rw [ra.length]; exact q _ _ (.int _)⟩
  · cases hp
theorem int_any : callR X P (.type "int") pInt := by
  intro pins s σ H xs us Q I r ⟨U, ds, res, al, rr, hp, q⟩
  unfold pInt at hp
  split at hp
  · rename_i i
    cases hp
    obtain ⟨v, rfl, h⟩ := rr.one
    cases h.int
    exact call_int1 pins s σ H _ us Q I r (.inl ⟨i, rfl, q _ _ (.int _)⟩)
  · rename_i b
    cases hp
    obtain ⟨v, rfl, h⟩ := rr.one
    cases h.bl
    exact call_int1 pins s σ H _ us Q I r (.inr ⟨b, rfl, by
      have := q _ _ (.int (if b = true then 1 else 0))
      cases b <;> exact this⟩)
  · cases hp
theorem abs_any : callR X P (.builtin "abs") pAbs := by
  intro pins s σ H xs us Q I r ⟨U, ds, res, al, rr, hp, q⟩
  unfold pAbs at hp
  split at hp
  · rename_i i
    cases hp
    obtain ⟨v, rfl, h⟩ := rr.one
    cases h.int
    exact call_abs pins s σ H _ us Q I r ⟨i, rfl, q _ _ (.int _)⟩
  · cases hp
theorem list_any : callR X P (.type "list") pList := by
  intro pins s σ H xs us Q I r ⟨U, ds, res, al, rr, hp, q⟩
  unfold pList at hp
  split at hp
  · rename_i ys
    cases hp
    obtain ⟨v, rfl, h⟩ := rr.one
    obtain ⟨a, vs, rfl, ha, ra, la⟩ := h.lst
    exact call_list_of pins s σ H _ us Q I r ⟨a, vs, rfl, .inl (.of ha), fun p np => q _ _ (.newLst ra np la)⟩
  · rename_i ys
    cases hp
    obtain ⟨v, rfl, h⟩ := rr.one
    obtain ⟨a, vs, rfl, ha, ra, la⟩ := h.tup
    exact call_list_of pins s σ H _ us Q I r ⟨a, vs, rfl, .inr (.of ha), fun p np => q _ _ (.newLst ra np la)⟩
  · cases hp
theorem max2_any (hc : X.calm = true) : callR X P (.builtin "max") pMax2 := by
  intro pins s σ H xs us Q I r ⟨U, ds, res, al, rr, hp, q⟩
  unfold pMax2 at hp
  split at hp
  · rename_i i j
    cases hp
    obtain ⟨v, w, rfl, h1, h2⟩ := rr.two
    cases h1.int; cases h2.int
    exact call_max2 hc pins s σ H _ us Q I r ⟨i, j, rfl, q _ _ (.int _)⟩
  · cases hp
theorem min2_any (hc : X.calm = true) : callR X P (.builtin "min") pMin2 := by
  intro pins s σ H xs us Q I r ⟨U, ds, res, al, rr, hp, q⟩
  unfold pMin2 at hp
  split at hp
  · rename_i i j
    cases hp
    obtain ⟨v, w, rfl, h1, h2⟩ := rr.two
    cases h1.int; cases h2.int
    exact call_min2 hc pins s σ H _ us Q I r ⟨i, j, rfl, q _ _ (.int _)⟩
  · cases hp
end VS

/-! VStmt: targets and statements. -/
namespace VS
open PySem PySem.Spec PyProof.Rows L2
variable {P : Pg} {C : CT} {X : Cx}

/-- from a state to a later one, the frame F0 becoming F -/
structure Step (P : Pg) (F0 : Pr) (e : VE) (σ : St) (H : Hp) (F : Pr) (e' : VE) (σ' : St) (H' : Hp) : Prop where
  le : ∀ a, F a → F0 a
  env : EnvOk P F e' σ' H'
  fr : ∀ a, F a → H' a = H a
  gr : Grow (hide (Us F0 e σ) H) (hide (Us F e' σ') H')
  st : Stay e σ e' σ'
theorem Step.refl {F : Pr} {e : VE} {σ : St} {H : Hp} (E : EnvOk P F e σ H) : Step P F e σ H F e σ H := ⟨fun _ h => h, E, fun _ _ => rfl, .refl _, .refl _ _⟩
theorem Step.trans {F0 F1 F2 : Pr} {e e1 e2 : VE} {σ σ1 σ2 : St} {H H1 H2 : Hp} (a : Step P F0 e σ H F1 e1 σ1 H1) (b : Step P F1 e1 σ1 H1 F2 e2 σ2 H2) : Step P F0 e σ H F2 e2 σ2 H2 :=
  ⟨fun x h => a.le x (b.le x h), b.env, fun x h => (b.fr x h).trans (a.fr x (b.le x h)), a.gr.trans b.gr, a.st.trans b.st⟩
theorem Post.step {F : Pr} {e0 e e' : VE} {σ0 σ σ' : St} {H0 H H' : Hp} {ks : List (Option Nat)} {vs : List V} {rs : List R} (p : Post P F e0 σ0 H0 ks e σ vs rs H) (s : Step P (UsR F vs rs) e σ H F e' σ' H') : Post P F e0 σ0 H0 [] e' σ' [] [] H' :=
  .set0 s.env (fun a h => (s.fr a h).trans (p.fr a h)) (p.gr.trans s.gr) (p.st.trans s.st)
/-- from a Post without results -/
theorem Post.toStep {F : Pr} {e e' : VE} {σ σ' : St} {H H' : Hp} (p : Post P F e σ H [] e' σ' [] [] H') : Step P F e σ H F e' σ' H' :=
  ⟨fun _ h => h, p.env0, p.fr, by have := p.gr; rw [us_nil] at this; exact this, p.st⟩

/-! targets -/
/-- t stores to the slots of ts alone -/
def semG (P : Pg) (C : CT) (ts : List Nat) (t : TF) : TG := fun v σ H Q => ∃ (F : Pr) (e : VE) (r : R) (e' : VE), EnvOk P (UsR F [v] [r]) e σ H ∧ RV P (hide (Us (UsR F [v] [r]) e σ) H) H v r ∧ (∀ a, OwnV v r a → ¬ F a) ∧ t C r e = some e' ∧
  ∀ σ' H', Step P (UsR F [v] [r]) e σ H F e' σ' H' → (∀ j, j ∉ ts → σ'[j]? = σ[j]?) → Q σ' H'
theorem g_name {i : Nat} {tg : Expr} (h : PG X tg (gName i)) : PG X tg (semG P C [i] (tName i)) := ⟨fun pins s σ H v u Q I r ⟨F, e, res, e', E, rv, nf, h1, q⟩ => by
  have fin : ∀ s0, e[i]? = some s0 → Fixed s0 = false → e' = e.set i (.val res.1 res.2 false) → gName i v σ H Q := fun s0 h0 hf he => by
    obtain ⟨E', gr⟩ := E.store rv nf h0
    subst he
    exact q _ _ ⟨fun a z => usR_one.mpr (.inl z), E', fun _ _ => rfl, gr, .store h0 hf⟩ fun j hj => get_set_ne fun z => hj (by rw [z]; exact List.mem_singleton.mpr rfl)
  unfold tName at h1
  split at h1
  · rename_i h0; exact h.run pins s σ H v u Q I r (fin _ h0 rfl (Option.some.inj h1).symm)
  · rename_i d o h0; exact h.run pins s σ H v u Q I r (fin _ h0 rfl (Option.some.inj h1).symm)
  · cases h1⟩
/-- results that own nothing -/
theorem flat_E {F : Pr} {e : VE} {σ : St} {H : Hp} {v : V} {d : D} : EnvOk P (UsR F [v] [(d, false)]) e σ H ↔ EnvOk P F e σ H := by rw [usR_noOwn]
def semGs (P : Pg) (C : CT) (sl : List Nat) (ts : List TF) : TGs := fun vs σ H Q => ∃ (F : Pr) (e : VE) (ds : List D) (e' : VE), EnvOk P F e σ H ∧ RepFs P (hide (Us F e σ) H) vs ds ∧ tTupGo ts C ds e = some e' ∧ ∀ σ' H', Step P F e σ H F e' σ' H' → (∀ j, j ∉ sl → σ'[j]? = σ[j]?) → Q σ' H'
theorem gs_nil : PGs X [] (semGs P C [] []) := ⟨fun pins s σ H vs us Q I r ⟨F, e, ds, e', E, rf, h1, q⟩ => by
  cases ds with
  | nil =>
    have h1 : some e = some e' := h1
    cases h1
    cases rf
    exact pgs_nil.run pins s σ H [] us Q I r ⟨rfl, q _ _ (.refl E) fun _ _ => rfl⟩
  | cons _ _ => exact nomatch h1⟩
theorem gs_cons {tg : Expr} {tgs : List Expr} {t : TF} {ts : List TF} {s1 s2 : List Nat} (h1 : PG X tg (semG P C s1 t)) (h2 : PGs X tgs (semGs P C s2 ts)) (hs : (assignEach (tg :: tgs) X.env).map (·.2) = assign tg X.env :: (assignEach tgs X.env).map (·.2)) :
    PGs X (tg :: tgs) (semGs P C (s1 ++ s2) (t :: ts)) := ⟨fun pins s σ H vs us Q I r ⟨F, e, ds, e', E, rf, hq, q⟩ => by
  cases ds with
  | nil => exact nomatch hq
  | cons d ds' =>
    have hq : (match t C (d, false) e with | some e1 => tTupGo ts C ds' e1 | none => none) = some e' := hq
    split at hq
    · rename_i e1 g1
      cases rf with
      | @cons v vs' _ _ rv rf =>
        refine (pgs_cons h1 h2 hs).run pins s σ H _ us Q I r ⟨v, vs', rfl, F, e, (d, false), e1, flat_E.mpr E, ?_, (fun a z => nomatch z.1), g1, fun σ1 H1 st k1 => ?_⟩
        · rw [usR_noOwn]; exact rv
        · rw [usR_noOwn] at st
          exact ⟨F, e1, ds', e', st.env, rf.grow st.gr, hq, fun σ2 H2 st2 k2 => q σ2 H2 (st.trans st2) fun j hj => (k2 j fun z => hj (List.mem_append_right _ z)).trans (k1 j fun z => hj (List.mem_append_left _ z))⟩
    · cases hq⟩
theorem g_tup {es : List Expr} {k : Nat} {ts : List TF} {sl : List Nat} {pos : Pos} (hc : X.calm = true) (h : PGs X es (semGs P C sl ts)) (hn : (assignEach es X.env).length = ts.length) (hst : (assignEach es X.env).findIdx? (·.1) = none) : PG X (.Tuple es k pos) (semG P C sl (tTup ts)) :=
  ⟨fun pins s σ H v u Q I r ⟨F, e, res, e', E, rv, nf, h1, q⟩ => by
  unfold tTup at h1
  split at h1
  · rename_i ds hd
    obtain ⟨d, o⟩ := res
    have hd : d = .tup ds := hd
    subst hd
    cases o with
    | true => obtain ⟨p, _, z⟩ := rv; cases z
    | false =>
      rw [usR_noOwn] at E rv
      cases (show RepF P _ v (.tup ds) from rv) with
      | @tup a vs _ ha la ra =>
        have hl : vs.length = ts.length := by
          rw [ra.length]
          have key : ∀ (ts : List TF) (ds : List D) (e e' : VE), tTupGo ts C ds e = some e' → ds.length = ts.length := by
            intro ts
            induction ts with
            | nil =>
              intro ds e e' h
              cases ds with
              | nil => rfl
              | cons _ _ => simp [tTupGo] at h
            | cons t ts ih =>
              intro ds e e' h
              cases ds with
              | nil => simp [tTupGo] at h
              | cons d ds =>
                unfold tTupGo at h
                split at h
                · rename_i e1 _
                  exact congrArg (· + 1) (ih ds e1 e' h)
                · cases h
          exact key ts ds e e' h1
        exact (pg_tup hc h hn hst).run pins s σ H _ u Q I r ⟨a, vs, rfl, .of (hide_some ha).2, hl, F, e, ds, e', E, ra, h1, fun σ' H' st k => q σ' H' (by rw [usR_noOwn]; exact st) k⟩
  · cases h1⟩
/-- pending results made visible -/
theorem EnvOk.unhold {F : Pr} {e : VE} {σ : St} {H : Hp} {vs : List V} {rs : List R} (E : EnvOk P (UsR F vs rs) e σ H) : EnvOk P F e σ H ∧ Grow (hide (Us (UsR F vs rs) e σ) H) (hide (Us F e σ) H) := by
  have gr1 : Grow (hide (Us (UsR F vs rs) e σ) H) (hide (Us F e σ) H) := grow_hide (.refl _) fun b z _ => z.elim (fun z => .inl (.inl z)) .inr
  exact ⟨⟨E.len, fun i d o pn h => let ⟨v, h1, h2⟩ := E.slot i d o pn h; ⟨v, h1, h2.grow gr1 fun _ _ => rfl⟩, E.inj, fun i a h z => E.dj i a h (.inl z), fun a z => E.al a (.inl z)⟩, gr1⟩
theorem RV.frz {F : Pr} {e : VE} {σ : St} {H : Hp} {v : V} {r : R} (E : EnvOk P (UsR F [v] [r]) e σ H) (rv : RV P (hide (Us (UsR F [v] [r]) e σ) H) H v r) (nf : ∀ a, OwnV v r a → ¬ F a) : RepF P (hide (Us F e σ) H) v r.1 := by
  have := RVs.frz (ks := [none]) E (.ex rv .nil) (fun k a z => by
    rcases ownVs_cons.mp z with ⟨_, z⟩ | ⟨_, _, z⟩
    · exact nf a z
    · exact (ownVs_nil z).elim) (fun k hk => by simpa using hk)
  cases this with | cons h _ => exact h
theorem g_sub {o ix : Expr} {x : Nat} {f : EF} {pos : Pos} (ho : PE X o (tVar x)) (hi : PE X ix (semE P C f)) (ha : ∀ v, assign (.Subscript o ix pos) X.env v = (do
      let ov ← holding [v] (eval o X.env)
      let iv ← holding [v, ov] (eval ix X.env)
      standAt pos
      holding [v, ov, iv] (setItem ov iv v)
      release [v, ov, iv] [])) : PG X (.Subscript o ix pos) (semG P C [] (tSub x f)) :=
  ⟨fun pins s σ H v u Q I r ⟨F, e, res, e', E, rv, nf, h1, q⟩ => (pg_sub ho hi set_list ha).run pins s σ H v u Q I r (by
    unfold tSub at h1
    split at h1
    · rename_i d0 h0
      split at h1
      · rename_i e1 k ok h2
        split at h1
        · rename_i xs pn h3
          split at h1
          · rename_i j h4
            cases h1
            obtain ⟨d1, o1, p1, hs⟩ : ∃ (d1 : VS.D) (o1 p1 : Bool), e[x]? = some (Sl.val d1 o1 p1) := by
              unfold readAt at h0
              split at h0
              · rename_i d' o' p' z; exact ⟨d', o', p', z⟩
              · cases h0
            obtain ⟨w, hw, _⟩ := E.slot x d1 o1 p1 hs
            refine ⟨w, hw, UsR F [v] [res], e, e1, _, E, h2, fun y H1 po => ?_⟩
            cases po.rv.one.rr.int
            have p0 := po.drop
            have E1 := p0.env0
            obtain ⟨w', hw', ro⟩ := E1.slot x _ true pn h3
            rw [hw] at hw'
            cases hw'
            obtain ⟨a, rfl, ro⟩ := ro
            have rv1 : RV P (hide (Us (UsR F [v] [res]) e1 σ) H1) H1 v res := rv.grow (by have := p0.gr; rw [us_nil] at this; exact this) fun a z => p0.fr a (usR_one.mpr (.inr z))
            have rf := RV.frz E1 rv1 nf
            obtain ⟨E2, gr2⟩ := E1.unhold
            cases ro with
            | @lst vs _ ha la ra =>
              have hj : ixN vs.length k = some j := by rw [ra.length]; exact h4
              refine ⟨a, vs, k, j, rfl, rfl, ha, hj, ?_⟩
              obtain ⟨E3, gr3, fr3⟩ := E2.change (d' := .lst (xs.set j res.1)) h3 hw (o := .lst (vs.set j v)) (.lst upd_same (by rw [List.length_set]; exact la) (RepFs.set rf j (ra.grow gr2)))
              have gr0 := p0.gr
              rw [us_nil] at gr0
              exact q _ _ ⟨fun a z => usR_one.mpr (.inl z), E3, fun a z => (fr3 a z).trans (p0.fr a (usR_one.mpr (.inl z))), (gr0.trans gr2).trans gr3, p0.st.trans (.set h3 fun z => ⟨z, rfl⟩)⟩ fun _ _ => rfl
          · cases h1
        · cases h1
      · cases h1
    · cases h1)⟩

/-! statements -/
def SEnd (P : Pg) (F : Pr) (e0 : VE) (σ0 : St) (H0 : Hp) (D : Ends) : Out → Prop
  | .nx e' => ∀ σ' H', Post P F e0 σ0 H0 [] e' σ' [] [] H' → D.nx σ' H'
  | .rt e' r => ∀ v σ' H', Post P F e0 σ0 H0 [none] e' σ' [v] [r] H' → D.rt v H'
  | .bk e' => ∀ σ' H', Post P F e0 σ0 H0 [] e' σ' [] [] H' → D.bk σ' H'
  | .ct e' => ∀ σ' H', Post P F e0 σ0 H0 [] e' σ' [] [] H' → D.ct σ' H'
theorem SEnd.seq {F : Pr} {e0 e1 : VE} {σ0 σ1 : St} {H0 H1 : Hp} {D : Ends} {out : Out} (p : Post P F e0 σ0 H0 [] e1 σ1 [] [] H1) (h : SEnd P F e0 σ0 H0 D out) : SEnd P F e1 σ1 H1 D out := by
  cases out with
  | nx e' => exact fun σ' H' po => h σ' H' (p.seq po)
  | rt e' r => exact fun v σ' H' po => h v σ' H' (p.seq po)
  | bk e' => exact fun σ' H' po => h σ' H' (p.seq po)
  | ct e' => exact fun σ' H' po => h σ' H' (p.seq po)
def semS (P : Pg) (C : CT) (st : SF) : TS := fun D σ H => ∃ (F : Pr) (e : VE) (out : Out), EnvOk P F e σ H ∧ st C e = some out ∧ SEnd P F e σ H D out
theorem s_stuck {st : Stmt} : PS X st (semS P C sStuck) := ⟨fun pins s σ H D I ⟨F, e, out, E, h1, q⟩ => nomatch h1⟩
theorem s_next {st : Stmt} (h : PS X st tNext) : PS X st (semS P C sNext) := ⟨fun pins s σ H D I ⟨F, e, out, E, h1, q⟩ => by
  cases h1
  exact h.run pins s σ H D I (q σ H (.nil E))⟩
theorem s_brk {pos : Pos} : PS X (.Break pos) (semS P C sBrk) := ⟨fun pins s σ H D I ⟨F, e, out, E, h1, q⟩ => by
  cases h1
  exact ps_break.run pins s σ H D I (q σ H (.nil E))⟩
theorem s_cnt {pos : Pos} : PS X (.Continue pos) (semS P C sCnt) := ⟨fun pins s σ H D I ⟨F, e, out, E, h1, q⟩ => by
  cases h1
  exact ps_continue.run pins s σ H D I (q σ H (.nil E))⟩
theorem ss_nil : PSs X [] (semS P C sNext) := ⟨fun pins s σ H D I ⟨F, e, out, E, h1, q⟩ => by
  cases h1
  exact pss_nil.run pins s σ H D I (q σ H (.nil E))⟩
theorem ss_cons {st : Stmt} {rest : List Stmt} {a b : SF} (h1 : PS X st (semS P C a)) (h2 : PSs X rest (semS P C b)) : PSs X (st :: rest) (semS P C (sSeq a b)) := ⟨fun pins s σ H D I ⟨F, e, out, E, h, q⟩ => (pss_cons h1 h2).run pins s σ H D I (by
  unfold sSeq at h
  split at h
  · rename_i e1 h3
    exact ⟨F, e, _, E, h3, fun σ1 H1 po => ⟨F, e1, out, po.env0, h, SEnd.seq po q⟩⟩
  · rename_i o hn
    refine ⟨F, e, out, E, h, ?_⟩
    cases out with
    | nx e' => exact (hn e' h).elim
    | rt e' r => exact q
    | bk e' => exact q
    | ct e' => exact q)⟩
theorem s_expr {ex : Expr} {f : EF} {pos : Pos} (h : PE X ex (semE P C f)) (hs : swapsWith ex none pos.line X.env = pure false) : PS X (.Expr ex pos) (semS P C (sExpr f)) := ⟨fun pins s σ H D I ⟨F, e, out, E, h1, q⟩ => (ps_expr h hs).run pins s σ H D I (by
  unfold sExpr at h1
  split at h1
  · rename_i e1 r h2
    cases h1
    exact ⟨F, e, _, _, E, h2, fun v H' po => q σ H' po.drop⟩
  · cases h1)⟩
theorem s_ret {ex : Expr} {f : EF} {pos : Pos} (h : PE X ex (semE P C f)) : PS X (.Return (some ex) pos) (semS P C (sRet f)) := ⟨fun pins s σ H D I ⟨F, e, out, E, h1, q⟩ => (ps_ret h).run pins s σ H D I (by
  unfold sRet at h1
  split at h1
  · rename_i e1 r h2
    cases h1
    exact ⟨F, e, _, _, E, h2, fun v H' po => q v σ H' po⟩
  · cases h1)⟩
theorem s_retN {pos : Pos} : PS X (.Return none pos) (semS P C sRetN) := ⟨fun pins s σ H D I ⟨F, e, out, E, h1, q⟩ => ps_retN.run pins s σ H D I (by
  cases h1
  exact q .non σ H ((Post.nil E).flatOf .non))⟩
/-- an owned name handed on: its slot is free -/
theorem Post.give {F : Pr} {e : VE} {σ : St} {H : Hp} (E : EnvOk P F e σ H) {i : Nat} {d : D} (h0 : e[i]? = some (.val d true false)) {a : Addr} (hv : σ[i]? = some (some (.ref a))) (ro : RepO P (hide (Us F e σ) H) H a d) : Post P F e σ H [none] (e.set i .no) σ [.ref a] [(d, true)] H := by
  have ow : Own e σ i a := ⟨d, false, h0, hv⟩
  have f : flatS .no := fun _ _ z => by cases z
  have us : Us (UsR F [.ref a] [(d, true)]) (e.set i .no) σ = Us F e σ := funext fun x => propext (by
    constructor
    · rintro (z | ⟨j, z⟩)
      · rcases usR_one.mp z with z | ⟨_, z⟩
        · exact .inl z
        · cases z; exact .inr ⟨i, ow⟩
      · exact .inr ⟨j, (own_set_flat h0 f z).2⟩
    · rintro (z | ⟨j, z⟩)
      · exact .inl (.inl z)
      · by_cases hj : j = i
        · subst hj
          obtain ⟨_, _, _, z⟩ := z
          rw [hv] at z
          cases z
          exact .inl (usR_one.mpr (.inr ⟨rfl, rfl⟩))
        · exact .inr ⟨j, (own_set h0).mpr (.inr ⟨hj, z⟩)⟩)
  refine ⟨⟨by rw [List.length_set]; exact E.len, fun j d' o p h => ?_, fun j k x hj hk => E.inj j k x (own_set_flat h0 f hj).2 (own_set_flat h0 f hk).2, fun j x hj z => ?_, fun x z => ?_⟩, ?_, fun j k x hj hk => ?_, fun k x hk => ?_, fun _ _ => rfl, ?_, .set h0 fun z => by cases z⟩
  · by_cases hj : j = i
    · subst hj
      rw [get_set_self h0] at h
      cases h
    · rw [get_set_ne (Ne.symm hj)] at h
      rw [us]
      exact E.slot j d' o p h
  · obtain ⟨n, hj⟩ := own_set_flat h0 f hj
    rcases usR_one.mp z with z | ⟨_, z⟩
    · exact E.dj j x hj z
    · cases z; exact n (E.inj j i a hj ow)
  · rcases usR_one.mp z with z | ⟨_, z⟩
    · exact E.al x z
    · cases z; exact ro.there
  · rw [us]; exact .ex ⟨a, rfl, ro⟩ .nil
  · rcases ownVs_cons.mp hj with ⟨e1, _⟩ | ⟨_, _, z⟩
    · rcases ownVs_cons.mp hk with ⟨e2, _⟩ | ⟨_, _, z⟩
      · rw [e1, e2]
      · exact (ownVs_nil z).elim
    · exact (ownVs_nil z).elim
  · rcases ownVs_cons.mp hk with ⟨_, _, z⟩ | ⟨_, _, z⟩
    · cases z; exact E.dj i a ow
    · exact (ownVs_nil z).elim
  · rw [us]; exact .refl _
theorem s_retV {ex : Expr} {i : Nat} {pos : Pos} (h : PE X ex (tVar i)) : PS X (.Return (some ex) pos) (semS P C (sRetV i)) := ⟨fun pins s σ H D I ⟨F, e, out, E, h1, q⟩ => (ps_ret h).run pins s σ H D I (by
  unfold sRetV at h1
  split at h1
  · rename_i d h0
    cases h1
    obtain ⟨v, hv, a, rfl, ro⟩ := E.slot i d true false h0
    exact ⟨_, hv, q _ σ H (.give E h0 hv ro)⟩
  · rename_i d o p _ h0
    cases h1
    obtain ⟨v, hv, _⟩ := E.slot i d o p h0
    exact ⟨_, hv, q _ σ H (.var E h0 hv)⟩
  · cases h1)⟩
theorem s_if {c : Expr} {xs ys : List Stmt} {f : EF} {a b : SF} {pos : Pos} (hc : PT X c (semT P C f)) (ha : PSs X xs (semS P C a)) (hb : PSs X ys (semS P C b)) : PS X (.If c xs ys pos) (semS P C (sIf f a b)) :=
  ⟨fun pins s σ H D I ⟨F, e, out, E, h1, q⟩ => (ps_if hc ha hb).run pins s σ H D I (by
    unfold sIf at h1
    split at h1
    · rename_i e1 o1 h2
      exact ⟨F, _, _, _, _, E, h2, fun H1 p1 => by
        dsimp only
        rw [if_pos rfl]
        exact ⟨F, e1, out, p1.env0, h1, SEnd.seq p1 q⟩⟩
    · rename_i e1 o1 h2
      exact ⟨F, _, _, _, _, E, h2, fun H1 p1 => by
        dsimp only
        rw [if_neg Bool.false_ne_true]
        exact ⟨F, e1, out, p1.env0, h1, SEnd.seq p1 q⟩⟩
    · cases h1)⟩
/-- x = e, its target any -/
theorem s_asg {tg ex : Expr} {t : TF} {f : EF} {sl : List Nat} {pos : Pos} (he : PE X ex (semE P C f)) (hg : PG X tg (semG P C sl t)) (hs : swapsWithSole [tg] ex pos.line X.env = pure false) (hw : swappedStores [tg] ex X.env = pure none)
    (h1 : (assignEach [tg] X.env).map (·.2) = [assign tg X.env]) : PS X (.Assign [tg] ex pos) (semS P C (sAsg t f)) := ⟨fun pins s σ H D I ⟨F, e, out, E, hq, q⟩ => (ps_asg he hg hs hw h1).run pins s σ H D I (by
  unfold sAsg at hq
  split at hq
  · rename_i e1 r h2
    split at hq
    · rename_i e2 h3
      cases hq
      exact ⟨F, e, e1, r, E, h2, fun v H1 po => ⟨F, e1, r, e2, po.env, po.rv.one, fun a z => po.nf 0 a (ownVs_cons.mpr (.inl ⟨rfl, z⟩)), h3, fun σ' H' st _ => q σ' H' (po.step st)⟩⟩
    · cases hq
  · cases hq)⟩
theorem s_set {i : Nat} {x : Str} {ex : Expr} {f : EF} {pos pos' : Pos} (hN : X.N.Nodup) (hi : X.N[i]? = some x) (hx : Loc X.env.scope x) (he : PE X ex (semE P C f)) (hs : swapsWith ex (some (.Name x pos')) pos.line X.env = pure false) (hf : X.fn x = true ∨ X.env.scope.names.lookup x = some .local) :
    PS X (.Assign [.Name x pos'] ex pos) (semS P C (sAsg (tName i) f)) := ⟨fun pins s σ H D I ⟨F, e, out, E, hq, q⟩ => (ps_set hN hi hx he hs hf).run pins s σ H D I (by
  unfold sAsg at hq
  split at hq
  · rename_i e1 r h2
    split at hq
    · rename_i e2 h3
      cases hq
      refine ⟨F, e, e1, r, E, h2, fun v H1 po => ?_⟩
      have fin : ∀ s0, e1[i]? = some s0 → Fixed s0 = false → e2 = e1.set i (.val r.1 r.2 false) → D.nx (σ.set i (some v)) H1 := fun s0 h0 hf he => by
        subst he
        exact q _ _ (po.store h0 hf)
      unfold tName at h3
      split at h3
      · rename_i h0; exact fin _ h0 rfl (Option.some.inj h3).symm
      · rename_i d o h0; exact fin _ h0 rfl (Option.some.inj h3).symm
      · cases h3
    · cases hq
  · cases hq)⟩
/-- x op= e -/
def ipR (P : Pg) (p : List D → Option R) : TIp := fun x y H Q => primR P p [x, y] H Q
theorem s_aug {i : Nat} {x : Str} {ex : Expr} {f : EF} {op : Operator} {p : List D → Option R} {pos pos' : Pos} (hN : X.N.Nodup) (hi : X.N[i]? = some x) (hx : Loc X.env.scope x) (he : PE X ex (semE P C f)) (ho : PIp X op (ipR P p)) (hf : X.fn x = true ∨ X.env.scope.names.lookup x = some .local) :
    PS X (.AugAssign (.Name x pos') op ex pos) (semS P C (sAug i p f)) := ⟨fun pins s σ H D I ⟨F, e, out, E, hq, q⟩ => (ps_aug hN hi hx he ho hf).run pins s σ H D I (by
  unfold sAug at hq
  split at hq
  · rename_i d o pn h0
    split at hq
    · rename_i hfl
      split at hq
      · rename_i e1 r h2
        split at hq
        · rename_i d1 o1 h3
          split at hq
          · rename_i r' h4
            cases hq
            obtain ⟨v, hv, rv⟩ := E.slot i d o pn h0
            refine ⟨v, hv, F, e, e1, r, E, h2, fun y H1 po => ?_⟩
            have rr := po.rrs
            have fl : ∀ G H, RR P G H v d := fun G H => by
              have := rv.rr.fact
              cases d with
              | non => cases this; exact .inl .non
              | bl b => cases this; exact .inl (.bl b)
              | int b => cases this; exact .inl (.int b)
              | str b => cases this; exact .inl (.str b)
              | _ => cases hfl
            have rr2 : RRs P (hide (Us (UsR F [y] [r]) e1 σ) H1) H1 [v, y] [d, r.1] := .cons (fl _ _) rr
            refine ⟨_, _, _, fun a z => po.env.there z, rr2, h4, fun w H2 re => ?_⟩
            exact q _ _ ((po.prim re).store h3 rfl)
          · cases hq
        · cases hq
      · cases hq
    · cases hq
  · cases hq)⟩
/-- .. of an item of a list -/
theorem get_list : PGet X (fun o i H Q => ∃ p vs k v, o = .ref p ∧ i = .int k ∧ H p = some (.lst vs) ∧ 0 ≤ k ∧ vs[k.toNat]? = some v ∧ Q v H) := by
  intro pins s σ H o i ov iv Q I ro ri ⟨p, vs, k, v, e1, e2, hp, hk, hv, q⟩
  subst e1 e2
  cases ro
  obtain ⟨t, rfl⟩ := ri
  obtain ⟨its, n, r, ho, hz⟩ := I.lst hp
  obtain ⟨u, hu, rv⟩ := r.get hv
  have hl := r.length
  have hlt : k.toNat < vs.length := (List.getElem?_eq_some_iff.mp hv).1
  have hn := line63
  exact wpAny_getItem_list (show s.heap.IsList p its.toArray from ⟨_, ho, rfl, _, rfl⟩) hk (by omega) (by simpa using hu) ⟨v, H, I, rv, q⟩
theorem s_augS {o ix ex : Expr} {x : Nat} {f g : EF} {op : Operator} {p : List D → Option R} {pos tpos : Pos} (ho : PE X o (tVar x)) (hi : PE X ix (semE P C f)) (he : PE X ex (semE P C g)) (hp : PIp X op (ipR P p))
    (ha : ∀ ov iv new, augStore ix ov iv new = (do holding [new, ov, iv] (setItem ov iv new); release [new, ov, iv] []; pure .next)) : PS X (.AugAssign (.Subscript o ix tpos) op ex pos) (semS P C (sAugS x f p g)) :=
  ⟨fun pins s σ H D I ⟨F, e, out, E, hq, q⟩ => (ps_augS ho hi get_list he hp set_list ha).run pins s σ H D I (by
    unfold sAugS at hq
    split at hq
    · rename_i d0 h0
      split at hq
      · rename_i e0 k ok h1
        split at hq
        · rename_i d h2
          split at hq
          · rename_i e1 r h3
            split at hq
            · rename_i r' h4
              split at hq
              · rename_i xs pn h5
                split at hq
                · rename_i hc
                  cases hq
                  obtain ⟨d1, o1, p1, hs⟩ : ∃ (d1 : VS.D) (o1 p1 : Bool), e[x]? = some (Sl.val d1 o1 p1) := by
                    unfold readAt at h0
                    split at h0
                    · rename_i d' o' p' z; exact ⟨d', o', p', z⟩
                    · cases h0
                  obtain ⟨w, hw, _⟩ := E.slot x d1 o1 p1 hs
                  refine ⟨w, hw, F, e, e0, _, E, h1, fun y H1 po => ?_⟩
                  cases po.rv.one.rr.int
                  have pA := po.drop
                  unfold itemAt at h2
                  split at h2
                  · rename_i ys pm h6
                    split at h2
                    · rename_i hk
                      obtain ⟨w', hw', ro⟩ := pA.env0.slot x _ true pm h6
                      rw [hw] at hw'
                      cases hw'
                      obtain ⟨a, rfl, ro⟩ := ro
                      cases ro with
                      | @lst vs _ hA lA rA =>
                        obtain ⟨vd, hvd, rvd⟩ := rA.get h2
                        refine ⟨a, vs, k, vd, rfl, rfl, hA, hk, hvd, F, e0, e1, r, pA.env0, h3, fun y2 H2 po2 => ?_⟩
                        have rr2 : RRs P (hide (Us (UsR F [y2] [r]) e1 σ) H2) H2 [vd, y2] [d, r.1] := .cons (.inl (rvd.grow po2.gr)) po2.rrs
                        refine ⟨_, _, _, fun a z => po2.env.there z, rr2, h4, fun z H3 re => ?_⟩
                        have pB := pA.seq (po2.prim re)
                        have rv := pB.rv.one
                        obtain ⟨d', o'⟩ := r'
                        have ho' : o' = false := hc.2
                        subst ho'
                        have pC := pB.drop
                        have rv : RepF P (hide (Us F e1 σ) H3) z d' := by
                          have z1 := pB.rv.one
                          rw [usR_noOwn] at z1
                          exact z1
                        obtain ⟨w2, hw2, ro2⟩ := pC.env0.slot x _ true pn h5
                        rw [hw] at hw2
                        cases hw2
                        obtain ⟨a2, e2, ro2⟩ := ro2
                        cases e2
                        cases ro2 with
                        | @lst vs2 _ hA2 lA2 rA2 =>
                          have hj : ixN vs2.length k = some k.toNat := by
                            have hc1 := hc.1
                            have hl2 := rA2.length
                            unfold ixN
                            rw [if_pos hk, if_pos (by omega)]
                          refine ⟨a, vs2, k, k.toNat, rfl, rfl, hA2, hj, ?_⟩
                          obtain ⟨E3, gr3, fr3⟩ := pC.env0.change (d' := .lst (xs.set k.toNat d')) h5 hw (o := .lst (vs2.set k.toNat z)) (.lst upd_same (by rw [List.length_set]; exact lA2) (RepFs.set rv _ rA2))
                          exact q _ _ (pC.seq (.set0 E3 fr3 gr3 (.set h5 fun z => ⟨z, rfl⟩)))
                    · cases h2
                  · cases h2
                · cases hq
              · cases hq
            · cases hq
          · cases hq
        · cases hq
      · cases hq
    · cases hq)⟩
end VS

/-! VLoop: while, for, what is walked, list comprehensions, lists' methods. -/
namespace VS
open PySem PySem.Spec PyProof.Rows L2
variable {P : Pg} {C : CT} {X : Cx}

theorem s_while {c : Expr} {body : List Stmt} {f : EF} {b : SF} {pos : Pos} (hp : PassesOwn (model X.prog X.w) X.A X.env X.xe) (hc : PT X c (semT P C f)) (hb : PSs X body (semS P C b)) : PS X (.While c body [] pos) (semS P C (sWhile f b)) :=
  ⟨fun pins s σ H Dn I ⟨F, e, out, E, hq, q⟩ => (ps_while hp hc hb).run pins s σ H Dn I (by
    refine ⟨fun m σ1 H1 => ∃ e1, Post P F e σ H [] e1 σ1 [] [] H1 ∧ whileGo f b C m e1 = some out, ⟨TURNS, e, .nil E, hq⟩, ?_⟩
    rintro m σ1 H1 ⟨e1, p1, h1⟩
    cases m with
    | zero => cases h1
    | succ n =>
      unfold whileGo at h1
      split at h1
      · rename_i e2 o2 h2
        refine ⟨F, e1, e2, true, o2, p1.env0, h2, fun H2 p2 => ?_⟩
        dsimp only
        rw [if_pos rfl]
        refine ⟨fun σ' H' => ∃ e3, Post P F e σ H [] e3 σ' [] [] H' ∧ whileGo f b C n e3 = some out, fun σ' H' ⟨e3, p3, h3⟩ => ⟨n, Nat.lt_succ_self n, e3, p3, h3⟩, ?_⟩
        have p12 := p1.seq p2
        split at h1
        · rename_i e3 h3
          exact ⟨F, e2, _, p2.env0, h3, fun σ' H' po => ⟨e3, p12.seq po, h1⟩⟩
        · rename_i e3 h3
          exact ⟨F, e2, _, p2.env0, h3, fun σ' H' po => ⟨e3, p12.seq po, h1⟩⟩
        · rename_i e3 h3
          cases h1
          exact ⟨F, e2, _, p2.env0, h3, fun σ' H' po => q σ' H' (p12.seq po)⟩
        · rename_i e3 r h3
          cases h1
          exact ⟨F, e2, _, p2.env0, h3, fun v σ' H' po => q v σ' H' (p12.seq po)⟩
        · cases h1
      · rename_i e2 o2 h2
        cases h1
        refine ⟨F, e1, e2, false, o2, p1.env0, h2, fun H2 p2 => ?_⟩
        dsimp only
        rw [if_neg Bool.false_ne_true]
        exact q _ _ (p1.seq p2)
      · cases h1)⟩

/-! ### what is walked -/
/-- at any later state: the items come, one by one; then it stops -/
def Walk (P : Pg) (J : It) (xs : List D) (Fx : Pr) (G0 H0 : Hp) : Prop := ∀ (U : Pr) (H : Hp), (∀ a, Fx a → U a) → (∀ a, U a → H a ≠ none) → Grow G0 (hide U H) → (∀ a, Fx a → H a = H0 a) →
  (∀ (i : Nat) (d : D), xs[i]? = some d → J.go i H ∧ ∀ x H', J.yld i H x H' → Same H H' ∧ RepF P (hide U H') x d) ∧ ∀ i, xs.length ≤ i → J.stop i H
/-- the frame holds what the arguments own -/
def Holds (e : VE) (σ : St) (F : Pr) (vs : List V) (rs : List R) (Fx : Pr) : Prop := ∀ (k : Nat) (a : Addr), vs[k]? = some (.ref a) → (∀ ds o, rs[k]? ≠ some (D.wk ds, o)) → Us (UsR F vs rs) e σ a → Fx a
def semI (P : Pg) (C : CT) (it : IF) : TI := fun σ H Rr => ∃ (F : Pr) (e e1 : VE) (rs : List R) (xs : List D), EnvOk P F e σ H ∧ vArgs it.args C e = some (e1, rs) ∧ it.items (rs.map (·.1)) = some xs ∧
  ∀ J vs H1, Post P F e σ H (it.args.map isEx) e1 σ vs rs H1 → (∀ Fx, Holds e1 σ F vs rs Fx → Walk P J xs Fx (hide (Us (UsR F vs rs) e1 σ) H1) H1) → xs.length ≤ LIM → Rr J H1

/-- a list or a tuple -/
theorem walk_lst {K : PySem.W.Frag} {U0 : Pr} {H0 : Hp} {a : Addr} {ds : List D} {Fx : Pr} (h : RR P (hide U0 H0) H0 (.ref a) (.lst ds)) (hf : U0 a → Fx a) : Walk P (Itl K a) ds Fx (hide U0 H0) H0 := by
  intro U H hFU al g hfr
  obtain ⟨vs, hv, ra⟩ : ∃ vs, H a = some (.lst vs) ∧ RepFs P (hide U H) vs ds := by
    rcases h with h | ⟨p, e, h⟩
    · cases h with
      | lst h _ r => exact ⟨_, (hide_some (g.ex a _ rfl h)).2, r.grow g⟩
    · cases e
      cases h with
      | @lst vs _ h _ r =>
        by_cases hu : U0 a
        · exact ⟨vs, by rw [hfr a (hf hu)]; exact h, r.grow g⟩
        · exact ⟨vs, (hide_some (g.ex a _ rfl (by rw [hide_out hu]; exact h))).2, r.grow g⟩
  refine ⟨fun i d hd => ?_, fun i hi => ⟨vs, .of hv, by rw [ra.length]; exact hi⟩⟩
  obtain ⟨w, hw, rw'⟩ := ra.get hd
  refine ⟨⟨vs, w, .of hv, hw⟩, fun x H' hy => ?_⟩
  obtain ⟨rfl, hy⟩ := hy
  have := hy vs (.of hv)
  rw [hw] at this
  cases this
  exact ⟨.refl _, rw'⟩
theorem walk_tup {K : PySem.W.Frag} {U0 : Pr} {H0 : Hp} {a : Addr} {ds : List D} {Fx : Pr} (h : RR P (hide U0 H0) H0 (.ref a) (.tup ds)) : Walk P (Itt K a) ds Fx (hide U0 H0) H0 := by
  intro U H hFU al g hfr
  obtain ⟨vs, hv, ra⟩ : ∃ vs, H a = some (.tup vs) ∧ RepFs P (hide U H) vs ds := by
    rcases h with h | ⟨p, e, h⟩
    · cases h with
      | tup h _ r => exact ⟨_, (hide_some (g.ex a _ rfl h)).2, r.grow g⟩
    · cases h
  refine ⟨fun i d hd => ?_, fun i hi => ⟨vs, .of hv, by rw [ra.length]; exact hi⟩⟩
  obtain ⟨w, hw, rw'⟩ := ra.get hd
  refine ⟨⟨vs, w, .of hv, hw⟩, fun x H' hy => ?_⟩
  obtain ⟨rfl, hy⟩ := hy
  have := hy vs (.of hv)
  rw [hw] at this
  cases this
  exact ⟨.refl _, rw'⟩
theorem walk_rng {lo : Int} {n : Nat} {Fx : Pr} {G0 H0 : Hp} : Walk P (Itr lo n) ((List.range n).map fun (k : Nat) => D.int (lo + k)) Fx G0 H0 := by
  intro U H hFU al g hfr
  refine ⟨fun i d hd => ?_, fun i hi => by rw [List.length_map, List.length_range] at hi; exact hi⟩
  have hi : i < n := by
    have := (List.getElem?_eq_some_iff.mp hd).1
    rw [List.length_map, List.length_range] at this
    exact this
  rw [List.getElem?_map, List.getElem?_range hi] at hd
  cases hd
  exact ⟨hi, fun x H' hy => by obtain ⟨rfl, rfl⟩ := hy; exact ⟨.refl _, .int _⟩⟩
/-- an argument alone -/
theorem semAR_one {x : AR} {σ : L2.St} {H : Hp} {F : Pr} {e e1 : VE} {rs : List R} {Q : VK} (E : EnvOk P F e σ H) (h : vArgs [x] C e = some (e1, rs)) (q : ∀ v H', Post P F e σ H [isEx x] e1 σ [v] rs H' → Q v H') : semAR P C x σ H Q := by
  have := args_ok (Q := fun vs H' => ∃ v, vs = [v] ∧ Q v H') [x] E h fun vs H' po => by
    have hl : ∃ v, vs = [v] := by
      have hp : RVs P _ H' e1 σ [isEx x] vs rs := po.rv
      cases x with
      | nm i => cases hp with | nm _ _ r => cases r; exact ⟨_, rfl⟩
      | ex f => cases hp with | ex _ r => cases r; exact ⟨_, rfl⟩
    obtain ⟨v, rfl⟩ := hl
    exact ⟨v, rfl, q v H' po⟩
  cases x with
  | nm i =>
    obtain ⟨v, hv, w, e, q⟩ := this
    cases e
    exact ⟨v, hv, q⟩
  | ex f =>
    obtain ⟨F', e', e'', r, E', h', k⟩ := this
    exact ⟨F', e', e'', r, E', h', fun v H' po => by
      obtain ⟨w, e, q⟩ := k v H' po
      cases e
      exact q⟩
/-- for .. in a list, a tuple: which one it is, is known ahead -/
theorem i_seq {tg it : Expr} {x : AR} (h : PE X it (semAR P C x)) (hK : X.K = P.K) : PI X tg it (semI P C ⟨[x], itSeq⟩) := ⟨fun pins s σ H Rr I ⟨F, e, e1, rs, xs, E, h1, h2, q⟩ => by
  have h1 : vArgs [x] C e = some (e1, rs) := h1
  obtain ⟨r, rfl⟩ : ∃ r, rs = [r] := by
    cases rs with
    | nil => cases h2
    | cons r rs => cases rs with
      | nil => exact ⟨r, rfl⟩
      | cons _ _ =>
        have h2 : itSeq (r.1 :: _ :: _) = some xs := h2
        unfold itSeq at h2
        split at h2 <;> simp_all
  have h2 : itSeq [r.1] = some xs := h2
  obtain ⟨d, o⟩ := r
  unfold itSeq at h2
  split at h2
  · rename_i ys z
    injection z with z _
    have z : d = .lst ys := z
    subst z
    cases h2
    refine (pi_list h).run pins s σ H Rr I (semAR_one E h1 fun v H1 po => ?_)
    have rr := po.rrs
    cases rr with
    | cons rr _ =>
      obtain ⟨a, vs, rfl, ha, ra, la⟩ := RR.lst rr
      exact ⟨a, rfl, ⟨vs, .of ha⟩, q (Itl X.K a) _ H1 po (fun Fx hx => walk_lst rr fun u => hx 0 a rfl (fun ds o z => by cases z) u) (by rw [← ra.length]; exact la)⟩
  · rename_i ys z
    injection z with z _
    have z : d = .tup ys := z
    subst z
    cases h2
    refine (pi_tup h).run pins s σ H Rr I (semAR_one E h1 fun v H1 po => ?_)
    have rr := po.rrs
    cases rr with
    | cons rr _ =>
      obtain ⟨a, vs, rfl, ha, ra, la⟩ := RR.tup rr
      exact ⟨a, rfl, ⟨vs, .of ha⟩, q (Itt X.K a) _ H1 po (fun Fx hx => walk_tup rr) (by rw [← ra.length]; exact la)⟩
  · cases h2⟩
theorem i_rng1 {tg a : Expr} {f : EF} {p pos : Pos} (hg : Gl X "range") (hm : X.mg "range" = none) (ha : PA X [a] (semL P C [.ex f])) (hs : starEach [a] X.env = [(false, eval a X.env)]) : PI X tg (.Call (.Name "range" p) [a] [] pos) (semI P C ⟨[.ex f], itRng1⟩) :=
  ⟨fun pins s σ H Rr I ⟨F, e, e1, rs, xs, E, h1, h2, q⟩ => (pi_range1 hg hm ha hs).run pins s σ H Rr I (args_ok [.ex f] E h1 fun vs H1 po => by
    have h2 : itRng1 (rs.map (·.1)) = some xs := h2
    unfold itRng1 at h2
    split at h2
    · rename_i n z
      split at h2
      · rename_i hc
        cases h2
        have rr := po.rrs
        rw [z] at rr
        obtain ⟨v, rfl, rr⟩ := rr.one
        cases rr.int
        refine ⟨n, rfl, hc.2.1, hc.1, q _ _ H1 po (fun Fx hx => ?_) (by rw [List.length_map, List.length_range]; have := hc.2.2; show _ ≤ 16777216; have : (LIM : Int) = 16777216 := rfl; omega)⟩
        have := walk_rng (P := P) (lo := 0) (n := n.toNat) (Fx := Fx) (G0 := hide (Us (UsR F [V.int n] rs) e1 σ) H1) (H0 := H1)
        simpa using this
      · cases h2
    · cases h2)⟩
theorem i_rng2 {tg a b : Expr} {f g : EF} {p pos : Pos} (hg : Gl X "range") (hm : X.mg "range" = none) (ha : PA X [a, b] (semL P C [.ex f, .ex g])) (hs : starEach [a, b] X.env = [(false, eval a X.env), (false, eval b X.env)]) (hs2 : starEach [b] X.env = [(false, eval b X.env)]) :
    PI X tg (.Call (.Name "range" p) [a, b] [] pos) (semI P C ⟨[.ex f, .ex g], itRng2⟩) :=
  ⟨fun pins s σ H Rr I ⟨F, e, e1, rs, xs, E, h1, h2, q⟩ => (pi_range2 hg hm ha hs hs2).run pins s σ H Rr I (args_ok [.ex f, .ex g] E h1 fun vs H1 po => by
    have h2 : itRng2 (rs.map (·.1)) = some xs := h2
    unfold itRng2 at h2
    split at h2
    · rename_i i j z
      split at h2
      · rename_i hc
        cases h2
        have rr := po.rrs
        rw [z] at rr
        obtain ⟨v, w, rfl, r1, r2⟩ := rr.two
        cases r1.int; cases r2.int
        exact ⟨i, j, rfl, ⟨hc.1, hc.2.1, hc.2.2.1, hc.2.2.2.1⟩, q _ _ H1 po (fun Fx hx => walk_rng) (by rw [List.length_map, List.length_range]; have := hc.2.2.2.2; show _ ≤ 16777216; have : (LIM : Int) = 16777216 := rfl; omega)⟩
      · cases h2
    · cases h2)⟩

/-! ### names lent and given back -/
def lentA (e : VE) (σ : St) (ln : List Nat) : Pr := fun a => ∃ i ∈ ln, Own e σ i a
theorem lends_own : ∀ {as : List AR} {e : VE} {i : Nat}, i ∈ lends e as → isOwn e i = true
  | .nm j :: r, e, i, h => by
    unfold lends at h
    by_cases ho : isOwn e j = true
    · rw [if_pos ho] at h
      rcases List.mem_cons.mp h with rfl | h
      · exact ho
      · exact lends_own h
    · rw [if_neg ho] at h
      exact lends_own h
  | .ex f :: r, e, i, h => lends_own (as := r) h
theorem isOwn_at {e : VE} {i : Nat} (h : isOwn e i = true) : ∃ d p, e[i]? = some (.val d true p) := by
  unfold isOwn at h
  split at h
  · rename_i d p z; exact ⟨d, p, z⟩
  · cases h
theorem lendAll_get {e : VE} : ∀ {ln : List Nat} {i : Nat}, i ∉ ln → (lendAll e ln)[i]? = e[i]?
  | [], _, _ => rfl
  | j :: r, i, h => by
    unfold lendAll
    rw [get_set_ne (fun z => h (by rw [z]; exact List.mem_cons_self))]
    exact lendAll_get fun z => h (List.mem_cons_of_mem _ z)
/-- two frames together -/
def Or2 (F Z : Pr) : Pr := fun a => F a ∨ Z a
theorem or2_plus {F Z : Pr} {a : Addr} : Or2 (Plus F a) Z = Plus (Or2 F Z) a := funext fun x => propext (by
  constructor
  · rintro ((z | z) | z)
    · exact .inl (.inl z)
    · exact .inr z
    · exact .inl (.inr z)
  · rintro ((z | z) | z)
    · exact .inl (.inl z)
    · exact .inr z
    · exact .inl (.inr z))
theorem or2_none {F : Pr} : Or2 F (fun _ => False) = F := funext fun x => propext ⟨fun z => z.elim id False.elim, .inl⟩
theorem lend_all {F : Pr} {e : VE} {σ : St} {H : Hp} (E : EnvOk P F e σ H) : ∀ (ln : List Nat), ln.Nodup → (∀ i ∈ ln, isOwn e i = true) →
    ∃ F2 : Pr, EnvOk P F2 (lendAll e ln) σ H ∧ Us F2 (lendAll e ln) σ = Us F e σ ∧ (∀ a, F2 a ↔ F a ∨ lentA e σ ln a) ∧ (∀ i ∈ ln, (lendAll e ln)[i]? = some .lent) ∧
    ∀ (Z : Pr) (e' : VE) (σ' : St) (H' : Hp), (∀ a, F2 a → ¬ Z a) → EnvOk P (Or2 F2 Z) e' σ' H' → Stay (lendAll e ln) σ e' σ' → (∀ a, F2 a → H' a = H a) → Grow (hide (Us F e σ) H) (hide (Us (Or2 F2 Z) e' σ') H') →
      EnvOk P (Or2 F Z) (putBack e e' ln) σ' H' ∧ Us (Or2 F Z) (putBack e e' ln) σ' = Us (Or2 F2 Z) e' σ' ∧ Stay e σ (putBack e e' ln) σ'
  | [], _, _ => ⟨F, E, rfl, fun a => ⟨.inl, fun z => z.elim id fun ⟨_, h, _⟩ => (by cases h)⟩, fun _ h => (by cases h), fun Z e' σ' H' _ E' st _ _ => ⟨E', rfl, st⟩⟩
  | i :: r, nd, ow => by
    obtain ⟨hi, hr⟩ := List.nodup_cons.mp nd
    obtain ⟨F2, E2, us, hF2, hl, bk⟩ := lend_all E r hr fun j hj => ow j (List.mem_cons_of_mem _ hj)
    obtain ⟨d, p, h0⟩ := isOwn_at (ow i List.mem_cons_self)
    have h0' : (lendAll e r)[i]? = some (.val d true p) := by rw [lendAll_get hi]; exact h0
    obtain ⟨v, hv, a, rfl, ro⟩ := E.slot i d true p h0
    have own : Own e σ i a := ⟨d, p, h0, hv⟩
    obtain ⟨E3, us3⟩ := E2.lend h0' hv
    refine ⟨Plus F2 a, E3, us3.trans us, fun x => ?_, fun j hj => ?_, fun Z e' σ' H' hZ E' st fr gr => ?_⟩
    · constructor
      · rintro (z | rfl)
        · rcases (hF2 x).mp z with z | ⟨j, hj, z⟩
          · exact .inl z
          · exact .inr ⟨j, List.mem_cons_of_mem _ hj, z⟩
        · exact .inr ⟨i, List.mem_cons_self, own⟩
      · rintro (z | ⟨j, hj, z⟩)
        · exact .inl ((hF2 x).mpr (.inl z))
        · rcases List.mem_cons.mp hj with rfl | hj
          · obtain ⟨_, _, _, z⟩ := z
            rw [hv] at z
            cases z
            exact .inr rfl
          · exact .inl ((hF2 x).mpr (.inr ⟨j, hj, z⟩))
    · rcases List.mem_cons.mp hj with rfl | hj
      · exact get_set_self h0'
      · unfold lendAll
        rw [get_set_ne (fun z => hi (by rw [z]; exact hj))]
        exact hl j hj
    · -- the slot i comes back first
      have hli : (lendAll e (i :: r))[i]? = some .lent := get_set_self h0'
      obtain ⟨hs, s', hs', f', l'⟩ := st.fix i .lent hli rfl
      have e1 : s' = .lent := by cases s' <;> first | rfl | (cases l')
      subst e1
      rw [or2_plus] at E' gr
      have na : ¬ Or2 F2 Z a := fun z => z.elim (fun z => E2.dj i a ⟨d, p, h0', hv⟩ z) fun z => hZ a (.inr rfl) z
      have roA : RepO P (hide (Us (Plus (Or2 F2 Z) a) e' σ') H') H' a d := ro.grow gr (fr a (.inr rfl))
      obtain ⟨E4, us4⟩ := E'.back na hs' (by rw [hs]; exact hv) roA
      have st4 : Stay (lendAll e r) σ (e'.set i (.val d true p)) σ' := by
        refine ⟨by rw [List.length_set, st.len]; show ((lendAll e r).set i .lent).length = _; rw [List.length_set], fun j t ht ft => ?_⟩
        by_cases hj : j = i
        · subst hj
          rw [h0'] at ht
          cases ht
          exact ⟨hs, _, get_set_self hs', ft, rfl⟩
        · have ht' : (lendAll e (i :: r))[j]? = some t := by
            unfold lendAll
            rw [get_set_ne (Ne.symm hj)]
            exact ht
          obtain ⟨k1, t', k2, k3, k4⟩ := st.fix j t ht' ft
          exact ⟨k1, t', by rw [get_set_ne (Ne.symm hj)]; exact k2, k3, k4⟩
      obtain ⟨E5, us5, st5⟩ := bk Z _ σ' H' (fun x z => hZ x (.inl z)) E4 st4 (fun x z => fr x (.inl z)) (by rw [us4]; exact gr)
      have pb : putBack e e' (i :: r) = putBack e (e'.set i (.val d true p)) r := by
        show (match e[i]? with | some s => putBack e (e'.set i s) r | none => putBack e e' r) = _
        rw [h0]
      rw [pb, or2_plus]
      exact ⟨E5, us5.trans us4, st5⟩

/-- the owned names among the arguments are lent, the owned results are held -/
theorem holds_lend {F : Pr} {e e1 : VE} {σ : St} {H H1 : Hp} {as : List AR} {vs : List V} {rs : List R} (po : Post P F e σ H (as.map isEx) e1 σ vs rs H1) {F2 : Pr} (h : ∀ a, UsR F vs rs a ∨ lentA e1 σ (lends e1 as) a → F2 a) : Holds e1 σ F vs rs F2 := by
  intro k a hv hw hu
  have key : ∀ (as : List AR) (vs : List V) (rs : List R) (k : Nat) (G : Hp), RVs P G H1 e1 σ (as.map isEx) vs rs → vs[k]? = some (.ref a) → (∃ r, rs[k]? = some r ∧ RV P G H1 (.ref a) r) ∨ ∃ i d o p, rs[k]? = some (d, false) ∧ e1[i]? = some (Sl.val d o p) ∧ σ[i]? = some (some (.ref a)) ∧ (o = true → i ∈ lends e1 as) := by
    intro as
    induction as with
    | nil => intro vs rs k G h hv; cases h; simp at hv
    | cons x as ih =>
      intro vs rs k G h hv
      cases x with
      | nm i =>
        cases h with
        | @nm _ v d o p _ vs rs h1 h2 h3 =>
          cases k with
          | zero =>
            simp at hv
            subst hv
            refine .inr ⟨i, d, o, p, rfl, h1, h2, fun ho => ?_⟩
            subst ho
            have : isOwn e1 i = true := by unfold isOwn; rw [h1]
            unfold lends
            rw [if_pos this]
            exact List.mem_cons_self
          | succ k =>
            rcases ih vs rs k G h3 (by simpa using hv) with ⟨r, z1, z2⟩ | ⟨j, d', o', p', z1, z2, z3, z4⟩
            · exact .inl ⟨r, by simpa using z1, z2⟩
            · refine .inr ⟨j, d', o', p', by simpa using z1, z2, z3, fun ho => ?_⟩
              unfold lends
              split
              · exact List.mem_cons_of_mem _ (z4 ho)
              · exact z4 ho
      | ex f =>
        cases h with
        | @ex v r _ vs rs h1 h3 =>
          cases k with
          | zero =>
            simp at hv
            subst hv
            exact .inl ⟨r, rfl, h1⟩
          | succ k =>
            rcases ih vs rs k G h3 (by simpa using hv) with ⟨r, z1, z2⟩ | ⟨j, d', o', p', z1, z2, z3, z4⟩
            · exact .inl ⟨r, by simpa using z1, z2⟩
            · exact .inr ⟨j, d', o', p', by simpa using z1, z2, z3, z4⟩
  have seen : ∀ {d : D}, RepF P (hide (Us (UsR F vs rs) e1 σ) H1) (.ref a) d → (∀ ds, d ≠ .wk ds) → False := fun {d} h n => by
    have no : ∀ {u}, Rd (hide (Us (UsR F vs rs) e1 σ) H1) a u → False := fun r => (rd_hide.mp r).1 hu
    have no2 : ∀ {u}, hide (Us (UsR F vs rs) e1 σ) H1 a = some u → False := fun r => (hide_some r).1 hu
    cases h with
    | lst h _ _ => exact no2 h
    | tup h _ _ => exact no2 h
    | dK h _ _ => exact no h
    | dT h _ _ => exact no h
    | ins _ h _ => exact no2 h
    | wk h _ => exact n _ rfl
  rcases key as vs rs k _ po.rv hv with ⟨⟨d, o⟩, z1, z2⟩ | ⟨i, d, o, p, z1, z2, z3, z4⟩
  · cases o with
    | true => exact h a (.inl (.inr ⟨k, d, hv, z1⟩))
    | false => exact (seen z2 fun ds z => hw ds false (by rw [z1, show d = .wk ds from z])).elim
  · cases o with
    | true => exact h a (.inr ⟨i, z4 rfl, d, p, z2, z3⟩)
    | false =>
      obtain ⟨v, h1, h2⟩ := po.env.slot i d false p z2
      rw [z3] at h1
      cases h1
      exact (seen h2 fun ds z => hw ds false (by rw [z1, show d = .wk ds from z])).elim
end VS

/-! VFor: for, list comprehensions, lists' methods. -/
namespace VS
open PySem PySem.Spec PyProof.Rows L2
variable {P : Pg} {C : CT} {X : Cx}

/-- the heap has grown -/
theorem EnvOk.more {F : Pr} {e : VE} {σ : St} {H H' : Hp} (E : EnvOk P F e σ H) (s : L2.Same H H') : EnvOk P F e σ H' ∧ Grow (hide (Us F e σ) H) (hide (Us F e σ) H') := by
  have gr : Grow (hide (Us F e σ) H) (hide (Us F e σ) H') := grow_hide s fun b z _ => z
  have eq : ∀ a, H a ≠ none → H' a = H a := fun a n => by
    cases q : H a with
    | none => exact (n q).elim
    | some u => exact s a u q
  refine ⟨⟨E.len, fun i d o p h => ?_, E.inj, E.dj, fun a z => by rw [eq a (E.al a z)]; exact E.al a z⟩, gr⟩
  obtain ⟨v, h1, h2⟩ := E.slot i d o p h
  refine ⟨v, h1, h2.grow gr fun a ⟨z1, z2⟩ => eq a (E.there (.inr ⟨i, d, p, ?_, ?_⟩))⟩
  · have z1 : o = true := z1
    rw [← z1]; exact h
  · rw [h1, z2]
theorem Post.more {F : Pr} {e e' : VE} {σ σ' : St} {H H1 H2 : Hp} (p : Post P F e σ H [] e' σ' [] [] H1) (s : L2.Same H1 H2) : Post P F e σ H [] e' σ' [] [] H2 := by
  obtain ⟨E, gr⟩ := p.env0.more s
  refine p.seq (.set0 E (fun a z => ?_) gr (.refl _ _))
  cases q : H1 a with
  | none => exact (p.env0.al a z q).elim
  | some u => exact s a u q

/-- the frame F2 that lends the names ln of e1 -/
structure Lends (P : Pg) (F1 : Pr) (e1 : VE) (σ : St) (H1 : Hp) (ln : List Nat) (F2 : Pr) : Prop where
  env : EnvOk P F2 (lendAll e1 ln) σ H1
  us : Us F2 (lendAll e1 ln) σ = Us F1 e1 σ
  iff : ∀ a, F2 a ↔ F1 a ∨ lentA e1 σ ln a
  bk : ∀ (Z : Pr) (e' : VE) (σ' : St) (H' : Hp), (∀ a, F2 a → ¬ Z a) → EnvOk P (Or2 F2 Z) e' σ' H' → Stay (lendAll e1 ln) σ e' σ' → (∀ a, F2 a → H' a = H1 a) → Grow (hide (Us F1 e1 σ) H1) (hide (Us (Or2 F2 Z) e' σ') H') →
      EnvOk P (Or2 F1 Z) (putBack e1 e' ln) σ' H' ∧ Us (Or2 F1 Z) (putBack e1 e' ln) σ' = Us (Or2 F2 Z) e' σ' ∧ Stay e1 σ (putBack e1 e' ln) σ'
theorem lends_of {F1 : Pr} {e1 : VE} {σ : St} {H1 : Hp} (E : EnvOk P F1 e1 σ H1) {as : List AR} (hnd : (lends e1 as).Nodup) : ∃ F2, Lends P F1 e1 σ H1 (lends e1 as) F2 := by
  obtain ⟨F2, E2, us, hF2, _, bk⟩ := lend_all E (lends e1 as) hnd fun i hi => lends_own hi
  exact ⟨F2, E2, us, hF2, bk⟩
theorem or2_usR {F : Pr} {vs : List V} {rs : List R} : Or2 F (fun a => ∃ k, OwnVs vs rs k a) = UsR F vs rs := rfl
/-- a change of the frame that only shows more -/
theorem EnvOk.less {F F' : Pr} {e : VE} {σ : St} {H : Hp} (E : EnvOk P F e σ H) (h : ∀ a, F' a → F a) : EnvOk P F' e σ H ∧ Grow (hide (Us F e σ) H) (hide (Us F' e σ) H) := by
  have gr1 : Grow (hide (Us F e σ) H) (hide (Us F' e σ) H) := grow_hide (.refl _) fun b z _ => z.elim (fun z => .inl (h b z)) .inr
  exact ⟨⟨E.len, fun i d o pn h => let ⟨v, h1, h2⟩ := E.slot i d o pn h; ⟨v, h1, h2.grow gr1 fun _ _ => rfl⟩, E.inj, fun i a k z => E.dj i a k (h a z), fun a z => E.al a (h a z)⟩, gr1⟩
/-- the end of a loop: the lent names come back, the held results go; a result of the loop's own stays -/
theorem loop_endR {F : Pr} {e e1 e' : VE} {σ σ' : St} {H H1 H' : Hp} {ks : List (Option Nat)} {vs : List V} {rs : List R} {ln : List Nat} {F2 : Pr} {ws : List V} {qs : List R} (po : Post P F e σ H ks e1 σ vs rs H1) (L : Lends P (UsR F vs rs) e1 σ H1 ln F2)
    {ks' : List (Option Nat)} (hks : ∀ G H e σ e2 σ2, RVs P G H e σ ks' ws qs → RVs P G H e2 σ2 ks' ws qs)
    (pL : Post P F2 (lendAll e1 ln) σ H1 ks' e' σ' ws qs H') : Post P F e σ H ks' (putBack e1 e' ln) σ' ws qs H' := by
  have g := pL.gr
  rw [L.us] at g
  obtain ⟨E1, us1, st1⟩ := L.bk (fun a => ∃ k, OwnVs ws qs k a) e' σ' H' (fun a z ⟨k, y⟩ => pL.nf k a y z) pL.env pL.st pL.fr g
  obtain ⟨E2, g2⟩ := E1.less (F' := UsR F ws qs) fun a z => z.elim (fun z => .inl (.inl z)) .inr
  have us1' : Us (Or2 (UsR F vs rs) fun a => ∃ k, OwnVs ws qs k a) (putBack e1 e' ln) σ' = Us (UsR F2 ws qs) e' σ' := us1
  rw [us1'] at g2
  have inF2 : ∀ a, F a → F2 a := fun a z => (L.iff a).mpr (.inl (.inl z))
  refine ⟨E2, hks _ _ e' σ' _ _ ?_, pL.inj, fun k a z y => pL.nf k a z (inF2 a y), fun a z => (pL.fr a (inF2 a z)).trans (po.fr a z), (po.gr.trans g).trans g2, po.st.trans st1⟩
  have rv := pL.rv
  clear hks
  generalize hide (Us (UsR F2 ws qs) e' σ') H' = G at rv g2
  generalize hide (Us (UsR F ws qs) (putBack e1 e' ln) σ') H' = G' at g2
  clear pL E1 E2 us1 us1' g
  induction rv with
  | nil => exact .nil
  | ex r _ ih => exact .ex (r.grow g2 fun _ _ => rfl) ih
  | nm a b _ ih => exact .nm a b ih
theorem loop_end {F : Pr} {e e1 e' : VE} {σ σ' : St} {H H1 H' : Hp} {ks : List (Option Nat)} {vs : List V} {rs : List R} {ln : List Nat} {F2 : Pr} (po : Post P F e σ H ks e1 σ vs rs H1) (L : Lends P (UsR F vs rs) e1 σ H1 ln F2)
    (pL : Post P F2 (lendAll e1 ln) σ H1 [] e' σ' [] [] H') : Post P F e σ H [] (putBack e1 e' ln) σ' [] [] H' :=
  loop_endR po L (fun _ _ _ _ _ _ h => by cases h; exact .nil) pL
theorem loop_end1 {F : Pr} {e e1 e' : VE} {σ σ' : St} {H H1 H' : Hp} {ks : List (Option Nat)} {vs : List V} {rs : List R} {ln : List Nat} {F2 : Pr} {v : V} {r : R} (po : Post P F e σ H ks e1 σ vs rs H1) (L : Lends P (UsR F vs rs) e1 σ H1 ln F2)
    (pL : Post P F2 (lendAll e1 ln) σ H1 [none] e' σ' [v] [r] H') : Post P F e σ H [none] (putBack e1 e' ln) σ' [v] [r] H' :=
  loop_endR po L (fun _ _ _ _ _ _ h => by cases h with | ex a b => cases b; exact .ex a .nil) pL
theorem drop_cons {α : Type} {l : List α} {i : Nat} {x : α} (h : l[i]? = some x) : l.drop i = x :: l.drop (i + 1) := by
  obtain ⟨h1, h2⟩ := List.getElem?_eq_some_iff.mp h
  rw [List.drop_eq_getElem_cons h1, h2]
theorem s_for {tg iter : Expr} {body : List Stmt} {it : IF} {t : TF} {b : SF} {sl : List Nat} {pos : Pos} (hp : PassesOwn (model X.prog X.w) X.A X.env X.xe) (hc : X.calm = true) (hi : PI X tg iter (semI P C it)) (hg : PG X tg (semG P C sl t)) (hb : PSs X body (semS P C b))
    (hs : ∀ x, foldedSetIterable iter X.env x = pure x) : PS X (.For tg iter body [] pos) (semS P C (sFor it t b)) :=
  ⟨fun pins s σ H Dn I ⟨F, e, out, E, hq, q⟩ => (ps_for hp hc hi hg hb hs).run pins s σ H Dn I (by
    unfold sFor at hq
    split at hq
    · rename_i e1 rs h1
      split at hq
      · rename_i xs h2
        split at hq
        · rename_i hnd
          cases hl : loopGo t b C xs (lendAll e1 (lends e1 it.args)) with
          | none => rw [hl] at hq; cases hq
          | some o1 =>
            rw [hl] at hq
            cases hq
            refine ⟨F, e, e1, rs, xs, E, h1, h2, fun J vs H1 po hw _ => ?_⟩
            obtain ⟨F2, L⟩ := lends_of po.env hnd
            have E2 := L.env
            have us := L.us
            have walk := hw F2 (holds_lend po fun a z => (L.iff a).mpr z)
            have fin : ∀ {e' : VE} {σ' : St} {H' : Hp}, Post P F2 (lendAll e1 (lends e1 it.args)) σ H1 [] e' σ' [] [] H' → Post P F e σ H [] (putBack e1 e' (lends e1 it.args)) σ' [] [] H' := fun pL => loop_end po L pL
            have at_ : ∀ {e' : VE} {σ' : St} {H' : Hp}, Post P F2 (lendAll e1 (lends e1 it.args)) σ H1 [] e' σ' [] [] H' → (∀ (i : Nat) (d : VS.D), xs[i]? = some d → J.go i H' ∧ ∀ x H'', J.yld i H' x H'' → Same H' H'' ∧ RepF P (hide (Us F2 e' σ') H'') x d) ∧ ∀ i, xs.length ≤ i → J.stop i H' := fun {e' σ' H'} pL => by
              refine walk (Us F2 e' σ') H' (fun a z => .inl z) (fun a z => pL.env0.there z) ?_ pL.fr
              have g := pL.gr
              rw [us_nil, us] at g
              exact g
            refine ⟨fun i m σ' H' => ∃ e', Post P F2 (lendAll e1 (lends e1 it.args)) σ H1 [] e' σ' [] [] H' ∧ i + m = xs.length ∧ loopGo t b C (xs.drop i) e' = some o1, ⟨xs.length, _, .nil E2, by omega, hl⟩, ?_⟩
            rintro i m σ' H' ⟨e', pL, hm, hgo⟩
            obtain ⟨w1, w2⟩ := at_ pL
            by_cases hi : i < xs.length
            · have hx : xs[i]? = some xs[i] := List.getElem?_eq_getElem hi
              rw [drop_cons hx] at hgo
              obtain ⟨go, yl⟩ := w1 i _ hx
              refine .inr ⟨go, fun σ3 H3 => ∃ e3, Post P F2 (lendAll e1 (lends e1 it.args)) σ H1 [] e3 σ3 [] [] H3 ∧ loopGo t b C (xs.drop (i + 1)) e3 = some o1, fun σ3 H3 ⟨e3, p3, g3⟩ => ⟨m - 1, by omega, e3, p3, by omega, g3⟩, fun x H'' hy => ?_⟩
              obtain ⟨sm, rx⟩ := yl x H'' hy
              have pM := pL.more sm
              unfold loopGo at hgo
              split at hgo
              · rename_i e2 h3
                refine ⟨F2, e', (xs[i], false), e2, flat_E.mpr pM.env0, ?_, (fun a z => nomatch z.1), h3, fun σ2 H2 st2 _ => ?_⟩
                · rw [usR_noOwn]; exact rx
                · rw [usR_noOwn] at st2
                  have pT : Post P F2 (lendAll e1 (lends e1 it.args)) σ H1 [] e2 σ2 [] [] H2 := pM.seq (.set0 st2.env st2.fr st2.gr st2.st)
                  split at hgo
                  · rename_i e3 h4
                    exact ⟨F2, e2, _, st2.env, h4, fun σ3 H3 p3 => ⟨e3, pT.seq p3, hgo⟩⟩
                  · rename_i e3 h4
                    exact ⟨F2, e2, _, st2.env, h4, fun σ3 H3 p3 => ⟨e3, pT.seq p3, hgo⟩⟩
                  · rename_i e3 h4
                    cases hgo
                    exact ⟨F2, e2, _, st2.env, h4, fun σ3 H3 p3 => q σ3 H3 (fin (pT.seq p3))⟩
                  · rename_i e3 r h4
                    cases hgo
                    exact ⟨F2, e2, _, st2.env, h4, fun v σ3 H3 p3 => q v σ3 H3 (loop_end1 po L (pT.seq p3))⟩
                  · cases hgo
              · cases hgo
            · have : i = xs.length := by omega
              subst this
              rw [List.drop_length] at hgo
              cases hgo
              exact .inl ⟨w2 _ (Nat.le_refl _), q σ' H' (fin pL)⟩
        · cases hq
      · cases hq
    · cases hq)⟩
end VS

/-! VLc: list comprehensions. -/
namespace VS
open PySem PySem.Spec PyProof.Rows L2
variable {P : Pg} {C : CT} {X : Cx}

theorem lendAll_length (e : VE) : ∀ ln : List Nat, (lendAll e ln).length = e.length
  | [] => rfl
  | i :: r => by show ((lendAll e r).set i .lent).length = _; rw [List.length_set]; exact lendAll_length e r
theorem wipe_out {σ : L2.St} : ∀ {vs : List Nat} {i : Nat}, i ∉ vs → (wipe σ vs)[i]? = σ[i]?
  | [], _, _ => rfl
  | v :: vs, i, h => by
    unfold wipe
    rw [get_set_ne (fun z => h (by rw [z]; exact List.mem_cons_self))]
    exact wipe_out fun z => h (List.mem_cons_of_mem _ z)
theorem wipe_in {σ : L2.St} : ∀ {vs : List Nat} {i : Nat}, i ∈ vs → i < σ.length → (wipe σ vs)[i]? = some none
  | v :: vs, i, h, hl => by
    unfold wipe
    by_cases hv : v = i
    · subst hv
      exact List.getElem?_set_self (by rw [wipe_length]; exact hl)
    · rw [get_set_ne hv]
      rcases List.mem_cons.mp h with h | h
      · exact (hv h.symm).elim
      · exact wipe_in h hl
theorem wipeE_out {e : VE} : ∀ {vs : List Nat} {i : Nat}, i ∉ vs → (wipeE e vs)[i]? = e[i]?
  | [], _, _ => rfl
  | v :: vs, i, h => by
    unfold wipeE
    rw [get_set_ne (fun z => h (by rw [z]; exact List.mem_cons_self))]
    exact wipeE_out fun z => h (List.mem_cons_of_mem _ z)
theorem wipeE_length (e : VE) : ∀ vs : List Nat, (wipeE e vs).length = e.length
  | [] => rfl
  | v :: vs => by unfold wipeE; rw [List.length_set, wipeE_length e vs]
theorem wipeE_in {e : VE} : ∀ {vs : List Nat} {i : Nat}, i ∈ vs → i < e.length → (wipeE e vs)[i]? = some .no
  | v :: vs, i, h, hl => by
    unfold wipeE
    by_cases hv : v = i
    · subst hv
      exact List.getElem?_set_self (by rw [wipeE_length]; exact hl)
    · rw [get_set_ne hv]
      rcases List.mem_cons.mp h with h | h
      · exact (hv h.symm).elim
      · exact wipeE_in h hl
theorem hides_at {e : VE} {i : Nat} (h : hides e i = true) : e[i]? = some .no ∨ ∃ d p, e[i]? = some (.val d false p) := by
  unfold hides at h
  split at h
  · rename_i z; exact .inl z
  · rename_i d p z; exact .inr ⟨d, p, z⟩
  · cases h
theorem hides_lt {e : VE} {i : Nat} (h : hides e i = true) : i < e.length := by
  rcases hides_at h with h | ⟨d, p, h⟩ <;> exact (List.getElem?_eq_some_iff.mp h).1
theorem own_wipe {e : VE} {σ : St} {own : List Nat} (h : ∀ i ∈ own, hides e i = true) {i : Nat} {a : Addr} : Own (wipeE e own) (wipe σ own) i a ↔ Own e σ i a := by
  by_cases hi : i ∈ own
  · constructor
    · rintro ⟨d, p, h1, _⟩
      rw [wipeE_in hi (hides_lt (h i hi))] at h1
      cases h1
    · rintro ⟨d, p, h1, _⟩
      rcases hides_at (h i hi) with z | ⟨d', p', z⟩ <;> (rw [z] at h1; cases h1)
  · constructor
    · rintro ⟨d, p, h1, h2⟩
      exact ⟨d, p, by rw [wipeE_out hi] at h1; exact h1, by rw [wipe_out hi] at h2; exact h2⟩
    · rintro ⟨d, p, h1, h2⟩
      exact ⟨d, p, by rw [wipeE_out hi]; exact h1, by rw [wipe_out hi]; exact h2⟩
theorem us_wipe {F : Pr} {e : VE} {σ : St} {own : List Nat} (h : ∀ i ∈ own, hides e i = true) : Us F (wipeE e own) (wipe σ own) = Us F e σ := funext fun a => propext ⟨fun z => z.elim .inl fun ⟨i, z⟩ => .inr ⟨i, (own_wipe h).mp z⟩, fun z => z.elim .inl fun ⟨i, z⟩ => .inr ⟨i, (own_wipe h).mpr z⟩⟩
theorem EnvOk.wipe {F : Pr} {e : VE} {σ : St} {H : Hp} {own : List Nat} (E : EnvOk P F e σ H) (h : ∀ i ∈ own, hides e i = true) : EnvOk P F (wipeE e own) (L2.wipe σ own) H := by
  refine ⟨by rw [wipeE_length, wipe_length]; exact E.len, fun i d o p hi => ?_, fun i j a hi hj => E.inj i j a ((own_wipe h).mp hi) ((own_wipe h).mp hj), fun i a hi => E.dj i a ((own_wipe h).mp hi), E.al⟩
  by_cases ho : i ∈ own
  · rw [wipeE_in ho (hides_lt (h i ho))] at hi
    cases hi
  · rw [wipeE_out ho] at hi
    obtain ⟨v, h1, h2⟩ := E.slot i d o p hi
    rw [us_wipe h]
    exact ⟨v, by rw [wipe_out ho]; exact h1, h2⟩
theorem putBack_len {e0 : VE} : ∀ {ln : List Nat} {e : VE}, (putBack e0 e ln).length = e.length
  | [], _ => rfl
  | i :: r, e => by
    unfold putBack
    split
    · rw [putBack_len, List.length_set]
    · exact putBack_len
theorem putBack_out {e0 : VE} : ∀ {ln : List Nat} {e : VE} {i : Nat}, i ∉ ln → (putBack e0 e ln)[i]? = e[i]?
  | [], _, _, _ => rfl
  | j :: r, e, i, h => by
    have h2 : i ∉ r := fun z => h (List.mem_cons_of_mem _ z)
    unfold putBack
    split
    · rw [putBack_out h2, get_set_ne (fun z => h (by rw [z]; exact List.mem_cons_self))]
    · exact putBack_out h2
theorem putBack_in {e0 : VE} {s : Sl} : ∀ {ln : List Nat} {e : VE} {i : Nat}, i ∈ ln → e0[i]? = some s → i < e.length → (putBack e0 e ln)[i]? = some s
  | j :: r, e, i, h, h0, hl => by
    unfold putBack
    by_cases hj : j = i
    · subst hj
      rw [h0]
      dsimp only
      by_cases hr : j ∈ r
      · exact putBack_in hr h0 (by rw [List.length_set]; exact hl)
      · rw [putBack_out hr]
        exact List.getElem?_set_self hl
    · rcases List.mem_cons.mp h with h | h
      · exact (hj h.symm).elim
      · split
        · exact putBack_in h h0 (by rw [List.length_set]; exact hl)
        · exact putBack_in h h0 hl
/-- the hidden names come back -/
theorem EnvOk.unwipe {F : Pr} {e1 eB : VE} {σ : St} {H : Hp} {own : List Nat} (E : EnvOk P F eB (L2.wipe σ own) H) (hl : eB.length = e1.length) (h : ∀ i ∈ own, hides e1 i = true) (hn : ∀ i ∈ own, eB[i]? = some .no)
    (hv : ∀ i ∈ own, ∀ d p, e1[i]? = some (Sl.val d false p) → ∃ v, σ[i]? = some (some v) ∧ RepF P (hide (Us F eB (L2.wipe σ own)) H) v d) :
    EnvOk P F (putBack e1 eB own) σ H ∧ Us F (putBack e1 eB own) σ = Us F eB (L2.wipe σ own) := by
  have ow : ∀ {i a}, Own (putBack e1 eB own) σ i a ↔ Own eB (L2.wipe σ own) i a := fun {i a} => by
    by_cases hi : i ∈ own
    · constructor
      · rintro ⟨d, p, h1, _⟩
        rcases hides_at (h i hi) with z | ⟨d', p', z⟩ <;> (rw [putBack_in hi z (by rw [hl]; exact hides_lt (h i hi))] at h1; cases h1)
      · rintro ⟨d, p, h1, _⟩
        rw [hn i hi] at h1
        cases h1
    · constructor
      · rintro ⟨d, p, h1, h2⟩
        exact ⟨d, p, by rw [putBack_out hi] at h1; exact h1, by rw [wipe_out hi]; exact h2⟩
      · rintro ⟨d, p, h1, h2⟩
        exact ⟨d, p, by rw [putBack_out hi]; exact h1, by rw [wipe_out hi] at h2; exact h2⟩
  have us : Us F (putBack e1 eB own) σ = Us F eB (L2.wipe σ own) := funext fun a => propext ⟨fun z => z.elim .inl fun ⟨i, z⟩ => .inr ⟨i, ow.mp z⟩, fun z => z.elim .inl fun ⟨i, z⟩ => .inr ⟨i, ow.mpr z⟩⟩
  have len := E.len
  rw [wipe_length] at len
  refine ⟨⟨by rw [putBack_len]; exact len, fun i d o p hi => ?_, fun i j a hi hj => E.inj i j a (ow.mp hi) (ow.mp hj), fun i a hi => E.dj i a (ow.mp hi), E.al⟩, us⟩
  rw [us]
  by_cases ho : i ∈ own
  · rcases hides_at (h i ho) with z | ⟨d', p', z⟩
    · rw [putBack_in ho z (by rw [hl]; exact hides_lt (h i ho))] at hi; cases hi
    · rw [putBack_in ho z (by rw [hl]; exact hides_lt (h i ho))] at hi
      cases hi
      obtain ⟨v, h1, h2⟩ := hv i ho _ _ z
      exact ⟨v, h1, h2⟩
  · rw [putBack_out ho] at hi
    obtain ⟨v, h1, h2⟩ := E.slot i d o p hi
    exact ⟨v, by rw [wipe_out ho] at h1; exact h1, h2⟩
/-- a new object, held by the frame -/
theorem EnvOk.alloc {F : Pr} {e : VE} {σ : St} {H : Hp} {a : Addr} {o : HO} (E : EnvOk P F e σ H) (n : H a = none) : EnvOk P (Plus F a) e σ (upd H a o) ∧ Grow (hide (Us F e σ) H) (hide (Us (Plus F a) e σ) (upd H a o)) := by
  have gr : Grow (hide (Us F e σ) H) (hide (Us (Plus F a) e σ) (upd H a o)) := grow_hide (same_upd n) fun b z t => by
    rcases z with (z | rfl) | z
    · exact .inl z
    · exact (t n).elim
    · exact .inr z
  have ne : ∀ b, H b ≠ none → b ≠ a := fun b t z => t (by rw [z]; exact n)
  refine ⟨⟨E.len, fun i d o' p h => ?_, E.inj, fun i b h z => ?_, fun b z => ?_⟩, gr⟩
  · obtain ⟨v, h1, h2⟩ := E.slot i d o' p h
    refine ⟨v, h1, h2.grow gr fun b ⟨z1, z2⟩ => upd_ne (ne b (E.there (.inr ⟨i, d, p, ?_, ?_⟩)))⟩
    · have z1 : o' = true := z1
      rw [← z1]; exact h
    · rw [h1, z2]
  · rcases z with z | rfl
    · exact E.dj i b h z
    · exact E.there (.inr ⟨i, h⟩) n
  · rcases z with z | rfl
    · rw [upd_ne (ne b (E.al b z))]; exact E.al b z
    · rw [upd_same]; exact nofun
/-- an object of the frame is changed -/
theorem EnvOk.frame {F : Pr} {e : VE} {σ : St} {H : Hp} {a : Addr} {o : HO} (E : EnvOk P F e σ H) (f : F a) : EnvOk P F e σ (upd H a o) ∧ hide (Us F e σ) (upd H a o) = hide (Us F e σ) H := by
  have eq : hide (Us F e σ) (upd H a o) = hide (Us F e σ) H := funext fun b => by
    by_cases hb : Us F e σ b
    · rw [hide_in hb, hide_in hb]
    · rw [hide_out hb, hide_out hb, upd_ne fun z => hb (by rw [z]; exact .inl f)]
  refine ⟨⟨E.len, fun i d o' p h => ?_, E.inj, E.dj, fun b z => ?_⟩, eq⟩
  · obtain ⟨v, h1, h2⟩ := E.slot i d o' p h
    rw [eq]
    refine ⟨v, h1, h2.grow (.refl _) fun b ⟨z1, z2⟩ => upd_ne fun z => ?_⟩
    subst z
    refine E.dj i b ⟨d, p, ?_, by rw [h1, z2]⟩ f
    have z1 : o' = true := z1
    rw [← z1]; exact h
  · by_cases hb : b = a
    · rw [hb, upd_same]; exact nofun
    · rw [upd_ne hb]; exact E.al b z

/-! the tests of a comprehension -/
def semTs (P : Pg) (C : CT) (cs : List EF) : TT := fun σ H Q => ∃ (F : Pr) (e e' : VE) (b : Bool), EnvOk P F e σ H ∧ vAll cs C e = some (e', b) ∧ ∀ H', Post P F e σ H [] e' σ [] [] H' → Q b H'
theorem ts_nil : PTs X [] (semTs P C []) := ⟨fun pins s σ H Q I ⟨F, e, e', b, E, h, q⟩ => by
  cases h
  exact pts_nil.run pins s σ H Q I (q H (.nil E))⟩
theorem ts_one {c : Expr} {f : EF} (h : PT X c (semT P C f)) : PTs X [c] (semTs P C [f]) := ⟨fun pins s σ H Q I ⟨F, e, e', b, E, hq, q⟩ => (pts_one h).run pins s σ H Q I (by
  unfold vAll at hq
  split at hq
  · rename_i e1 o1 h1
    cases hq
    exact ⟨F, e, _, _, _, E, h1, q⟩
  · rename_i e1 o1 h1
    cases hq
    exact ⟨F, e, _, _, _, E, h1, q⟩
  · cases hq)⟩

theorem wipe_eq {σ σ2 : L2.St} {own : List Nat} (hl : σ2.length = σ.length) (h : ∀ j, j ∉ own → σ2[j]? = (L2.wipe σ own)[j]?) : L2.wipe σ2 own = L2.wipe σ own := by
  refine List.ext_getElem? fun j => ?_
  by_cases hj : j ∈ own
  · by_cases hlt : j < σ.length
    · rw [wipe_in hj (by rw [hl]; exact hlt), wipe_in hj hlt]
    · rw [List.getElem?_eq_none (by rw [wipe_length, hl]; omega), List.getElem?_eq_none (by rw [wipe_length]; omega)]
  · rw [wipe_out hj, h j hj]
theorem sem_lc {it : IF} {t : TF} {own : List Nat} {cs : List EF} {el : EF} {σ : L2.St} {H : Hp} {Q : VK} (h : semE P C (vLC it t own cs el) σ H Q) : tLc (semI P C it) (semG P C own t) (semTs P C cs) (semE P C el) own σ H Q := by
  obtain ⟨F, e, e', r, E, h1, q⟩ := h
  unfold vLC at h1
  split at h1
  · rename_i e1 rs h2
    split at h1
    · rename_i xs h3
      split at h1
      · rename_i hc
        obtain ⟨hnd, hown⟩ := hc
        rw [List.all_eq_true] at hown
        split at h1
        · rename_i e2 ys h4
          cases h1
          refine ⟨F, e, e1, rs, xs, E, h2, h3, fun J vs H1 po hw hlen D nD => ?_⟩
          obtain ⟨F2, L⟩ := lends_of po.env hnd
          have walk := hw F2 (holds_lend po fun a z => (L.iff a).mpr z)
          generalize hln : lends e1 it.args = ln at h4 hnd L q
          have inLn : ∀ i ∈ own, i ∉ ln := fun i hi z => by
            rw [← hln] at z
            obtain ⟨d, p, z⟩ := isOwn_at (lends_own z)
            rcases hides_at (hown i hi) with y | ⟨d', p', y⟩ <;> (rw [z] at y; cases y)
          have hidL : ∀ i ∈ own, hides (lendAll e1 ln) i = true := fun i hi => by
            have := hown i hi
            unfold hides at this ⊢
            rw [lendAll_get (inLn i hi)]
            exact this
          have lenL : (lendAll e1 ln).length = e1.length := lendAll_length e1 ln
          have notF2 : ∀ a, F2 a → a ≠ D := fun a z y => L.env.al a z (by rw [y]; exact nD)
          obtain ⟨E0, gr0⟩ := L.env.alloc (o := .lst []) nD
          have E1 := E0.wipe hidL
          have usw : Us (Plus F2 D) (wipeE (lendAll e1 ln) own) (L2.wipe σ own) = Us (Plus F2 D) (lendAll e1 ln) σ := us_wipe hidL
          rw [L.us, ← usw] at gr0
          let w0 := wipeE (lendAll e1 ln) own
          let σw := L2.wipe σ own
          let G1 := hide (Us (UsR F vs rs) e1 σ) H1
          let Inv := fun (i : Nat) (H' : Hp) => ∃ (eB : VE) (acc : List VS.D) (av : List V), EnvOk P (Plus F2 D) eB σw H' ∧ Stay w0 σw eB σw ∧ (∀ a, F2 a → H' a = H1 a) ∧ Grow G1 (hide (Us (Plus F2 D) eB σw) H') ∧ H' D = some (.lst av) ∧
            RepFs P (hide (Us (Plus F2 D) eB σw) H') av acc ∧ av.length ≤ i ∧ (∀ j ∈ own, eB[j]? = some .no) ∧ lcGo t own cs el C (xs.drop i) eB acc = some (e2, ys)
          have lenσ : σ.length = e1.length := po.env.len.symm
          refine ⟨fun i m H' => i + m = xs.length ∧ Inv i H', ⟨xs.length, by omega, w0, [], [], E1, .refl _ _, fun a z => upd_ne (notF2 a z), gr0, upd_same, .nil, Nat.le_refl _, fun j hj => wipeE_in hj (hides_lt (hidL j hj)), h4⟩, ?_⟩
          rintro i m H' ⟨hm, eB, acc, av, EB, st, fr, gr, hD, ra, hal, hno, hgo⟩
          have lenB : eB.length = e1.length := by rw [st.len]; show (wipeE (lendAll e1 ln) own).length = _; rw [wipeE_length, lenL]
          by_cases hi : i < xs.length
          · have hx : xs[i]? = some xs[i] := List.getElem?_eq_getElem hi
            rw [drop_cons hx] at hgo
            obtain ⟨go, yl⟩ := (walk (Us (Plus F2 D) eB σw) H' (fun a z => .inl (.inl z)) (fun a z => EB.there z) gr fr).1 i _ hx
            refine .inr ⟨go, fun H3 => Inv (i + 1) H3, fun H3 z => ⟨m - 1, by omega, by omega, z⟩, fun x H'' hy => ?_⟩
            obtain ⟨sm, rx⟩ := yl x H'' hy
            obtain ⟨EM, grM⟩ := EB.more sm
            have frM : ∀ a, Plus F2 D a → H'' a = H' a := fun a z => by
              cases k : H' a with
              | none => exact (EB.al a z k).elim
              | some u => exact sm a u k
            unfold lcGo at hgo
            split at hgo
            · rename_i eT hT
              refine ⟨Plus F2 D, eB, (xs[i], false), eT, flat_E.mpr EM, ?_, (fun a z => nomatch z.1), hT, fun σ2 H2 st2 k2 => ?_⟩
              · rw [usR_noOwn]; exact rx
              · rw [usR_noOwn] at st2
                have len2 : σ2.length = σ.length := by rw [← st2.env.len, st2.st.len, lenB, lenσ]
                have hwipe : L2.wipe σ2 own = L2.wipe σ own := wipe_eq len2 k2
                refine ⟨hwipe, ?_⟩
                -- what stays through the tests and the element
                have keep : ∀ {e3 : VE} {H3 : Hp}, Post P (Plus F2 D) eT σ2 H2 [] e3 σ2 [] [] H3 → (∀ j ∈ own, hides e3 j = true) →
                    EnvOk P (Plus F2 D) (wipeE e3 own) σw H3 ∧ Stay w0 σw (wipeE e3 own) σw ∧ (∀ a, F2 a → H3 a = H1 a) ∧ Us (Plus F2 D) (wipeE e3 own) σw = Us (Plus F2 D) e3 σ2 ∧ Grow G1 (hide (Us (Plus F2 D) e3 σ2) H3) ∧ H3 D = some (.lst av) ∧ RepFs P (hide (Us (Plus F2 D) e3 σ2) H3) av acc ∧ (∀ j ∈ own, (wipeE e3 own)[j]? = some .no) := by
                  intro e3 H3 p3 hid3
                  have g3 := p3.gr
                  rw [us_nil] at g3
                  have gA : Grow (hide (Us (Plus F2 D) eB σw) H') (hide (Us (Plus F2 D) e3 σ2) H3) := (grM.trans st2.gr).trans g3
                  have frA : ∀ a, Plus F2 D a → H3 a = H' a := fun a z => (p3.fr a z).trans ((st2.fr a z).trans (frM a z))
                  have EW := p3.env0.wipe hid3
                  rw [hwipe] at EW
                  have usE : Us (Plus F2 D) (wipeE e3 own) σw = Us (Plus F2 D) e3 σ2 := by
                    have := us_wipe (F := Plus F2 D) (σ := σ2) hid3
                    rw [hwipe] at this
                    exact this
                  have st3 : Stay eB σw e3 σ2 := st2.st.trans p3.st
                  have st4 : Stay w0 σw (wipeE e3 own) σw := by
                    refine ⟨by rw [wipeE_length, st3.len]; exact st.len, fun j s hj hf => ⟨rfl, ?_⟩⟩
                    have hjo : j ∉ own := fun z => by
                      rw [show w0[j]? = some .no from wipeE_in z (hides_lt (hidL j z))] at hj
                      cases hj
                      cases hf
                    obtain ⟨_, s1, k1, k2, k3⟩ := st.fix j s hj hf
                    obtain ⟨_, s2, k4, k5, k6⟩ := st3.fix j s1 k1 k2
                    exact ⟨s2, by rw [wipeE_out hjo]; exact k4, k5, k6.trans k3⟩
                  exact ⟨EW, st4, fun a z => (frA a (.inl z)).trans (fr a z), usE, gr.trans gA, by rw [frA D (.inr rfl)]; exact hD, ra.grow gA, fun j hj => wipeE_in hj (hides_lt (hid3 j hj))⟩
                split at hgo
                · rename_i eC hC
                  refine ⟨Plus F2 D, eT, eC, true, st2.env, hC, fun H3 p3 => ?_⟩
                  dsimp only
                  rw [if_pos rfl]
                  split at hgo
                  · rename_i eE y hE
                    split at hgo
                    · rename_i hid
                      rw [List.all_eq_true] at hid
                      refine ⟨Plus F2 D, eC, eE, y, p3.env0, hE, fun v H4 p4 => ?_⟩
                      obtain ⟨EW, st4, fr4, usE, gr4, hD4, ra4, no4⟩ := keep (p3.seq p4.drop) hid
                      have rv : RepF P (hide (Us (Plus F2 D) eE σ2) H4) v y.1 := RV.frz p4.env p4.rv.one fun a z => p4.nf 0 a (ownVs_cons.mpr (.inl ⟨rfl, z⟩))
                      obtain ⟨EF', eqF⟩ := EW.frame (a := D) (o := .lst (av ++ [v])) (.inr rfl)
                      refine ⟨av, hD4, by show _ < 16777216; have : xs.length ≤ 16777216 := hlen; omega, wipeE eE own, acc ++ [y.1], av ++ [v], EF', st4, fun a z => by rw [upd_ne (notF2 a z)]; exact fr4 a z, ?_, upd_same, ?_, by rw [List.length_append]; show _ + 1 ≤ _; omega, no4, hgo⟩
                      · rw [eqF, usE]; exact gr4
                      · rw [eqF, usE]; exact ra4.append (.cons rv .nil)
                    · cases hgo
                  · cases hgo
                · rename_i eC hC
                  refine ⟨Plus F2 D, eT, eC, false, st2.env, hC, fun H3 p3 => ?_⟩
                  dsimp only
                  rw [if_neg Bool.false_ne_true]
                  split at hgo
                  · rename_i hid
                    rw [List.all_eq_true] at hid
                    obtain ⟨EW, st4, fr4, usE, gr4, hD4, ra4, no4⟩ := keep p3 hid
                    exact ⟨wipeE eC own, acc, av, EW, st4, fr4, by rw [usE]; exact gr4, hD4, by rw [usE]; exact ra4, by omega, no4, hgo⟩
                  · cases hgo
                · cases hgo
            · cases hgo
          · obtain rfl : i = xs.length := by omega
            rw [List.drop_length] at hgo
            cases hgo
            refine .inl ⟨(walk (Us (Plus F2 D) e2 σw) H' (fun a z => .inl (.inl z)) (fun a z => EB.there z) gr fr).2 _ (Nat.le_refl _), q _ H' ?_⟩
            obtain ⟨EU, usU⟩ := EB.unwipe lenB hown hno fun j hj d p hjv => by
              obtain ⟨v, k1, k2⟩ := po.env.slot j d false p hjv
              exact ⟨v, k1, RepF.grow gr k2⟩
            have stU : Stay (lendAll e1 ln) σ (putBack e1 e2 own) σ := by
              refine ⟨by rw [putBack_len, lenB, lenL], fun j s hj hf => ⟨rfl, ?_⟩⟩
              by_cases hjo : j ∈ own
              · rw [lendAll_get (inLn j hjo)] at hj
                exact ⟨s, putBack_in hjo hj (by rw [lenB]; exact hides_lt (hown j hjo)), hf, rfl⟩
              · obtain ⟨_, s1, k1, k2, k3⟩ := st.fix j s (by show (wipeE (lendAll e1 ln) own)[j]? = _; rw [wipeE_out hjo]; exact hj) hf
                exact ⟨s1, by rw [putBack_out hjo]; exact k1, k2, k3⟩
            obtain ⟨EZ, usZ, stZ⟩ := L.bk (fun x => x = D) (putBack e1 e2 own) σ H' notF2 EU stU fr (by
              show Grow _ (hide (Us (Plus F2 D) (putBack e1 e2 own) σ) H')
              rw [usU]; exact gr)
            have nFD : ¬ F D := fun z => notF2 D ((L.iff D).mpr (.inl (.inl z))) rfl
            obtain ⟨EQ, gQ⟩ := EZ.less (F' := UsR F [V.ref D] [(VS.D.lst ys, true)]) fun a z => by
              rcases usR_one.mp z with z | ⟨_, z⟩
              · exact .inl (.inl z)
              · cases z; exact .inr rfl
            have gT : Grow (hide (Us (Plus F2 D) e2 σw) H') (hide (Us (UsR F [V.ref D] [(VS.D.lst ys, true)]) (putBack e1 (putBack e1 e2 own) ln) σ) H') := by
              have : Us (Or2 (UsR F vs rs) fun x => x = D) (putBack e1 (putBack e1 e2 own) ln) σ = Us (Plus F2 D) e2 σw := usZ.trans usU
              rw [this] at gQ
              exact gQ
            refine ⟨EQ, .ex ⟨D, rfl, .lst hD (Nat.le_trans hal hlen) (ra.grow gT)⟩ .nil, fun k l a y z => ?_, fun k a y z => ?_, fun a z => (fr a ((L.iff a).mpr (.inl (.inl z)))).trans (po.fr a z), (po.gr.trans gr).trans gT, po.st.trans stZ⟩
            · rcases ownVs_cons.mp y with ⟨e1', _⟩ | ⟨_, _, y⟩
              · rcases ownVs_cons.mp z with ⟨e2', _⟩ | ⟨_, _, z⟩
                · rw [e1', e2']
                · exact (ownVs_nil z).elim
              · exact (ownVs_nil y).elim
            · rcases ownVs_cons.mp y with ⟨_, _, y⟩ | ⟨_, _, y⟩
              · cases y; exact nFD z
              · exact ownVs_nil y
        · cases h1
      · cases h1
    · cases h1
  · cases h1
theorem e_lc {elt tg iter : Expr} {ifs : List Expr} {scope : Scope} {own : List (Str × Nat)} {pos : Pos} {it : IF} {t : TF} {cs : List EF} {el : EF} (hc : X.calm = true) (hN : X.N.Nodup) (hi : PI X tg iter (semI P C it)) (ok : BlkOk X.N X.env.scope scope own)
    (hg : ∀ (s : Shared) (H : Hp) (C' : Addr) (cl : List (Str × Addr)) (fp : List Addr), PG (X.blk s H scope (compEnvC scope cl C' X.env) fp) tg (semG P C (own.map (·.2)) t)) (ht : ∀ (s : Shared) (H : Hp) (C' : Addr) (cl : List (Str × Addr)) (fp : List Addr), PTs (X.blk s H scope (compEnvC scope cl C' X.env) fp) ifs (semTs P C cs))
    (he : ∀ (s : Shared) (H : Hp) (C' : Addr) (cl : List (Str × Addr)) (fp : List Addr), PE (X.blk s H scope (compEnvC scope cl C' X.env) fp) elt (semE P C el)) (hs : ∀ x, foldedSetIterable iter X.env x = pure x) :
    PE X (.ListComp elt [⟨tg, iter, ifs, 0⟩] scope pos) (semE P C (vLC it t (own.map (·.2)) cs el)) := ⟨fun pins s σ H Q I h => (pe_lc hc hN hi ok hg ht he hs).run pins s σ H Q I (sem_lc h)⟩
theorem s_setLc {i : Nat} {y : Str} {py : Pos} {elt tg iter : Expr} {ifs : List Expr} {scope : Scope} {own : List (Str × Nat)} {pos spos : Pos} {it : IF} {t : TF} {cs : List EF} {el : EF} (hc : X.calm = true) (hN : X.N.Nodup) (hy : X.N[i]? = some y) (hyl : X.env.scope.names.lookup y = some .local)
    (hsw : swapsWith (.ListComp elt [⟨tg, iter, ifs, 0⟩] scope pos) (some (.Name y py)) spos.line X.env = pure true) (hi : PI X tg iter (semI P C it)) (ok : BlkOk X.N X.env.scope scope own)
    (hg : ∀ (s : Shared) (H : Hp) (C' : Addr) (cl : List (Str × Addr)) (fp : List Addr), PG (X.blk s H scope (compEnvC scope cl C' X.env) fp) tg (semG P C (own.map (·.2)) t)) (ht : ∀ (s : Shared) (H : Hp) (C' : Addr) (cl : List (Str × Addr)) (fp : List Addr), PTs (X.blk s H scope (compEnvC scope cl C' X.env) fp) ifs (semTs P C cs))
    (he : ∀ (s : Shared) (H : Hp) (C' : Addr) (cl : List (Str × Addr)) (fp : List Addr), PE (X.blk s H scope (compEnvC scope cl C' X.env) fp) elt (semE P C el)) (hs : ∀ x, foldedSetIterable iter X.env x = pure x) :
    PS X (.Assign [.Name y py] (.ListComp elt [⟨tg, iter, ifs, 0⟩] scope pos) spos) (semS P C (sAsg (tName i) (vLC it t (own.map (·.2)) cs el))) :=
  ⟨fun pins s σ H Dn I ⟨F, e, out, E, hq, q⟩ => (ps_setLc hc hN hy hyl hsw hi ok hg ht he hs).run pins s σ H Dn I (by
    unfold sAsg at hq
    split at hq
    · rename_i e1 r h2
      split at hq
      · rename_i e2 h3
        cases hq
        refine sem_lc ⟨F, e, e1, r, E, h2, fun v H1 po => ?_⟩
        have fin : ∀ s0, e1[i]? = some s0 → Fixed s0 = false → e2 = e1.set i (.val r.1 r.2 false) → Dn.nx (σ.set i (some v)) H1 := fun s0 h0 hf he => by
          subst he
          exact q _ _ (po.store h0 hf)
        unfold tName at h3
        split at h3
        · rename_i h0; exact fin _ h0 rfl (Option.some.inj h3).symm
        · rename_i d o h0; exact fin _ h0 rfl (Option.some.inj h3).symm
        · cases h3
      · cases hq
    · cases hq)⟩
/-- the target's slots may be told as more -/
theorem semG_more {tg : Expr} {t : TF} {s1 s2 : List Nat} (h : PG X tg (semG P C s1 t)) (k : ∀ j ∈ s1, j ∈ s2) : PG X tg (semG P C s2 t) := ⟨fun pins s σ H v u Q I r ⟨F, e, res, e', E, rv, nf, h1, q⟩ =>
  h.run pins s σ H v u Q I r ⟨F, e, res, e', E, rv, nf, h1, fun σ' H' st ks => q σ' H' st fun j hj => ks j fun z => hj (k j z)⟩⟩
end VS

/-! VMeth: lists' methods; several targets at once. -/
namespace VS
open PySem PySem.Spec PyProof.Rows L2
variable {P : Pg} {C : CT} {X : Cx}

/-- a method that changes a list -/
def mutR (P : Pg) (m : List D → List D → Option (List D × D)) : V → List V → Hp → VK → Prop := fun x vs H Q => ∃ (U : Pr) (a : Addr) (av : List V) (xs ds ys : List D) (d : D), x = .ref a ∧ H a = some (.lst av) ∧ av.length ≤ LIM ∧ RepFs P (hide U H) av xs ∧ RepFs P (hide U H) vs ds ∧ m xs ds = some (ys, d) ∧
  ∀ v yv, RepFs P (hide U H) yv ys → yv.length ≤ LIM → RepF P (hide U H) v d → Q v (upd H a (.lst yv))
theorem RepFs.one {G : Hp} {vs : List V} {d : D} (h : RepFs P G vs [d]) : ∃ v, vs = [v] ∧ RepF P G v d := by
  cases h with
  | cons h r => cases r; exact ⟨_, rfl, h⟩
theorem RepFs.none {G : Hp} {vs : List V} (h : RepFs P G vs []) : vs = [] := by cases h; rfl
theorem app_any : MtR X "list.append" (mutR P mAppend) := by
  intro pins s σ H x xs v us Q I rx rs ⟨U, a, av, xd, ds, ys, d, e, ha, la, ra, rd, hm, q⟩
  subst e
  unfold mAppend at hm
  split at hm
  · split at hm
    · rename_i y hl
      cases hm
      obtain ⟨w, rfl, rw'⟩ := rd.one
      have l1 := ra.length
      exact mt_append pins s σ H _ _ v us Q I rx rs ⟨a, av, w, rfl, rfl, ha, by show _ < 16777216; have : xd.length < 16777216 := hl; omega, q _ _ (ra.append rd) (by rw [List.length_append]; show _ + 1 ≤ 16777216; have : xd.length < 16777216 := hl; omega) .non⟩
    · cases hm
  · cases hm
theorem pop_any : MtR X "list.pop" (mutR P mPop) := by
  intro pins s σ H x xs v us Q I rx rs ⟨U, a, av, xd, ds, ys, d, e, ha, la, ra, rd, hm, q⟩
  subst e
  unfold mPop at hm
  split at hm
  · split at hm
    · rename_i y hl
      cases hm
      cases rd.none
      obtain ⟨w, hw, rw'⟩ := ra.get hl
      rw [← ra.length] at hw
      exact mt_pop pins s σ H _ _ v us Q I rx rs ⟨a, av, w, rfl, rfl, ha, hw, q _ _ ra.dropLast (by rw [List.length_dropLast]; omega) rw'⟩
    · cases hm
  · cases hm
theorem popAt_any : MtR X "list.pop" (mutR P mPopAt) := by
  intro pins s σ H x xs v us Q I rx rs ⟨U, a, av, xd, ds, ys, d, e, ha, la, ra, rd, hm, q⟩
  subst e
  unfold mPopAt at hm
  split at hm
  · rename_i i
    split at hm
    · rename_i hc
      split at hm
      · rename_i k hk
        split at hm
        · rename_i y hy
          cases hm
          obtain ⟨w, rfl, rw'⟩ := rd.one
          cases rw'
          obtain ⟨z, hz, rz⟩ := ra.get hy
          exact mt_popAt pins s σ H _ _ v us Q I rx rs ⟨a, av, i, k, z, rfl, rfl, ha, by omega, by omega, by rw [ra.length]; exact hk, hz, q _ _ (ra.eraseIdx _) (Nat.le_trans (len_erase _ _) la) rz⟩
        · cases hm
      · cases hm
    · cases hm
  · cases hm
theorem clear_any : MtR X "list.clear" (mutR P mClear) := by
  intro pins s σ H x xs v us Q I rx rs ⟨U, a, av, xd, ds, ys, d, e, ha, la, ra, rd, hm, q⟩
  subst e
  unfold mClear at hm
  split at hm
  · cases hm
    cases rd.none
    exact mt_clear pins s σ H _ _ v us Q I rx rs ⟨a, av, rfl, rfl, ha, q _ _ .nil (Nat.zero_le _) .non⟩
  · cases hm
theorem extend_any : MtR X "list.extend" (mutR P mExtend) := by
  intro pins s σ H x xs v us Q I rx rs ⟨U, a, av, xd, ds, ys, d, e, ha, la, ra, rd, hm, q⟩
  subst e
  unfold mExtend at hm
  split at hm
  · rename_i zs
    split at hm
    · rename_i hl
      cases hm
      obtain ⟨w, rfl, rw'⟩ := rd.one
      cases rw' with
      | @lst b bv _ hb lb rb =>
        have l1 := ra.length
        have l2 := rb.length
        have hl' : xd.length + zs.length ≤ 16777216 := hl
        exact mt_extend pins s σ H _ _ v us Q I rx rs ⟨a, b, av, bv, rfl, rfl, ha, (hide_some hb).2, by show _ ≤ 16777216; omega, q _ _ (ra.append rb) (by rw [List.length_append]; show _ ≤ 16777216; omega) .non⟩
    · cases hm
  · cases hm
theorem sem_mut {m : List D → List D → Option (List D × D)} {x : Nat} {fs : List EF} {σ : L2.St} {H : Hp} {Q : VK} (h : semE P C (vMut m x fs) σ H Q) :
    ∃ a, σ[x]? = some (some (.ref a)) ∧ (∃ av, H a = some (.lst av)) ∧ semL P C (fs.map .ex) σ H fun vs H' => mutR P m (.ref a) vs H' Q := by
  obtain ⟨F, e, e', r, E, h1, q⟩ := h
  unfold vMut at h1
  split at h1
  · rename_i xs0 p0 h0
    obtain ⟨v, hv, a, rfl, ro⟩ := E.slot x _ true p0 h0
    refine ⟨a, hv, by cases ro with | lst h _ _ => exact ⟨_, h⟩, ?_⟩
    split at h1
    · rename_i e1 rs h2
      split at h1
      · rename_i xs p h3
        split at h1
        · rename_i ys d h4
          cases h1
          refine args_ok _ E h2 fun vs H' po => ?_
          have rf := po.frzs (exs_true fs)
          have pd := po.drop
          obtain ⟨w, hw, b, e2, ro⟩ := pd.env0.slot x _ true p h3
          rw [hv] at hw
          cases hw
          cases e2
          cases ro with
          | @lst av _ ha la ra =>
            refine ⟨Us F e1 σ, a, av, xs, _, ys, d, rfl, ha, la, ra, rf, h4, fun v yv ry ly rv => ?_⟩
            obtain ⟨E3, gr3, fr3⟩ := pd.env0.change (d' := .lst ys) h3 hv (o := .lst yv) (.lst upd_same ly ry)
            exact q _ _ ((pd.seq (.set0 E3 fr3 gr3 (.set h3 fun z => ⟨z, rfl⟩))).flatOf (rv.grow gr3))
        · cases h1
      · cases h1
    · cases h1
  · cases h1
theorem e_mut {m : List D → List D → Option (List D × D)} {id : String} {name : Str} {o a : Expr} {es : List Expr} {x : Nat} {fs : List EF} {apos cpos : Pos} (slot : Slot "list" name id) (hty : typeOf (.builtin id) = pure (.type "method_descriptor")) (hm : MtR X id (mutR P m)) (ho : PE X o (tVar x))
    (ha : PA X (a :: es) (semL P C (fs.map .ex))) (hbase : attributeBase o name X.env (eval o X.env) = eval o X.env)
    (hfew : ((backTo cpos (starEach (a :: es) X.env)).all (fun x => !x.1) && (backToKw cpos (keywordEach [] X.env)).all (fun x => x.1.isSome)
      && decide ((a :: es).length + ([] : List Keyword).length + (if ([] : List Keyword).isEmpty then 0 else 1) < 30)) = true)
    (hline : (apos.endLine == cpos.line) = true) (hs : starEach (a :: es) X.env = (false, eval a X.env) :: starEach es X.env) (hplain : (backTo cpos (starEach es X.env)).any (·.1) = false) :
    PE X (.Call (.Attribute o name apos) (a :: es) [] cpos) (semE P C (vMut m x fs)) := ⟨fun pins s σ H Q I h => (pe_bm PySem.F.plainAttrs_list slot hty hm ho ha hbase hfew hline hs hplain).run pins s σ H Q I (by
  obtain ⟨b, hv, ⟨av, hb⟩, h⟩ := sem_mut h
  exact ⟨.ref b, hv, .inl ⟨rfl, _, .of hb⟩, h⟩)⟩
theorem e_mut0 {m : List D → List D → Option (List D × D)} {id : String} {name : Str} {o : Expr} {x : Nat} {apos cpos : Pos} (slot : Slot "list" name id) (hty : typeOf (.builtin id) = pure (.type "method_descriptor")) (hm : MtR X id (mutR P m)) (ho : PE X o (tVar x))
    (hbase : attributeBase o name X.env (eval o X.env) = eval o X.env) (hline : (apos.endLine == cpos.line) = true) : PE X (.Call (.Attribute o name apos) [] [] cpos) (semE P C (vMut m x [])) := ⟨fun pins s σ H Q I h => (pe_bm0 PySem.F.plainAttrs_list slot hty hm ho hbase hline).run pins s σ H Q I (by
  obtain ⟨b, hv, ⟨av, hb⟩, h⟩ := sem_mut h
  exact ⟨.ref b, hv, .inl ⟨rfl, _, .of hb⟩, h⟩)⟩

/-! ### several targets at once -/
theorem usR_last {F : Pr} {v : V} {r : R} {vs : List V} {rs : List R} : UsR (UsR F vs rs) [v] [r] = UsR F (v :: vs) (r :: rs) := funext fun a => propext (by
  constructor
  · intro h
    rcases usR_one.mp h with (h | ⟨k, h⟩) | h
    · exact .inl h
    · exact .inr ⟨k + 1, ownVs_cons.mpr (.inr ⟨k, rfl, h⟩)⟩
    · exact .inr ⟨0, ownVs_cons.mpr (.inl ⟨rfl, h⟩)⟩
  · rintro (h | ⟨k, h⟩)
    · exact usR_one.mpr (.inl (.inl h))
    · rcases ownVs_cons.mp h with ⟨_, h⟩ | ⟨j, _, h⟩
      · exact usR_one.mpr (.inr h)
      · exact usR_one.mpr (.inl (.inr ⟨j, h⟩)))
structure Pend (P : Pg) (F : Pr) (e : VE) (σ : St) (H : Hp) (vs : List V) (rs : List R) : Prop where
  env : EnvOk P (UsR F vs rs) e σ H
  rv : ∀ (k : Nat) (v : V) (r : R), vs[k]? = some v → rs[k]? = some r → RV P (hide (Us (UsR F vs rs) e σ) H) H v r
  inj : ∀ (i j : Nat) (a : Addr), OwnVs vs rs i a → OwnVs vs rs j a → i = j
  nf : ∀ (k : Nat) (a : Addr), OwnVs vs rs k a → ¬ F a
  len : vs.length = rs.length
theorem RVs.all {G H : Hp} {e : VE} {σ : St} {ks : List (Option Nat)} {vs : List V} {rs : List R} (h : RVs P G H e σ ks vs rs) (hk : ∀ k ∈ ks, k = none) : vs.length = rs.length ∧ ∀ (k : Nat) (v : V) (r : R), vs[k]? = some v → rs[k]? = some r → RV P G H v r := by
  induction h with
  | nil => exact ⟨rfl, fun k v r h => by simp at h⟩
  | ex h _ ih =>
    obtain ⟨l, ih⟩ := ih fun k hk' => hk k (List.mem_cons_of_mem _ hk')
    refine ⟨congrArg (· + 1) l, fun k v r h1 h2 => ?_⟩
    cases k with
    | zero => simp at h1 h2; subst h1 h2; exact h
    | succ k => exact ih k v r (by simpa using h1) (by simpa using h2)
  | nm _ _ _ _ => exact nomatch hk _ List.mem_cons_self
theorem Post.pend {F : Pr} {e e' : VE} {σ σ' : St} {H H' : Hp} {ks : List (Option Nat)} {vs : List V} {rs : List R} (p : Post P F e σ H ks e' σ' vs rs H') (hk : ∀ k ∈ ks, k = none) : Pend P F e' σ' H' vs rs :=
  ⟨p.env, (p.rv.all hk).2, p.inj, p.nf, (p.rv.all hk).1⟩
theorem Pend.head {F : Pr} {e : VE} {σ : St} {H : Hp} {v : V} {r : R} {vs : List V} {rs : List R} (h : Pend P F e σ H (v :: vs) (r :: rs)) : EnvOk P (UsR (UsR F vs rs) [v] [r]) e σ H ∧ RV P (hide (Us (UsR (UsR F vs rs) [v] [r]) e σ) H) H v r ∧ ∀ a, OwnV v r a → ¬ UsR F vs rs a := by
  rw [usR_last]
  refine ⟨h.env, h.rv 0 v r rfl rfl, fun a z y => ?_⟩
  have o0 : OwnVs (v :: vs) (r :: rs) 0 a := ownVs_cons.mpr (.inl ⟨rfl, z⟩)
  rcases y with y | ⟨k, y⟩
  · exact h.nf 0 a o0 y
  · have := h.inj 0 (k + 1) a o0 (ownVs_cons.mpr (.inr ⟨k, rfl, y⟩))
    omega
theorem Pend.tail {F : Pr} {e e1 : VE} {σ σ1 : St} {H H1 : Hp} {v : V} {r : R} {vs : List V} {rs : List R} (h : Pend P F e σ H (v :: vs) (r :: rs)) (st : Step P (UsR (UsR F vs rs) [v] [r]) e σ H (UsR F vs rs) e1 σ1 H1) : Pend P F e1 σ1 H1 vs rs := by
  have g := st.gr
  rw [usR_last] at g
  refine ⟨st.env, fun k w q h1 h2 => (h.rv (k + 1) w q (by simpa using h1) (by simpa using h2)).grow g fun a z => st.fr a (.inr ⟨k, q.1, by rw [h1, z.2], by obtain ⟨q1, q2⟩ := q; have z1 : q2 = true := z.1; rw [h2, z1]⟩), fun i j a hi hj => ?_, fun k a hk => h.nf (k + 1) a (ownVs_cons.mpr (.inr ⟨k, rfl, hk⟩)), by have := h.len; simpa using this⟩
  have := h.inj (i + 1) (j + 1) a (ownVs_cons.mpr (.inr ⟨i, rfl, hi⟩)) (ownVs_cons.mpr (.inr ⟨j, rfl, hj⟩))
  omega
def semGsR (P : Pg) (C : CT) (ts : List TF) : TGs := fun vs σ H Q => ∃ (F : Pr) (e : VE) (rs : List R) (e' : VE), Pend P F e σ H vs rs ∧ tParGo ts C rs e = some e' ∧ ∀ σ' H', Step P (UsR F vs rs) e σ H F e' σ' H' → Q σ' H'
theorem gsR_nil : PGs X [] (semGsR P C []) := ⟨fun pins s σ H vs us Q I r ⟨F, e, rs, e', pd, h1, q⟩ => by
  cases rs with
  | nil =>
    have h1 : some e = some e' := h1
    cases h1
    have hl := pd.len
    obtain rfl : vs = [] := List.eq_nil_of_length_eq_zero hl
    refine pgs_nil.run pins s σ H [] us Q I r ⟨rfl, q _ _ ?_⟩
    have E := pd.env
    rw [usR_nil'] at E
    rw [usR_nil']
    exact .refl E
  | cons _ _ => exact nomatch h1⟩
theorem gsR_cons {tg : Expr} {tgs : List Expr} {t : TF} {ts : List TF} {sl : List Nat} (h1 : PG X tg (semG P C sl t)) (h2 : PGs X tgs (semGsR P C ts)) (hs : (assignEach (tg :: tgs) X.env).map (·.2) = assign tg X.env :: (assignEach tgs X.env).map (·.2)) :
    PGs X (tg :: tgs) (semGsR P C (t :: ts)) := ⟨fun pins s σ H vs us Q I r ⟨F, e, rs, e', pd, hq, q⟩ => by
  cases rs with
  | nil => exact nomatch hq
  | cons rr rs' =>
    cases vs with
    | nil => have := pd.len; simp at this
    | cons v vs' =>
      have hq : (match t C rr e with | some e1 => tParGo ts C rs' e1 | none => none) = some e' := hq
      split at hq
      · rename_i e1 g1
        obtain ⟨E, rv, nf⟩ := pd.head
        refine (pgs_cons h1 h2 hs).run pins s σ H _ us Q I r ⟨v, vs', rfl, UsR F vs' rs', e, rr, e1, E, rv, nf, g1, fun σ1 H1 st _ => ?_⟩
        refine ⟨F, e1, rs', e', pd.tail st, hq, fun σ2 H2 st2 => q σ2 H2 ?_⟩
        have st3 := st.trans st2
        rw [usR_last] at st3
        exact st3
      · cases hq⟩
theorem Pend.more {F : Pr} {e : VE} {σ : St} {H H' : Hp} {vs : List V} {rs : List R} (h : Pend P F e σ H vs rs) (s : L2.Same H H') : Pend P F e σ H' vs rs ∧ Grow (hide (Us (UsR F vs rs) e σ) H) (hide (Us (UsR F vs rs) e σ) H') := by
  obtain ⟨E, gr⟩ := h.env.more s
  refine ⟨⟨E, fun k v r h1 h2 => (h.rv k v r h1 h2).grow gr fun a z => ?_, h.inj, h.nf, h.len⟩, gr⟩
  have : H a ≠ none := h.env.al a (.inr ⟨k, r.1, by rw [h1, z.2], by obtain ⟨q1, q2⟩ := r; have z1 : q2 = true := z.1; rw [h2, z1]⟩)
  cases q : H a with
  | none => exact (this q).elim
  | some u => exact s a u q
/-- a, b = x, y, by way of the tuple -/
theorem s_parG {tgs es : List Expr} {k k2 : Nat} {tp ep pos : Pos} {ts : List TF} {fs : List EF} (hc : X.calm = true) (ha : PA X es (semL P C (fs.map .ex))) (hg : PGs X tgs (semGsR P C ts)) (hn : (assignEach tgs X.env).length = ts.length) (hlen : fs.length = ts.length ∧ fs.length ≤ LIM) (hst : (assignEach tgs X.env).findIdx? (·.1) = none)
    (hs : swapsWithSole [.Tuple tgs k tp] (.Tuple es k2 ep) pos.line X.env = pure false) (hw : swappedStores [.Tuple tgs k tp] (.Tuple es k2 ep) X.env = pure none) (h1 : (assignEach [.Tuple tgs k tp] X.env).map (·.2) = [assign (.Tuple tgs k tp) X.env]) :
    PS X (.Assign [.Tuple tgs k tp] (.Tuple es k2 ep) pos) (semS P C (sPar ts fs)) := ⟨fun pins s σ H Dn I ⟨F, e, out, E, hq, q⟩ => (ps_asg (pe_tup ha) (pg_tup hc hg hn hst) hs hw h1).run pins s σ H Dn I (by
  unfold sPar at hq
  split at hq
  · rename_i e1 rs h2
    split at hq
    · rename_i e2 h3
      cases hq
      refine args_ok _ E h2 fun vs H1 po => ?_
      have hvl : vs.length = fs.length := by
        have key : ∀ (G H : Hp) (e : VE) (σ : L2.St) (fs : List EF) (vs : List V) (rs : List R), RVs P G H e σ ((fs.map AR.ex).map isEx) vs rs → vs.length = fs.length := by
          intro G H e σ fs
          induction fs with
          | nil => intro vs rs h; cases h; rfl
          | cons f fs ih => intro vs rs h; cases h with | ex _ h => exact congrArg (· + 1) (ih _ _ h)
        exact key _ _ _ _ _ _ _ po.rv
      refine ⟨by rw [hvl]; exact hlen.2, fun p np => ?_⟩
      have pd := po.pend (exs_true fs)
      obtain ⟨pd2, gr2⟩ := pd.more (same_upd (o := .tup vs) np)
      refine ⟨p, vs, rfl, .of upd_same, by rw [hvl]; exact hlen.1, F, e1, rs, e2, pd2, h3, fun σ' H' st => q σ' H' ?_⟩
      refine .set0 st.env (fun a z => (st.fr a z).trans ?_) ((po.gr.trans gr2).trans st.gr) (po.st.trans st.st)
      have : H1 a ≠ none := po.env.al a (.inl z)
      rw [upd_ne (fun y => this (by rw [y]; exact np))]
      exact po.fr a z
    · cases hq
  · cases hq)⟩
/-- x, y = a, b: two local names -/
theorem s_par2 {i j : Nat} {x y : Str} {a b : Expr} {f g : EF} {px py pt pos : Pos} {kt k2 : Nat} {pt2 : Pos} (hc : X.calm = true) (hN : X.N.Nodup) (hi : X.N[i]? = some x) (hj : X.N[j]? = some y) (hij : i ≠ j)
    (hx : X.env.scope.names.lookup x = some .local) (hy : X.env.scope.names.lookup y = some .local) (ha : PA X [a, b] (semL P C [.ex f, .ex g]))
    (hw : swappedStores [.Tuple [.Name x px, .Name y py] kt pt] (.Tuple [a, b] k2 pt2) X.env = pure (some [x, y]))
    (hs : swapsWithSole [.Tuple [.Name x px, .Name y py] kt pt] (.Tuple [a, b] k2 pt2) pos.line X.env = pure false) :
    PS X (.Assign [.Tuple [.Name x px, .Name y py] kt pt] (.Tuple [a, b] k2 pt2) pos) (semS P C (sPar [tName i, tName j] [f, g])) := ⟨fun pins s σ H Dn I ⟨F, e, out, E, hq, q⟩ => (ps_par hc hN hi hj hij hx hy ha hw hs).run pins s σ H Dn I (by
  unfold sPar at hq
  split at hq
  · rename_i e1 rs h2
    split at hq
    · rename_i e2 h3
      cases hq
      refine args_ok [.ex f, .ex g] E h2 fun vs H1 po => ?_
      have pd := po.pend (exs_true [f, g])
      obtain ⟨v, w, r1, r2, rfl, rfl⟩ : ∃ v w r1 r2, vs = [v, w] ∧ rs = [r1, r2] := by
        have h := po.rv
        cases h with
        | ex _ h => cases h with
          | ex _ h => cases h; exact ⟨_, _, _, _, rfl, rfl⟩
      refine ⟨v, w, rfl, ?_⟩
      have tn : ∀ {i : Nat} {r : R} {e e' : VE}, tName i C r e = some e' → ∃ s0, e[i]? = some s0 ∧ Fixed s0 = false ∧ e' = e.set i (.val r.1 r.2 false) := by
        intro i r e e' h
        unfold tName at h
        split at h
        · rename_i z; exact ⟨_, z, rfl, (Option.some.inj h).symm⟩
        · rename_i z; exact ⟨_, z, rfl, (Option.some.inj h).symm⟩
        · cases h
      have h3 : (match tName i C r1 e1 with | some e3 => (match tName j C r2 e3 with | some e4 => some e4 | none => none) | none => none) = some e2 := h3
      split at h3
      · rename_i e3 g1
        split at h3
        · rename_i e4 g2
          cases h3
          obtain ⟨s1, k1, f1, rfl⟩ := tn g1
          obtain ⟨s2, k2', f2, rfl⟩ := tn g2
          obtain ⟨E1, rv1, nf1⟩ := pd.head
          obtain ⟨E2, gr2⟩ := E1.store rv1 nf1 k1
          have st1 : Step P (UsR (UsR F [w] [r2]) [v] [r1]) e1 σ H1 (UsR F [w] [r2]) (e1.set i (.val r1.1 r1.2 false)) (σ.set i (some v)) H1 := ⟨fun a z => usR_one.mpr (.inl z), E2, fun _ _ => rfl, gr2, .store k1 f1⟩
          have pd2 := pd.tail st1
          obtain ⟨E3, rv3, nf3⟩ := pd2.head
          rw [usR_nil'] at E3 rv3 nf3
          obtain ⟨E4, gr4⟩ := E3.store rv3 nf3 k2'
          have st2 : Step P (UsR F [w] [r2]) (e1.set i (.val r1.1 r1.2 false)) (σ.set i (some v)) H1 F ((e1.set i (.val r1.1 r1.2 false)).set j (.val r2.1 r2.2 false)) ((σ.set i (some v)).set j (some w)) H1 := ⟨fun a z => .inl z, E4, fun _ _ => rfl, gr4, .store k2' f2⟩
          have st3 := st1.trans st2
          rw [usR_last] at st3
          exact q _ _ (po.step st3)
        · cases h3
      · cases h3
    · cases hq
  · cases hq)⟩
end VS

/-! VFn: functions: what a def promises, its call. -/
namespace VS
open PySem PySem.Spec PyProof.Rows L2
variable {P : Pg} {C : CT} {X : Cx}

/-- a promise: arguments, heap, what follows -/
abbrev SpV := List V → Hp → VK → Prop
/-- a def keeps a promise; nothing leaves it; no text is being made of an object around -/
structure GnOk (PP : Program) (w : World) (K : PySem.W.Frag) (mg : Str → Option Value) (base : Heap) (k : Nat) (f : Addr) (fd : FuncData) (ps : List Str) (sp : SpV) : Prop where
  len : ∀ vs H Q, sp vs H Q → vs.length = ps.length
  run : ∀ (A : Around) (outer : List Env) (s : Shared) (H : Hp) (args : Args) (us : List Value) (vs : List V) (Q : VK), Room k A → A.guards = some [] → Env0 PP w K mg base A outer s H → BindsTo s fd args (ps.zip us) → Vals vs us → sp vs H Q →
    codeAny (model PP w) A (.call (.ref f) args) (CR L2.CX0 outer PP w H s Q L2.E0) s
theorem GnOk.mono {PP : Program} {w : World} {K : PySem.W.Frag} {mg : Str → Option Value} {base : Heap} {j k : Nat} {f : Addr} {fd : FuncData} {ps : List Str} {sp : SpV} (F : GnOk PP w K mg base j f fd ps sp) (h : j ≤ k) : GnOk PP w K mg base k f fd ps sp :=
  ⟨F.len, fun A outer s H args us vs Q hr => F.run A outer s H args us vs Q (hr.mono h)⟩
theorem deeper_guards {A : Around} {env : Env} (h : A.guards = some []) : (A.deeper env).guards = some [] := h
/-- a def of the text, by its body -/
theorem gn_of {PP : Program} {w : World} {K : PySem.W.Frag} {mg : Str → Option Value} {base : Heap} {x qual : Str} {st : Stmt} {f : Addr} {fd : FuncData} {N ps : List Str} {k : Nat} {sp : SpV} (F : Fun K x qual st f fd) (S : FnScope N ps (defScope st)) (len : ∀ vs H Q, sp vs H Q → vs.length = ps.length)
    (body : ∀ (cdv : Value) (A : Around) (outer : List Env) (s : Shared) (H : Hp) (vs : List V) (Q : VK), Room k (A.deeper (envOfC qual (defScope st) s.heap.objs.size f cdv)) → (A.deeper (envOfC qual (defScope st) s.heap.objs.size f cdv)).guards = some [] → sp vs H Q →
      ∃ t, PSs (cxOf L2.CX0 PP w K mg base N qual (defScope st) f cdv A outer s H L2.E0).nox (defBody st) t ∧ t { nx := fun _ H' => Q .non H', rt := Q } (L2.start N vs) H) : GnOk PP w K mg base (k + 1) f fd ps sp := by
  obtain ⟨oc, od, kV, doc, pm, an, cdv, ct, osl, rfl, lk, hcd⟩ := F.ex
  refine ⟨len, fun A outer s H args us vs Q hr hg e0 hb r hsp => ?_⟩
  have hl := len _ _ _ hsp
  have old : ∀ b o, base.get? b = some o → s.heap.get? b = some o := fun b o e => (e0.bs b o e).1
  have kin : K.In s.heap := e0.mod.kin.keeps old
  have lim : s.heap.NoLimit := e0.mod.nolimit.keeps old
  have kinds : ∀ y ∈ ps.zip us, (defScope st).names.lookup y.1 = some .local ∨ ((defScope st).names.lookup y.1 = some .cell ∧ ((cellsFrom (s.heap.objs.size + 1) (defScope st).names []).lookup y.1).isSome = true) := fun ⟨n, v⟩ hy => by
    rcases S.par n (List.of_mem_zip hy).1 with q | q
    · exact .inl q
    · exact .inr ⟨q, PySem.W.cellsFrom_some _ _ _ (.inl q)⟩
  refine codeAny_call_function hr.depth (kin _ _ lk) rfl S.co S.gen rfl (PySem.W.codeRec_of kin hcd) (hb _ _ _ _ ?_)
  refine wpAny_newFunctionEnv_cells S.kind kinds fun env he s1 x => ?_
  subst he
  refine ⟨lim.keeps x.toInCall.keep, codeAny_func ?_⟩
  obtain ⟨t, ht, hq⟩ := body cdv A outer s H vs Q (hr.deeper _) (deeper_guards hg) hsp
  have I : Inv (cxOf L2.CX0 PP w K mg base N qual (defScope st) f cdv A outer s H L2.E0) [] (L2.start N vs) H s1 := inv_start S hr.hd e0 hl r x
  refine wpAny_mono (ht.nox.run [] s1 (L2.start N vs) H _ I hq) (fun fl s' hs => ?_) fun e s' hs => hs
  cases fl with
  | ret u =>
    obtain ⟨v, σ', H', J, rv, q⟩ := hs
    exact ⟨v, H', J.os, J.bare, J.base, J.hok, rv, q⟩
  | next =>
    obtain ⟨σ', H', J, q⟩ := hs
    exact ⟨V.non, H', J.os, J.bare, J.base, J.hok, rfl, q⟩
  | brk => exact hs.elim fun _ h => h.elim fun _ h => h.2.elim
  | cont => exact hs.elim fun _ h => h.elim fun _ h => h.2.elim
/-- the callee runs -/
theorem run_gn {k : Nat} {f : Addr} {fd : FuncData} {ps : List Str} {ds : List Value} {dvs : List V} {sp : SpV} {pins : List (Addr × Obj)} {σ : L2.St} {H : Hp} {s : Shared} {Q : VK} {us : List Value} {vs : List V} (F : GnOk X.prog X.w X.K X.mg X.base k f fd ps sp) (hr : Room k X.A) (hg : X.A.guards = some [])
    (hb : Binds X.K fd ps ds) (hd : Vals dvs ds) (I : Inv X pins σ H s) (r : Vals vs us) (h : sp (vs ++ dvs) H Q) : wpAny (model X.prog X.w) X.A (call (.ref f) us) (EP X pins σ Q) X.xe s := by
  have r2 := r.append hd
  refine wpAny_call (codeAny_mono (F.run X.A X.stack s H ⟨us, []⟩ (us ++ ds) (vs ++ dvs) Q hr hg I.env0 (hb s us I.kIn (by rw [← r2.length]; exact F.len _ _ _ h)) r2 h) fun z s' hq => ?_)
  cases z with
  | error e => exact hq.elim
  | ok fl => cases fl with
    | ret u => exact I.after hq
    | next => exact hq.elim
    | brk => exact hq.elim
    | cont => exact hq.elim
/-- f(e, ..), f a def of the module -/
theorem g_call {k : Nat} {f : Addr} {fd : FuncData} {ps : List Str} {ds : List Value} {dvs : List V} {sp : SpV} {x : Str} {p pos : Pos} {e : Expr} {es : List Expr} {t : TA} (F : GnOk X.prog X.w X.K X.mg X.base k f fd ps sp) (hr : Room k X.A) (hgd : X.A.guards = some []) (hg : Gl X x) (hm : X.mg x = some (.ref f)) (hk : PySem.W.keepIn X.K (.ref f) = true)
    (hb : Binds X.K fd ps ds) (hd : Vals dvs ds) (ha : PA X (e :: es) t) (hdb : (x == ("__debug__" : Str)) = false) (he : starEach (e :: es) X.env = (false, eval e X.env) :: starEach es X.env) (hpl : (backTo pos (starEach es X.env)).any (·.1) = false) :
    PE X (.Call (.Name x p) (e :: es) [] pos) (fun σ H Q => t σ H fun vs H1 => sp (vs ++ dvs) H1 Q) := ⟨fun pins s σ H Q I h =>
  wpAny_Call_Name_kw (ld_glob I hg hm (PySem.W.callWith_K (h₀ := X.base) I.ok.mod.kin hk (thn (ha.run pos pins s σ H _ I h) fun us s1 ⟨vs, H1, I1, r, q⟩ => ⟨I1.kIn, run_gn F hr hgd hb hd I1 r q⟩) he hpl) hdb)⟩
theorem g_call0 {k : Nat} {f : Addr} {fd : FuncData} {ps : List Str} {ds : List Value} {dvs : List V} {sp : SpV} {x : Str} {p pos : Pos} (F : GnOk X.prog X.w X.K X.mg X.base k f fd ps sp) (hr : Room k X.A) (hgd : X.A.guards = some []) (hg : Gl X x) (hm : X.mg x = some (.ref f)) (hk : PySem.W.keepIn X.K (.ref f) = true)
    (hb : Binds X.K fd ps ds) (hd : Vals dvs ds) (hdb : (x == ("__debug__" : Str)) = false) : PE X (.Call (.Name x p) [] [] pos) (fun σ H Q => sp dvs H Q) := ⟨fun pins s σ H Q I h =>
  wpAny_Call_Name_kw (ld_glob I hg hm (PySem.W.callWith_K0 I.kIn hk (run_gn (us := []) (vs := []) F hr hgd hb hd I .nil h)) hdb)⟩

/-! ### what the value semantics promises -/
def CallPost (P : Pg) (F : Pr) (H : Hp) (vs : List V) (rs outs : List R) (v : V) (r : R) (H' : Hp) : Prop :=
  Pend P F [] [] H' (v :: vs) (r :: outs) ∧ (∀ a, F a → H' a = H a) ∧ Grow (hide (UsR F vs rs) H) (hide (UsR F (v :: vs) (r :: outs)) H')
def spV (P : Pg) (C : CT) (f : Str) : SpV := fun vs H Q => ∃ (F : Pr) (rs : List R) (r : R) (outs : List R), Pend P F [] [] H vs rs ∧ C f rs = some (r, outs) ∧ ∀ v H', CallPost P F H vs rs outs v r H' → Q v H'
theorem us_empty {F : Pr} : Us F [] [] = F := funext fun a => propext ⟨fun h => h.elim id fun ⟨i, d, p, h, _⟩ => by simp at h, .inl⟩

/-- the start of a def's run -/
theorem start_env {F : Pr} {H : Hp} {vs : List V} {rs : List R} {df : DefF} {N : List Str} (h : Pend P F [] [] H vs rs) (hnp : rs.length = df.np) (hns : df.ns = N.length) (hle : df.np ≤ df.ns) :
    EnvOk P F (startE df rs) (L2.start N vs) H ∧ Us F (startE df rs) (L2.start N vs) = UsR F vs rs := by
  have hlen := h.len
  have at1 : ∀ (i : Nat) (r : R), rs[i]? = some r → (startE df rs)[i]? = some (.val r.1 r.2 r.2) := fun i r hi => by
    have hlt := (List.getElem?_eq_some_iff.mp hi).1
    unfold startE
    rw [List.getElem?_append_left (by rw [List.length_map]; exact hlt), List.getElem?_map, hi]
    rfl
  have at2 : ∀ (i : Nat) (v : V), vs[i]? = some v → (L2.start N vs)[i]? = some (some v) := fun i v hi => by
    have hlt := (List.getElem?_eq_some_iff.mp hi).1
    unfold L2.start
    rw [List.getElem?_append_left (by rw [List.length_map]; exact hlt), List.getElem?_map, hi]
    rfl
  have at3 : ∀ (i : Nat) (s : Sl), (startE df rs)[i]? = some s → (∃ r, rs[i]? = some r ∧ s = .val r.1 r.2 r.2) ∨ s = .no := fun i s hi => by
    by_cases hlt : i < rs.length
    · have := at1 i rs[i] (List.getElem?_eq_getElem hlt)
      rw [hi] at this
      exact .inl ⟨rs[i], List.getElem?_eq_getElem hlt, Option.some.inj this⟩
    · unfold startE at hi
      rw [List.getElem?_append_right (by rw [List.length_map]; omega), List.getElem?_replicate] at hi
      split at hi
      · exact .inr (Option.some.inj hi).symm
      · cases hi
  have ow : ∀ (i : Nat) (a : Addr), Own (startE df rs) (L2.start N vs) i a ↔ OwnVs vs rs i a := fun i a => by
    constructor
    · rintro ⟨d, p, h1, h2⟩
      rcases at3 i _ h1 with ⟨r, k1, k2⟩ | k
      · injection k2 with k2 k3 k4
        obtain ⟨d', o'⟩ := r
        have k3 : true = o' := k3
        subst k3
        have hlt := (List.getElem?_eq_some_iff.mp k1).1
        have hv : vs[i]? = some vs[i] := List.getElem?_eq_getElem (by omega)
        rw [at2 i _ hv] at h2
        injection h2 with h2
        injection h2 with h2
        exact ⟨d', by rw [hv, h2], k1⟩
      · cases k
    · rintro ⟨d, h1, h2⟩
      exact ⟨d, true, at1 i _ h2, at2 i _ h1⟩
  have us : Us F (startE df rs) (L2.start N vs) = UsR F vs rs := funext fun a => propext ⟨fun z => z.elim .inl fun ⟨i, z⟩ => .inr ⟨i, (ow i a).mp z⟩, fun z => z.elim .inl fun ⟨i, z⟩ => .inr ⟨i, (ow i a).mpr z⟩⟩
  refine ⟨⟨?_, fun i d o p hi => ?_, fun i j a hi hj => h.inj i j a ((ow i a).mp hi) ((ow j a).mp hj), fun i a hi => h.nf i a ((ow i a).mp hi), fun a z => h.env.al a (.inl z)⟩, us⟩
  · unfold startE L2.start
    rw [List.length_append, List.length_append, List.length_map, List.length_map, List.length_replicate, List.length_replicate]
    omega
  · rcases at3 i _ hi with ⟨r, k1, k2⟩ | k
    · injection k2 with k2 k3 k4
      have hlt := (List.getElem?_eq_some_iff.mp k1).1
      have hv : vs[i]? = some vs[i] := List.getElem?_eq_getElem (by omega)
      refine ⟨_, at2 i _ hv, ?_⟩
      have := h.rv i _ _ hv k1
      rw [us_empty] at this
      rw [us]
      obtain ⟨d', o'⟩ := r
      cases k2; cases k3
      exact this
    · cases k
theorem outs_get : ∀ {rs : List R} {e : VE} {outs : List R}, outsOf rs e = some outs → outs.length = rs.length ∧ ∀ (i : Nat) (q : R), outs[i]? = some q → (∃ d, rs[i]? = some (d, false) ∧ q = (d, false)) ∨ (∃ d0 p, rs[i]? = some (d0, true) ∧ e[i]? = some (.val q.1 q.2 p))
  | [], e, outs, h => by
    have h : some ([] : List R) = some outs := by cases e <;> exact h
    cases h
    exact ⟨rfl, fun i q h => by simp at h⟩
  | (d, false) :: rs, s :: e, outs, h => by
    unfold outsOf at h
    split at h
    · rename_i outs1 h1
      cases h
      obtain ⟨l, g⟩ := outs_get h1
      refine ⟨congrArg (· + 1) l, fun i q hq => ?_⟩
      cases i with
      | zero => simp at hq; exact .inl ⟨d, rfl, hq.symm⟩
      | succ i => exact g i q (by simpa using hq)
    · cases h
  | (d, true) :: rs, .val d1 o1 p1 :: e, outs, h => by
    unfold outsOf at h
    split at h
    · rename_i outs1 h1
      cases h
      obtain ⟨l, g⟩ := outs_get h1
      refine ⟨congrArg (· + 1) l, fun i q hq => ?_⟩
      cases i with
      | zero => simp at hq; subst hq; exact .inr ⟨d, p1, rfl, rfl⟩
      | succ i => exact g i q (by simpa using hq)
    · cases h
  | (d, true) :: rs, .no :: e, outs, h => nomatch h
  | (d, true) :: rs, .lent :: e, outs, h => nomatch h
  | (d, false) :: rs, [], outs, h => nomatch h
  | (d, true) :: rs, [], outs, h => nomatch h
/-- the end of a def's run -/
theorem end_env {F : Pr} {H H' : Hp} {vs : List V} {rs outs : List R} {df : DefF} {N : List Str} {e' : VE} {σ' : L2.St} {v : V} {r : R} (h : Pend P F [] [] H vs rs) (hnp : rs.length = df.np) (hns : df.ns = N.length) (hle : df.np ≤ df.ns)
    (po : Post P F (startE df rs) (L2.start N vs) H [none] e' σ' [v] [r] H') (ho : outsOf rs e' = some outs) : CallPost P F H vs rs outs v r H' := by
  obtain ⟨E0, us0⟩ := start_env h hnp hns hle
  obtain ⟨ol, og⟩ := outs_get ho
  have hlen := h.len
  -- the lent parameters stand where they stood
  have same : ∀ (i : Nat) (d0 : D), rs[i]? = some (d0, true) → ∃ w, vs[i]? = some w ∧ σ'[i]? = some (some w) := fun i d0 hi => by
    have hlt := (List.getElem?_eq_some_iff.mp hi).1
    have hv : vs[i]? = some vs[i] := List.getElem?_eq_getElem (by omega)
    have s0 : (startE df rs)[i]? = some (.val d0 true true) := by
      unfold startE
      rw [List.getElem?_append_left (by rw [List.length_map]; exact hlt), List.getElem?_map, hi]
      rfl
    obtain ⟨k1, _⟩ := po.st.fix i _ s0 rfl
    refine ⟨_, hv, k1.trans ?_⟩
    unfold L2.start
    rw [List.getElem?_append_left (by rw [List.length_map]; omega), List.getElem?_map, hv]
    rfl
  have ow : ∀ (i : Nat) (a : Addr), OwnVs vs outs i a → Own e' σ' i a := fun i a ⟨d, h1, h2⟩ => by
    rcases og i _ h2 with ⟨d', _, k⟩ | ⟨d0, p, k1, k2⟩
    · cases k
    · obtain ⟨w, w1, w2⟩ := same i d0 k1
      rw [h1] at w1
      cases w1
      exact ⟨d, p, k2, w2⟩
  have sub : ∀ a, UsR F (v :: vs) (r :: outs) a → Us (UsR F [v] [r]) e' σ' a := fun a z => by
    rcases z with z | ⟨k, z⟩
    · exact .inl (.inl z)
    · rcases ownVs_cons.mp z with ⟨_, z⟩ | ⟨j, _, z⟩
      · exact .inl (usR_one.mpr (.inr z))
      · exact .inr ⟨j, ow j a z⟩
  have g : Grow (hide (Us (UsR F [v] [r]) e' σ') H') (hide (UsR F (v :: vs) (r :: outs)) H') := grow_hide (.refl _) fun b z _ => sub b z
  have gr := po.gr
  rw [us0] at gr
  refine ⟨⟨⟨rfl, fun i d o p h => by simp at h, fun i j a ⟨_, _, h, _⟩ => by simp at h, fun i a ⟨_, _, h, _⟩ => by simp at h, fun a z => po.env.there (sub a z)⟩, fun k w q h1 h2 => ?_, fun i j a hi hj => ?_, fun k a hk => ?_, by simp [ol, hlen]⟩, po.fr, gr.trans g⟩
  · rw [us_empty]
    cases k with
    | zero => simp at h1 h2; subst h1 h2; exact po.rv.one.grow g fun _ _ => rfl
    | succ k =>
      have h1 : vs[k]? = some w := by simpa using h1
      have h2 : outs[k]? = some q := by simpa using h2
      rcases og k _ h2 with ⟨d', k1, k2⟩ | ⟨d0, p, k1, k2⟩
      · subst k2
        have := h.rv k w _ h1 k1
        rw [us_empty] at this
        exact RepF.grow (gr.trans g) this
      · obtain ⟨w', w1, w2⟩ := same k d0 k1
        rw [h1] at w1
        cases w1
        obtain ⟨x, x1, x2⟩ := po.env.slot k q.1 q.2 p k2
        rw [w2] at x1
        cases x1
        exact x2.grow g fun _ _ => rfl
  · rcases ownVs_cons.mp hi with ⟨i0, hi⟩ | ⟨i', i0, hi⟩ <;> rcases ownVs_cons.mp hj with ⟨j0, hj⟩ | ⟨j', j0, hj⟩
    · omega
    · exact (po.env.dj _ _ (ow _ _ hj) (usR_one.mpr (.inr hi))).elim
    · exact (po.env.dj _ _ (ow _ _ hi) (usR_one.mpr (.inr hj))).elim
    · have := po.env.inj _ _ _ (ow _ _ hi) (ow _ _ hj); omega
  · rcases ownVs_cons.mp hk with ⟨_, hk⟩ | ⟨k', _, hk⟩
    · exact po.nf 0 a (ownVs_cons.mpr (.inl ⟨rfl, hk⟩))
    · exact fun z => po.env.dj _ _ (ow _ _ hk) (.inl z)
end VS

/-! VCall: a call of a def, its names lent and given back. -/
namespace VS
open PySem PySem.Spec PyProof.Rows L2
variable {P : Pg} {C : CT} {X : Cx}

theorem lends_at {e : VE} : ∀ {as : List AR} {i : Nat}, i ∈ lends e as → ∃ k : Nat, as[k]? = some (AR.nm i)
  | .nm j :: r, i, h => by
    unfold lends at h
    split at h
    · rcases List.mem_cons.mp h with rfl | h
      · exact ⟨0, rfl⟩
      · obtain ⟨k, h⟩ := lends_at h; exact ⟨k + 1, by simpa using h⟩
    · obtain ⟨k, h⟩ := lends_at h; exact ⟨k + 1, by simpa using h⟩
  | .ex f :: r, i, h => by
    obtain ⟨k, h⟩ := lends_at (as := r) h; exact ⟨k + 1, by simpa using h⟩
theorem at_lends {e : VE} : ∀ {as : List AR} {i k : Nat}, as[k]? = some (AR.nm i) → isOwn e i = true → i ∈ lends e as
  | [], i, k, h, _ => by simp at h
  | .nm j :: r, i, 0, h, o => by
    simp at h; subst h
    unfold lends; rw [if_pos o]; exact List.mem_cons_self
  | .nm j :: r, i, k + 1, h, o => by
    have := at_lends (as := r) (k := k) (by simpa using h) o
    unfold lends
    split
    · exact List.mem_cons_of_mem _ this
    · exact this
  | .ex f :: r, i, 0, h, o => by simp at h
  | .ex f :: r, i, k + 1, h, o => at_lends (as := r) (k := k) (by simpa using h) o
theorem lends_uniq {e : VE} : ∀ {as : List AR} {i k j : Nat}, (lends e as).Nodup → isOwn e i = true → as[k]? = some (AR.nm i) → as[j]? = some (AR.nm i) → k = j
  | [], i, k, j, _, _, h, _ => by simp at h
  | .ex f :: r, i, 0, j, _, _, h, _ => by simp at h
  | .ex f :: r, i, k + 1, 0, _, _, _, h => by simp at h
  | .ex f :: r, i, k + 1, j + 1, n, o, h, g => congrArg (· + 1) (lends_uniq (as := r) n o (by simpa using h) (by simpa using g))
  | .nm a :: r, i, 0, 0, _, _, _, _ => rfl
  | .nm a :: r, i, 0, j + 1, n, o, h, g => by
    simp at h; subst h
    unfold lends at n; rw [if_pos o] at n
    exact ((List.nodup_cons.mp n).1 (at_lends (k := j) (by simpa using g) o)).elim
  | .nm a :: r, i, k + 1, 0, n, o, h, g => by
    simp at g; subst g
    unfold lends at n; rw [if_pos o] at n
    exact ((List.nodup_cons.mp n).1 (at_lends (k := k) (by simpa using h) o)).elim
  | .nm a :: r, i, k + 1, j + 1, n, o, h, g => by
    have n' : (lends e r).Nodup := by
      unfold lends at n
      split at n
      · exact (List.nodup_cons.mp n).2
      · exact n
    exact congrArg (· + 1) (lends_uniq n' o (by simpa using h) (by simpa using g))
theorem takeBack_len {e : VE} : ∀ {as : List AR} {outs : List R}, (takeBack e as outs).length = e.length
  | [], _ => by unfold takeBack; rfl
  | .nm i :: as, [] => by unfold takeBack; rfl
  | .ex f :: as, [] => by unfold takeBack; rfl
  | .ex f :: as, r :: rs => by unfold takeBack; exact takeBack_len
  | .nm i :: as, r :: rs => by
    unfold takeBack
    split
    · rw [List.length_set]; exact takeBack_len
    · exact takeBack_len
theorem takeBack_out {e : VE} : ∀ {as : List AR} {outs : List R} {i : Nat}, i ∉ lends e as → (takeBack e as outs)[i]? = e[i]?
  | [], _, i, _ => by unfold takeBack; rfl
  | .nm j :: as, [], i, _ => by unfold takeBack; rfl
  | .ex f :: as, [], i, _ => by unfold takeBack; rfl
  | .ex f :: as, r :: rs, i, h => by unfold takeBack; exact takeBack_out (as := as) h
  | .nm j :: as, r :: rs, i, h => by
    unfold lends at h
    unfold takeBack
    split
    · rename_i d p hj
      have o : isOwn e j = true := by unfold isOwn; rw [hj]
      rw [if_pos o] at h
      rw [get_set_ne fun z => h (by rw [z]; exact List.mem_cons_self)]
      exact takeBack_out fun z => h (List.mem_cons_of_mem _ z)
    · rename_i hj
      have o : ¬ isOwn e j = true := by
        intro z
        obtain ⟨d, p, z⟩ := isOwn_at z
        exact hj d p z
      rw [if_neg o] at h
      exact takeBack_out h
theorem takeBack_in {e : VE} {d : D} {p : Bool} : ∀ {as : List AR} {outs : List R} {i k : Nat} {q : R}, (lends e as).Nodup → as[k]? = some (AR.nm i) → outs[k]? = some q → e[i]? = some (.val d true p) → (takeBack e as outs)[i]? = some (.val q.1 q.2 p)
  | [], _, i, k, q, _, h, _, _ => by simp at h
  | .nm j :: as, [], i, k, q, _, _, h, _ => by simp at h
  | .ex f :: as, [], i, k, q, _, _, h, _ => by simp at h
  | .ex f :: as, r :: rs, i, 0, q, _, h, _, _ => by simp at h
  | .ex f :: as, r :: rs, i, k + 1, q, n, h, g, z => by
    unfold takeBack
    exact takeBack_in (as := as) n (by simpa using h) (by simpa using g) z
  | .nm j :: as, r :: rs, i, 0, q, n, h, g, z => by
    simp at h g; subst h g
    have o : isOwn e j = true := by unfold isOwn; rw [z]
    unfold takeBack
    rw [z]
    unfold lends at n; rw [if_pos o] at n
    exact List.getElem?_set_self (by rw [takeBack_len]; exact (List.getElem?_eq_some_iff.mp z).1)
  | .nm j :: as, r :: rs, i, k + 1, q, n, h, g, z => by
    have o : isOwn e i = true := by unfold isOwn; rw [z]
    have hm : i ∈ lends e as := at_lends (k := k) (by simpa using h) o
    unfold lends at n
    unfold takeBack
    split
    · rename_i d1 p1 hj
      have oj : isOwn e j = true := by unfold isOwn; rw [hj]
      rw [if_pos oj] at n
      obtain ⟨n1, n2⟩ := List.nodup_cons.mp n
      rw [get_set_ne fun y => n1 (by rw [y]; exact hm)]
      exact takeBack_in n2 (by simpa using h) (by simpa using g) z
    · have n' : (lends e as).Nodup := by
        split at n
        · exact (List.nodup_cons.mp n).2
        · exact n
      exact takeBack_in n' (by simpa using h) (by simpa using g) z
theorem loanR_len {e : VE} : ∀ {as : List AR} {rs : List R}, as.length = rs.length → (loanR e as rs).length = rs.length
  | [], [], _ => rfl
  | .nm i :: as, r :: rs, h => congrArg (· + 1) (loanR_len (by simpa using h))
  | .ex i :: as, r :: rs, h => congrArg (· + 1) (loanR_len (by simpa using h))
/-- what stands at a place of the arguments -/
theorem loan_at {e : VE} {σ : St} {G H : Hp} : ∀ {as : List AR} {vs : List V} {rs : List R}, RVs P G H e σ (as.map isEx) vs rs → vs.length = rs.length ∧ as.length = rs.length ∧ ∀ (k : Nat) (x : AR), as[k]? = some x →
    (∃ i d o p v, x = .nm i ∧ e[i]? = some (Sl.val d o p) ∧ σ[i]? = some (some v) ∧ vs[k]? = some v ∧ rs[k]? = some (d, false) ∧ (loanR e as rs)[k]? = some (d, o)) ∨ (∃ f v r, x = .ex f ∧ vs[k]? = some v ∧ rs[k]? = some r ∧ (loanR e as rs)[k]? = some r ∧ RV P G H v r)
  | [], _, _, h => by cases h; exact ⟨rfl, rfl, fun k x h => by simp at h⟩
  | .nm i :: as, _, _, h => by
    cases h with
    | @nm _ v d o p _ vs rs h1 h2 h3 =>
      obtain ⟨l1, l2, ih⟩ := loan_at h3
      refine ⟨congrArg (· + 1) l1, congrArg (· + 1) l2, fun k x hk => ?_⟩
      cases k with
      | zero =>
        simp at hk; subst hk
        refine .inl ⟨i, d, o, p, v, rfl, h1, h2, rfl, rfl, ?_⟩
        show some (d, isOwn e i) = some (d, o)
        unfold isOwn
        rw [h1]
        cases o <;> rfl
      | succ k =>
        rcases ih k x (by simpa using hk) with ⟨i, d, o, p, v, a1, a2, a3, a4, a5, a6⟩ | ⟨f, v, r, a1, a2, a3, a4, a5⟩
        · exact .inl ⟨i, d, o, p, v, a1, a2, a3, by simpa using a4, by simpa using a5, by show (_ :: loanR e as rs)[k + 1]? = _; simpa using a6⟩
        · exact .inr ⟨f, v, r, a1, by simpa using a2, by simpa using a3, by show (_ :: loanR e as rs)[k + 1]? = _; simpa using a4, a5⟩
  | .ex f :: as, _, _, h => by
    cases h with
    | @ex v r _ vs rs h1 h3 =>
      obtain ⟨l1, l2, ih⟩ := loan_at h3
      refine ⟨congrArg (· + 1) l1, congrArg (· + 1) l2, fun k x hk => ?_⟩
      cases k with
      | zero =>
        simp at hk; subst hk
        exact .inr ⟨f, v, r, rfl, rfl, rfl, rfl, h1⟩
      | succ k =>
        rcases ih k x (by simpa using hk) with ⟨i, d, o, p, v, a1, a2, a3, a4, a5, a6⟩ | ⟨f, v, r, a1, a2, a3, a4, a5⟩
        · exact .inl ⟨i, d, o, p, v, a1, a2, a3, by simpa using a4, by simpa using a5, by show (_ :: loanR e as rs)[k + 1]? = _; simpa using a6⟩
        · exact .inr ⟨f, v, r, a1, by simpa using a2, by simpa using a3, by show (_ :: loanR e as rs)[k + 1]? = _; simpa using a4, a5⟩

/-- the frame of a call: what the caller keeps -/
def Fcall (F : Pr) (e : VE) (σ : St) (ln : List Nat) : Pr := fun a => F a ∨ ∃ i, i ∉ ln ∧ Own e σ i a

section
variable {F : Pr} {e e1 : VE} {σ : St} {H H1 : Hp} {as : List AR} {vs : List V} {rs : List R}
theorem call_loan_own (po : Post P F e σ H (as.map isEx) e1 σ vs rs H1) {k : Nat} {a : Addr} (h : OwnVs vs (loanR e1 as rs) k a) : OwnVs vs rs k a ∧ (∃ f, as[k]? = some (AR.ex f)) ∨ ∃ i, i ∈ lends e1 as ∧ as[k]? = some (AR.nm i) ∧ Own e1 σ i a := by
  obtain ⟨l1, l2, at_⟩ := loan_at po.rv
  obtain ⟨d, h1, h2⟩ := h
  have hk : k < as.length := by rw [l2, ← l1]; exact (List.getElem?_eq_some_iff.mp h1).1
  have hx : as[k]? = some as[k] := List.getElem?_eq_getElem hk
  rcases at_ k _ hx with ⟨i, d', o, p, v, a1, a2, a3, a4, a5, a6⟩ | ⟨f, v, r, a1, a2, a3, a4, a5⟩
  · rw [h2] at a6
    cases a6
    rw [h1] at a4
    cases a4
    rw [a1] at hx
    exact .inr ⟨i, at_lends hx (by unfold isOwn; rw [a2]), hx, d, p, a2, a3⟩
  · rw [h2] at a4
    cases a4
    rw [a1] at hx
    exact .inl ⟨⟨d, h1, a3⟩, f, hx⟩
theorem call_us (po : Post P F e σ H (as.map isEx) e1 σ vs rs H1) : UsR (Fcall F e1 σ (lends e1 as)) vs (loanR e1 as rs) = Us (UsR F vs rs) e1 σ := funext fun a => propext (by
  obtain ⟨l1, l2, at_⟩ := loan_at po.rv
  constructor
  · rintro ((z | ⟨i, _, z⟩) | ⟨k, z⟩)
    · exact .inl (.inl z)
    · exact .inr ⟨i, z⟩
    · rcases call_loan_own po z with ⟨z, _⟩ | ⟨i, _, _, z⟩
      · exact .inl (.inr ⟨k, z⟩)
      · exact .inr ⟨i, z⟩
  · rintro ((z | ⟨k, z⟩) | ⟨i, z⟩)
    · exact .inl (.inl z)
    · obtain ⟨d, h1, h2⟩ := z
      have hk : k < as.length := by rw [l2]; exact (List.getElem?_eq_some_iff.mp h2).1
      rcases at_ k _ (List.getElem?_eq_getElem hk) with ⟨i, d', o, p, v, a1, a2, a3, a4, a5, a6⟩ | ⟨f, v, r, a1, a2, a3, a4, a5⟩
      · rw [h2] at a5; cases a5
      · rw [h2] at a3; cases a3
        exact .inr ⟨k, d, h1, a4⟩
    · by_cases hi : i ∈ lends e1 as
      · obtain ⟨k, hk⟩ := lends_at hi
        obtain ⟨d, p, z1, z2⟩ := z
        rcases at_ k _ hk with ⟨i', d', o, p', v, a1, a2, a3, a4, a5, a6⟩ | ⟨f, v, r, a1, _⟩
        · cases a1
          rw [z1] at a2; cases a2
          rw [z2] at a3; cases a3
          exact .inr ⟨k, d, a4, a6⟩
        · cases a1
      · exact .inl (.inr ⟨i, hi, z⟩))
theorem call_pend (po : Post P F e σ H (as.map isEx) e1 σ vs rs H1) (hnd : (lends e1 as).Nodup) : Pend P (Fcall F e1 σ (lends e1 as)) [] [] H1 vs (loanR e1 as rs) := by
  have us := call_us po
  obtain ⟨l1, l2, at_⟩ := loan_at po.rv
  refine ⟨⟨rfl, fun i d o p h => by simp at h, fun i j a ⟨_, _, h, _⟩ => by simp at h, fun i a ⟨_, _, h, _⟩ => by simp at h, fun a z => ?_⟩, fun k v r h1 h2 => ?_, fun i j a hi hj => ?_, fun k a hk z => ?_, by rw [loanR_len l2]; exact l1⟩
  · rw [us] at z; exact po.env.there z
  · rw [us_empty, us]
    have hk : k < as.length := by rw [l2, ← l1]; exact (List.getElem?_eq_some_iff.mp h1).1
    rcases at_ k _ (List.getElem?_eq_getElem hk) with ⟨i, d', o, p, v', a1, a2, a3, a4, a5, a6⟩ | ⟨f, v', r', a1, a2, a3, a4, a5⟩
    · rw [h1] at a4; cases a4
      rw [h2] at a6; cases a6
      obtain ⟨w, w1, w2⟩ := po.env.slot i d' o p a2
      rw [a3] at w1; cases w1
      exact w2
    · rw [h1] at a2; cases a2
      rw [h2] at a4; cases a4
      exact a5
  · rcases call_loan_own po hi with ⟨zi, _⟩ | ⟨i', li, hi', zi⟩ <;> rcases call_loan_own po hj with ⟨zj, _⟩ | ⟨j', lj, hj', zj⟩
    · exact po.inj _ _ _ zi zj
    · exact (po.env.dj _ _ zj (.inr ⟨_, zi⟩)).elim
    · exact (po.env.dj _ _ zi (.inr ⟨_, zj⟩)).elim
    · have := po.env.inj _ _ _ zi zj
      subst this
      exact lends_uniq hnd (lends_own li) hi' hj'
  · rcases call_loan_own po hk with ⟨zk, _⟩ | ⟨i', li, hi', zi⟩
    · rcases z with z | ⟨j, _, z⟩
      · exact po.nf _ _ zk z
      · exact po.env.dj _ _ z (.inr ⟨_, zk⟩)
    · rcases z with z | ⟨j, hj, z⟩
      · exact po.env.dj _ _ zi (.inl z)
      · have := po.env.inj _ _ _ zi z
        subst this
        exact hj li
theorem call_post (po : Post P F e σ H (as.map isEx) e1 σ vs rs H1) (hnd : (lends e1 as).Nodup) {outs : List R} {v : V} {r : R} {H' : Hp} (ho : outs.length = as.length) (cp : CallPost P (Fcall F e1 σ (lends e1 as)) H1 vs (loanR e1 as rs) outs v r H') : Post P F e σ H [none] (takeBack e1 as outs) σ [v] [r] H' := by
  have us := call_us po
  obtain ⟨l1, l2, at_⟩ := loan_at po.rv
  obtain ⟨pd, fr, gr⟩ := cp
  rw [us] at gr
  -- the slots behind
  have slot : ∀ (i : Nat) (s : Sl), (takeBack e1 as outs)[i]? = some s → (i ∉ lends e1 as ∧ e1[i]? = some s) ∨ (i ∈ lends e1 as ∧ ∃ (k : Nat) (q : R) (d : D) (p : Bool) (w : V), as[k]? = some (AR.nm i) ∧ outs[k]? = some q ∧ e1[i]? = some (.val d true p) ∧ σ[i]? = some (some w) ∧ vs[k]? = some w ∧ s = .val q.1 q.2 p) := fun i s hs => by
    by_cases hi : i ∈ lends e1 as
    · obtain ⟨k, hk⟩ := lends_at hi
      obtain ⟨d, p, z⟩ := isOwn_at (lends_own hi)
      have hl : k < outs.length := by rw [ho]; exact (List.getElem?_eq_some_iff.mp hk).1
      have hq : outs[k]? = some outs[k] := List.getElem?_eq_getElem hl
      rw [takeBack_in hnd hk hq z] at hs
      rcases at_ k _ hk with ⟨i', d', o, p', w, a1, a2, a3, a4, a5, a6⟩ | ⟨f, v, r, a1, _⟩
      · cases a1
        exact .inr ⟨hi, k, _, d, p, w, hk, hq, z, a3, a4, (Option.some.inj hs).symm⟩
      · cases a1
    · rw [takeBack_out hi] at hs
      exact .inl ⟨hi, hs⟩
  have own : ∀ (i : Nat) (a : Addr), Own (takeBack e1 as outs) σ i a → (i ∉ lends e1 as ∧ Own e1 σ i a) ∨ (i ∈ lends e1 as ∧ ∃ k, as[k]? = some (AR.nm i) ∧ OwnVs vs outs k a) := fun i a ⟨d, p, h1, h2⟩ => by
    rcases slot i _ h1 with ⟨hi, h⟩ | ⟨hi, k, q, d', p', w, b1, b2, b3, b4, b5, b6⟩
    · exact .inl ⟨hi, d, p, h, h2⟩
    · rw [h2] at b4; cases b4
      injection b6 with c1 c2 c3
      exact .inr ⟨hi, k, b1, q.1, b5, by rw [b2]; obtain ⟨q1, q2⟩ := q; have c2 : true = q2 := c2; rw [← c2]⟩
  have sub : ∀ a, Us (UsR F [v] [r]) (takeBack e1 as outs) σ a → UsR (Fcall F e1 σ (lends e1 as)) (v :: vs) (r :: outs) a := fun a z => by
    rcases z with z | ⟨i, z⟩
    · rcases usR_one.mp z with z | z
      · exact .inl (.inl z)
      · exact .inr ⟨0, ownVs_cons.mpr (.inl ⟨rfl, z⟩)⟩
    · rcases own i a z with ⟨hi, z⟩ | ⟨_, k, _, z⟩
      · exact .inl (.inr ⟨i, hi, z⟩)
      · exact .inr ⟨k + 1, ownVs_cons.mpr (.inr ⟨k, rfl, z⟩)⟩
  have g : Grow (hide (UsR (Fcall F e1 σ (lends e1 as)) (v :: vs) (r :: outs)) H') (hide (Us (UsR F [v] [r]) (takeBack e1 as outs) σ) H') := grow_hide (.refl _) fun b z _ => sub b z
  have rvk := pd.rv
  rw [us_empty] at rvk
  refine ⟨⟨?_, fun i d o p h => ?_, fun i j a hi hj => ?_, fun i a hi z => ?_, fun a z => ?_⟩, .ex ((rvk 0 v r rfl rfl).grow g fun _ _ => rfl) .nil, fun i j a h k => ?_, fun k a h z => ?_, fun a z => (fr a (.inl z)).trans (po.fr a z), (po.gr.trans gr).trans g, po.st.trans ⟨takeBack_len, fun i s h f => ⟨rfl, ?_⟩⟩⟩
  · rw [takeBack_len]; exact po.env.len
  · rcases slot i _ h with ⟨hi, h⟩ | ⟨hi, k, q, d', p', w, b1, b2, b3, b4, b5, b6⟩
    · obtain ⟨w, w1, w2⟩ := po.env.slot i d o p h
      refine ⟨w, w1, w2.grow (gr.trans g) fun a oa => fr a (.inr ⟨i, hi, d, p, ?_, ?_⟩)⟩
      · have e1' : o = true := oa.1
        rw [← e1']; exact h
      · rw [w1, oa.2]
    · cases b6
      exact ⟨w, b4, (rvk (k + 1) w q (by simpa using b5) (by simpa using b2)).grow g fun _ _ => rfl⟩
  · rcases own i a hi with ⟨ni, zi⟩ | ⟨li, k, hk, zi⟩ <;> rcases own j a hj with ⟨nj, zj⟩ | ⟨lj, k', hk', zj⟩
    · exact po.env.inj _ _ _ zi zj
    · exact (pd.nf (k' + 1) a (ownVs_cons.mpr (.inr ⟨k', rfl, zj⟩)) (.inr ⟨i, ni, zi⟩)).elim
    · exact (pd.nf (k + 1) a (ownVs_cons.mpr (.inr ⟨k, rfl, zi⟩)) (.inr ⟨j, nj, zj⟩)).elim
    · have := pd.inj (k + 1) (k' + 1) a (ownVs_cons.mpr (.inr ⟨k, rfl, zi⟩)) (ownVs_cons.mpr (.inr ⟨k', rfl, zj⟩))
      obtain rfl : k = k' := by omega
      rw [hk] at hk'
      cases hk'
      rfl
  · rcases own i a hi with ⟨ni, zi⟩ | ⟨li, k, hk, zi⟩
    · rcases usR_one.mp z with z | z
      · exact po.env.dj i a zi (.inl z)
      · exact pd.nf 0 a (ownVs_cons.mpr (.inl ⟨rfl, z⟩)) (.inr ⟨i, ni, zi⟩)
    · rcases usR_one.mp z with z | z
      · exact pd.nf (k + 1) a (ownVs_cons.mpr (.inr ⟨k, rfl, zi⟩)) (.inl z)
      · have := pd.inj 0 (k + 1) a (ownVs_cons.mpr (.inl ⟨rfl, z⟩)) (ownVs_cons.mpr (.inr ⟨k, rfl, zi⟩))
        omega
  · exact pd.env.al a (sub a (.inl z))
  · rcases ownVs_cons.mp h with ⟨h0, _⟩ | ⟨_, _, h⟩
    · rcases ownVs_cons.mp k with ⟨k0, _⟩ | ⟨_, _, k⟩
      · omega
      · exact (ownVs_nil k).elim
    · exact (ownVs_nil h).elim
  · rcases ownVs_cons.mp h with ⟨_, h⟩ | ⟨_, _, h⟩
    · exact pd.nf 0 a (ownVs_cons.mpr (.inl ⟨rfl, h⟩)) (.inl z)
    · exact ownVs_nil h
  · by_cases hi : i ∈ lends e1 as
    · obtain ⟨k, hk⟩ := lends_at hi
      obtain ⟨d, p, z⟩ := isOwn_at (lends_own hi)
      rw [z] at h; cases h
      have hl : k < outs.length := by rw [ho]; exact (List.getElem?_eq_some_iff.mp hk).1
      exact ⟨_, takeBack_in hnd hk (List.getElem?_eq_getElem hl) z, f, rfl⟩
    · exact ⟨s, by rw [takeBack_out hi]; exact h, f, rfl⟩
end

theorem sem_call {f : Str} {as : List AR} {σ : St} {H : Hp} {Q : VK} (h : semE P C (vCall f as) σ H Q) : semL P C as σ H fun vs H1 => spV P C f vs H1 Q := by
  obtain ⟨F, e, e', res, E, h1, q⟩ := h
  unfold vCall at h1
  split at h1
  · rename_i e1 rs h2
    split at h1
    · rename_i hnd
      split at h1
      · rename_i r outs h3
        split at h1
        · rename_i ho
          cases h1
          exact args_ok as E h2 fun vs H1 po => ⟨_, _, _, outs, call_pend po hnd, h3, fun v H' cp => q v H' (call_post po hnd ho cp)⟩
        · cases h1
      · cases h1
    · cases h1
  · cases h1
/-- a call by its callee's promise -/
theorem e_call {k : Nat} {f : Addr} {fd : FuncData} {ps : List Str} {x : Str} {p pos : Pos} {e : Expr} {es : List Expr} {as : List AR} (Fn : GnOk X.prog X.w X.K X.mg X.base k f fd ps (spV P C x)) (hr : Room k X.A) (hgd : X.A.guards = some []) (hg : Gl X x) (hm : X.mg x = some (.ref f)) (hk : PySem.W.keepIn X.K (.ref f) = true)
    (hb : Binds X.K fd ps []) (ha : PA X (e :: es) (semL P C as)) (hdb : (x == ("__debug__" : Str)) = false) (he : starEach (e :: es) X.env = (false, eval e X.env) :: starEach es X.env) (hpl : (backTo pos (starEach es X.env)).any (·.1) = false) :
    PE X (.Call (.Name x p) (e :: es) [] pos) (semE P C (vCall x as)) := ⟨fun pins s σ H Q I h => (g_call (ds := []) (dvs := []) Fn hr hgd hg hm hk hb .nil ha hdb he hpl).run pins s σ H Q I (by
  refine semL_mono (sem_call h) fun vs H' z => ?_
  rw [List.append_nil]; exact z)⟩
theorem e_call0 {k : Nat} {f : Addr} {fd : FuncData} {ps : List Str} {x : Str} {p pos : Pos} (Fn : GnOk X.prog X.w X.K X.mg X.base k f fd ps (spV P C x)) (hr : Room k X.A) (hgd : X.A.guards = some []) (hg : Gl X x) (hm : X.mg x = some (.ref f)) (hk : PySem.W.keepIn X.K (.ref f) = true)
    (hb : Binds X.K fd ps []) (hdb : (x == ("__debug__" : Str)) = false) : PE X (.Call (.Name x p) [] [] pos) (semE P C (vCall x [])) := ⟨fun pins s σ H Q I h => (g_call0 (ds := []) (dvs := []) Fn hr hgd hg hm hk hb .nil hdb).run pins s σ H Q I (sem_call h)⟩
end VS

/-! VBuilt2: slices without ends, isinstance, chains of comparisons. -/
namespace VS
open PySem PySem.Spec PyProof.Rows L2
variable {P : Pg} {C : CT} {X : Cx}

theorem e_slN {a : Expr} {x : AR} {pos p2 : Pos} (hK : X.K = P.K) (ha : PE X a (semAR P C x)) : PE X (.Subscript a (.Slice none none none p2) pos) (semE P C (vP pSlN [x])) :=
  ⟨fun pins s σ H Q I h => (pe_slice (sl_any hK) ha po_none po_none).run pins s σ H Q I (by
    obtain ⟨rs, r, hp, h⟩ := sem_primK h
    unfold pSlN at hp
    split at hp
    · rename_i d e
      obtain ⟨⟨d1, o1⟩, r1, rfl⟩ : ∃ y ys, rs = y :: ys := by cases rs with | nil => simp at e | cons y ys => exact ⟨y, ys, rfl⟩
      simp only [List.map_cons, List.cons.injEq, List.map_eq_nil_iff] at e
      obtain ⟨rfl, rfl⟩ := e
      refine semAR_mono (semAR_k h) fun v H1 h => ?_
      obtain ⟨U, al, rr, q⟩ := h
      refine slice_run hK hp ⟨U, al, ?_, q⟩
      cases rr with | cons k _ => exact k
    · cases hp)⟩

/-! isinstance -/
theorem RR.tyX {U : Pr} {H : Hp} {v : V} {d : D} {t : String} {K : PySem.W.Frag} (h : RR P (hide U H) H v d) (ht : tyOf d = some t) : TyX K H v (.type t) := by
  cases d with
  | non => cases h.non; cases ht; exact .base .non
  | bl b => cases h.bl; cases ht; exact .base (.bl _)
  | int i => cases h.int; cases ht; exact .base (.int _)
  | str s => cases h.str; cases ht; exact .base (.str _)
  | lst xs =>
    obtain ⟨a, vs, rfl, ha, _⟩ := h.lst
    cases ht; exact .base (.lst ha)
  | tup xs =>
    obtain ⟨a, vs, rfl, ha, _⟩ := h.tup
    cases ht; exact .base (.tup ha)
  | dct kvs => cases ht
  | ins c fs => cases ht
  | wk xs => cases ht
theorem tyOf_in {d : D} {t : String} (h : tyOf d = some t) : t ∈ ["NoneType", "bool", "int", "str", "list", "tuple"] := by
  cases d <;> cases h <;> decide
def kitTab : Bool := ["NoneType", "bool", "int", "str", "list", "tuple"].all fun t => ["int", "bool", "str", "list", "tuple", "dict"].all fun T => decide (kitB t T = isaS t T)
theorem kitTab_ok : kitTab = true := by decide +kernel
theorem isa_kit {d : D} {t T : String} {b : Bool} (ht : tyOf d = some t) (h : isaS t T = some b) : kitB t T = some b := by
  have hT : T ∈ ["int", "bool", "str", "list", "tuple", "dict"] := by
    unfold isaS at h
    split at h
    · rename_i e; subst e; decide
    · split at h
      · rename_i e; rcases e with rfl | rfl | rfl | rfl | rfl <;> decide
      · cases h
  have := kitTab_ok
  unfold kitTab at this
  rw [List.all_eq_true] at this
  have := this t (tyOf_in ht)
  rw [List.all_eq_true] at this
  rw [of_decide_eq_true (this T hT)]
  exact h
theorem e_isa {T : String} {a : Expr} {x : AR} {y f : Str} {np p1 pos : Pos} (hf : f = "isinstance") (hg : Gl X f) (hm : X.mg f = none) (hgy : Gl X y) (hmy : X.mg y = none) (hv : bootBuiltins y = some (.type T)) (hn : y ≠ "__name__") (hdy : (y == ("__debug__" : Str)) = false) (ha : PE X a (semAR P C x))
    (hs : starEach [a, .Name y p1] X.env = (false, eval a X.env) :: starEach [.Name y p1] X.env) : PE X (.Call (.Name f np) [a, .Name y p1] [] pos) (semE P C (vP (pIsa T) [x])) := by
  subst hf
  refine ⟨fun pins s σ H Q I h => (pe_callB call_isi hg hm (by rfl) (pa_cons ha (pa_cons (pe_bltn (v := .ty T) hgy hmy hv rfl hn hdy) pa_nil) hs) (he := hs)).run pins s σ H Q I ?_⟩
  have h := sem_prim h
  refine semAR_mono (show semAR P C x σ H _ from h) fun v H1 h => ?_
  obtain ⟨U, ds, r, al, rr, hp, q⟩ := h
  unfold pIsa at hp
  split at hp
  · rename_i d
    obtain ⟨_, e, k⟩ := rr.one
    cases e
    split at hp
    · rename_i t ht
      cases hb : isaS t T with
      | none => rw [hb] at hp; cases hp
      | some b =>
        rw [hb] at hp
        cases hp
        exact ⟨v, .ty T, .type t, .type T, b, rfl, .ty T, k.tyX ht, kit_ty (isa_kit ht hb), q _ _ (.bl b)⟩
    · cases hp
  · cases hp
theorem e_isa2 {T S : String} {a : Expr} {x : AR} {y z f : Str} {k : Nat} {np p1 p2 p3 pos : Pos} (hf : f = "isinstance") (hg : Gl X f) (hm : X.mg f = none) (hgy : Gl X y) (hmy : X.mg y = none) (hv : bootBuiltins y = some (.type T)) (hn : y ≠ "__name__") (hdy : (y == ("__debug__" : Str)) = false)
    (hgz : Gl X z) (hmz : X.mg z = none) (hvz : bootBuiltins z = some (.type S)) (hnz : z ≠ "__name__") (hdz : (z == ("__debug__" : Str)) = false) (ha : PE X a (semAR P C x))
    (hs : starEach [a, .Tuple [.Name y p1, .Name z p2] k p3] X.env = (false, eval a X.env) :: starEach [.Tuple [.Name y p1, .Name z p2] k p3] X.env) : PE X (.Call (.Name f np) [a, .Tuple [.Name y p1, .Name z p2] k p3] [] pos) (semE P C (vP (pIsa2 T S) [x])) := by
  subst hf
  refine ⟨fun pins s σ H Q I h => (pe_callB call_isiT hg hm (by rfl) (pa_cons ha (pa_cons (pe_tup (pa_cons (pe_bltn (v := .ty T) hgy hmy hv rfl hn hdy) (pa_cons (pe_bltn (v := .ty S) hgz hmz hvz rfl hnz hdz) pa_nil))) pa_nil) hs) (he := hs)).run pins s σ H Q I ?_⟩
  have h := sem_prim h
  refine semAR_mono (show semAR P C x σ H _ from h) fun v H1 h => ?_
  obtain ⟨U, ds, r, al, rr, hp, q⟩ := h
  unfold pIsa2 at hp
  split at hp
  · rename_i d
    obtain ⟨_, e, kk⟩ := rr.one
    cases e
    split at hp
    · rename_i t ht
      split at hp
      · rename_i b1 b2 h1 h2
        cases hp
        refine ⟨show 2 ≤ sizeLine by decide, fun p np => ⟨v, p, [.ty T, .ty S], .type t, [.type T, .type S], b1 || b2, rfl, upd_same, .cons (.ty T) (.cons (.ty S) .nil), ?_, ?_, q _ _ ⟨same_upd np, .bl _, fun a z => nomatch z.1⟩⟩⟩
        · refine (kk.grow (G' := hide U (upd H1 p (.tup [.ty T, .ty S]))) (H' := upd H1 p (.tup [.ty T, .ty S])) (grow_hide (same_upd np) fun b z _ => z) fun a _ z => ?_).tyX ht
          cases w : H1 a with
          | none => exact (z w).elim
          | some u => exact same_upd np a u w
        · refine kitAny_cons (kit_ty (isa_kit ht h1)) (fun e => ?_) fun e => by rw [e]; rfl
          rw [e, Bool.false_or]
          exact kitAny_cons (r := b2) (kit_ty (isa_kit ht h2)) (fun e => by rw [e]; exact kitAny_nil) id
      · cases hp
    · cases hp
  · cases hp

/-! x.bit_length() -/
theorem e_bits {o : Expr} {x : AR} {apos pos : Pos} (ho : PE X o (semAR P C x)) (hb : attributeBase o "bit_length" X.env (eval o X.env) = eval o X.env) (hl : (apos.endLine == pos.line) = true) : PE X (.Call (.Attribute o "bit_length" apos) [] [] pos) (semE P C (vP pBits [x])) :=
  ⟨fun pins s σ H Q I h => (pe_bits ho hb hl).run pins s σ H Q I (semAR_mono (show semAR P C x σ H _ from sem_prim h) fun v H1 h => by
    obtain ⟨U, ds, r, al, rr, hp, q⟩ := h
    unfold pBits at hp
    split at hp
    · rename_i i
      obtain ⟨_, e, k⟩ := rr.one
      cases e
      cases k.int
      refine ⟨i, rfl, ?_⟩
      have e : ((Builtin.Int.intBits i : Nat) : Int) = if i = 0 then 0 else (i.natAbs.log2 : Int) + 1 := by
        unfold Builtin.Int.intBits
        by_cases z : i = 0
        · subst z; rfl
        · rw [if_neg z, if_neg (by simpa using z)]; rfl
      rw [e]
      cases hp
      exact q _ _ (.int _)
    · cases hp)⟩
/-! chains -/
theorem sem_chain {p q : List D → Option R} {x y z : AR} {σ : St} {H : Hp} {Q : VK} (h : semE P C (vChain p q x y z) σ H Q) : tChain (opR P p) (opR P q) (semAR P C x) (semAR P C y) (semAR P C z) σ H Q := by
  obtain ⟨F, e, e', res, E, h1, k⟩ := h
  unfold vChain at h1
  split at h1
  · rename_i e1 a j o h2
    have main := args_ok (C := C) (Q := fun vs H2 => ∃ v w, vs = [v, w] ∧ opR P p v w H2 fun z' H3 => ∃ k, z' = .bl k ∧ (if k = true then semAR P C z σ H3 fun w' H4 => opR P q w w' H4 Q else Q (.bl false) H3)) [x, y] E h2 fun vs H1 po => by
      obtain ⟨v, w, rfl, r1, r2⟩ := po.rrs.two
      have ew := r2.int
      subst ew
      refine ⟨v, _, rfl, ?_⟩
      split at h1
      · rename_i o2 h3
        refine ⟨_, _, _, fun b z => po.env.there z, .cons r1 (.cons r2 .nil), h3, fun v' H3 re => ⟨true, re.rv.rr.bl, ?_⟩⟩
        rw [if_pos rfl]
        have pB := (po.prim re).drop
        split at h1
        · rename_i e2 zr h4
          split at h1
          · rename_i r' h5
            cases h1
            exact semAR_one pB.env0 h4 fun v3 H4 poZ => ⟨_, _, _, fun b z => poZ.env.there z, .cons (.inl (.int j)) poZ.rrs, h5, fun v4 H5 re' => k v4 H5 (pB.seq (poZ.prim re'))⟩
          · cases h1
        · cases h1
      · rename_i o2 h3
        cases h1
        refine ⟨_, _, _, fun b z => po.env.there z, .cons r1 (.cons r2 .nil), h3, fun v' H3 re => ⟨false, re.rv.rr.bl, ?_⟩⟩
        rw [if_neg (by decide)]
        have pB := (po.prim re).drop
        exact k _ _ (pB.flatOf (.bl false))
      · cases h1
    exact semAR_mono (show semAR P C x σ H _ from main) fun v H1 h => semAR_mono (show semAR P C y σ H1 _ from h) fun w H2 h => by
      obtain ⟨_, _, e, b⟩ := h
      cases e
      exact b
  · cases h1
theorem e_chain {op op' : CmpOp} {p q : List D → Option R} {a b c : Expr} {x y z : AR} {pos : Pos} (ho : OpR X (compareOp op) (opR P p)) (ho' : OpR X (compareOp op') (opR P q)) (ha : PE X a (semAR P C x)) (hb : PE X b (semAR P C y)) (hc : PE X c (semAR P C z)) (hm : lastMarks [op, op'] [b, c] = false) :
    PE X (.Compare a [op, op'] [b, c] pos) (semE P C (vChain p q x y z)) := ⟨fun pins s σ H Q I h => (pe_chain ho ho' ha hb hc hm).run pins s σ H Q I (sem_chain h)⟩
theorem t_chain {op op' : CmpOp} {p q : List D → Option R} {a b c : Expr} {x y z : AR} {pos : Pos} (ho : OpR X (compareOp op) (opR P p)) (ho' : OpR X (compareOp op') (opR P q)) (ha : PE X a (semAR P C x)) (hb : PE X b (semAR P C y)) (hc : PE X c (semAR P C z)) (hm : lastMarks [op, op'] [b, c] = false) :
    PT X (.Compare a [op, op'] [b, c] pos) (semT P C (vChain p q x y z)) := ⟨fun pins s σ H Q I ⟨F, e, e', b', o, E, h1, k⟩ => (pt_chain ho ho' ha hb hc hm).run pins s σ H Q I (sem_chain (P := P) (C := C) ⟨F, _, _, _, E, h1, fun v H' po => ⟨b', po.rv.one.rr.bl, k H' po.drop⟩⟩)⟩
end VS

/-! VComp: expressions turned into combinators; sound by rule. -/
namespace VS
open PySem PySem.Spec PyProof.Rows L2
variable {P : Pg} {C : CT} {X : Cx}

def vStuck : EF := fun _ _ => none
theorem e_stuck {ex : Expr} : PE X ex (semE P C vStuck) := ⟨fun pins s σ H Q I ⟨F, e, e', r, E, h, q⟩ => nomatch h⟩
theorem t_stuck {ex : Expr} : PT X ex (semT P C vStuck) := ⟨fun pins s σ H Q I ⟨F, e, e', b, o, E, h, q⟩ => nomatch h⟩

/-- what a def's text is read with: the slots' names; the defs that may be called; the built-in names -/
structure Cc where
  N : List Str
  fs : List Str
  bs : List Str
def CanCall (P : Pg) (C : CT) (X : Cx) (x : Str) : Prop := ∃ (k : Nat) (f : Addr) (fd : FuncData) (ps : List Str), GnOk X.prog X.w X.K X.mg X.base k f fd ps (spV P C x) ∧ Room k X.A ∧ X.mg x = some (.ref f) ∧ PySem.W.keepIn X.K (.ref f) = true ∧ Binds X.K fd ps []
structure GoodX (P : Pg) (C : CT) (c : Cc) (sc : Scope) (X : Cx) : Prop where
  hN : X.N = c.N
  nd : c.N.Nodup
  scp : X.env.scope = sc
  kind : sc.kind = .function
  calm : X.calm = true
  K : X.K = P.K
  units : X.A.units + 200 < cLine
  guards : X.A.guards = some []
  bl : ∀ x ∈ c.bs, X.mg x = none
  fs : ∀ x ∈ c.fs, CanCall P C X x
theorem GoodX.blk {c : Cc} {sc scope : Scope} (G : GoodX P C c sc X) (hk : scope.kind = .function) (s : Shared) (H : Hp) (C' : Addr) (cl : List (Str × Addr)) (fp : List Addr) : GoodX P C c (relS scope sc) (X.blk s H scope (compEnvC scope cl C' X.env) fp) where
  hN := G.hN
  nd := G.nd
  scp := by
    have := G.scp
    subst this
    rfl
  kind := hk
  calm := G.calm
  K := G.K
  units := G.units
  guards := G.guards
  bl := G.bl
  fs := G.fs

def ixOf : List Str → Str → Option Nat
  | [], _ => none
  | y :: r, x => if y = x then some 0 else (ixOf r x).map (· + 1)
theorem ixOf_at : ∀ {N : List Str} {x : Str} {i : Nat}, ixOf N x = some i → N[i]? = some x
  | [], _, _, h => nomatch h
  | y :: r, x, i, h => by
    unfold ixOf at h
    split at h
    · rename_i e; cases h; rw [e]; rfl
    · cases q : ixOf r x with
      | none => rw [q] at h; cases h
      | some j => rw [q] at h; cases h; simpa using ixOf_at q
def okN (x : Str) : Bool := !(x == ("__debug__" : Str)) && !(x == ("__classdict__" : Str))
def isVis (sc : Scope) (x : Str) : Bool := match sc.names.lookup x with
  | some .local => true
  | some .cell => true
  | some .free => true
  | _ => false
theorem isVis_ok {sc : Scope} {x : Str} (h : isVis sc x = true) : Vis sc x := by
  unfold isVis at h
  split at h
  · exact .inl (by assumption)
  · exact .inr (.inl (by assumption))
  · exact .inr (.inr (by assumption))
  · cases h
def cVar (c : Cc) (sc : Scope) (x : Str) : Option Nat := if isVis sc x && okN x then ixOf c.N x else none
theorem cVar_ok {c : Cc} {sc : Scope} {x : Str} {i : Nat} {pos : Pos} (G : GoodX P C c sc X) (h : cVar c sc x = some i) : PE X (.Name x pos) (tVar i) := by
  unfold cVar at h
  split at h
  · rename_i hc
    unfold okN at hc
    simp only [Bool.and_eq_true, Bool.not_eq_true'] at hc
    exact pe_var (by rw [G.hN]; exact ixOf_at h) (by rw [G.scp]; exact isVis_ok hc.1) hc.2.1 hc.2.2
  · cases h
def isGl (sc : Scope) (x : Str) : Bool := decide (sc.names.lookup x = some .globalImplicit)
theorem isGl_ok {c : Cc} {sc : Scope} {x : Str} (G : GoodX P C c sc X) (h : isGl sc x = true) : Gl X x := by
  have := of_decide_eq_true h
  unfold Gl Env.kindOf
  rw [G.scp]; exact this

def nameOf : Expr → Option Str
  | .Name x _ => some x
  | _ => none
theorem nameOf_ok {e : Expr} {x : Str} (h : nameOf e = some x) : ∃ pos, e = .Name x pos := by
  cases e <;> first | (cases h; exact ⟨_, rfl⟩) | cases h
def arOf (c : Cc) (sc : Scope) (g : Expr → EF) (e : Expr) : AR := match nameOf e with
  | some x => match cVar c sc x with
    | some i => .nm i
    | none => .ex vStuck
  | none => .ex (g e)
theorem ar_ok {c : Cc} {sc : Scope} {g : Expr → EF} (G : GoodX P C c sc X) (hg : ∀ e, PE X e (semE P C (g e))) (e : Expr) : PE X e (semAR P C (arOf c sc g e)) := by
  unfold arOf
  split
  · rename_i x hx
    obtain ⟨pos, rfl⟩ := nameOf_ok hx
    split
    · rename_i i hi; exact cVar_ok G hi
    · exact e_stuck
  · exact hg e

/-! argument lists -/
def notStar : Expr → Bool
  | .Starred .. => false
  | _ => true
theorem starEach_cons {e : Expr} {es : List Expr} {env : Env} (h : notStar e = true) : starEach (e :: es) env = (false, eval e env) :: starEach es env := by
  cases e <;> first | rfl | cases h
theorem starEach_plain {env : Env} {pos : Pos} : ∀ {es : List Expr}, es.all notStar = true → (backTo pos (starEach es env)).any (·.1) = false
  | [], _ => rfl
  | e :: es, h => by
    rw [List.all_cons, Bool.and_eq_true] at h
    rw [starEach_cons h.1]
    show (false || _) = false
    rw [Bool.false_or]
    exact starEach_plain (es := es) h.2
theorem pa_ok {ar : Expr → AR} (hg : ∀ e, PE X e (semAR P C (ar e))) : ∀ {es : List Expr}, es.all notStar = true → PA X es (semL P C (es.map ar))
  | [], _ => pa_nil
  | e :: es, h => by
    rw [List.all_cons, Bool.and_eq_true] at h
    exact pa_cons (hg e) (pa_ok hg h.2) (starEach_cons h.1)
theorem pa_ex {g : Expr → EF} (hg : ∀ e, PE X e (semE P C (g e))) {es : List Expr} (h : es.all notStar = true) : PA X es (semL P C ((es.map g).map .ex)) := by
  rw [List.map_map]
  exact pa_ok (ar := fun e => .ex (g e)) hg h
theorem paired_map {α β : Type} {F : α → β → Prop} {g : α → β} (h : ∀ a, F a (g a)) : ∀ (l : List α), Paired F l (l.map g)
  | [] => .nil
  | a :: l => .cons (h a) (paired_map h l)

/-! operators -/
def binP : Operator → Option (List D → Option R)
  | .Add => some pAdd
  | .Sub => some pSub
  | .Mult => some pMul
  | .FloorDiv => some pFdiv
  | .Mod => some pMod
  | .Pow => some pPow
  | .LShift => some pShl
  | .RShift => some pShr
  | .BitAnd => some pAnd
  | .BitOr => some pOr
  | _ => none
theorem binP_ok {op : Operator} {p : List D → Option R} (h : binP op = some p) : OpR X (binaryOp op) (opR P p) := by
  cases op <;> first
    | (cases h; exact add_any) | (cases h; exact sub_any) | (cases h; exact mul_any) | (cases h; exact fdiv_any) | (cases h; exact mod_any) | (cases h; exact pow_any) | (cases h; exact shl_any) | (cases h; exact shr_any) | (cases h; exact and_any) | (cases h; exact or_any) | cases h
def cmpP : CmpOp → Option (List D → Option R)
  | .Lt => some pLt
  | .LtE => some pLe
  | .Gt => some pGt
  | .GtE => some pGe
  | .Eq => some pEq
  | .NotEq => some pNe
  | _ => none
theorem cmpP_ok {c : Cc} {sc : Scope} (G : GoodX P C c sc X) {op : CmpOp} {p : List D → Option R} (h : cmpP op = some p) : OpR X (compareOp op) (opR P p) := by
  cases op <;> first
    | (cases h; exact lt_any) | (cases h; exact le_any) | (cases h; exact gt_any) | (cases h; exact ge_any) | (cases h; exact eq_any G.K G.units) | (cases h; exact ne_any G.K G.units) | cases h
theorem cmp_mark {op : CmpOp} {p : List D → Option R} {e : Expr} (h : cmpP op = some p) : behindInMarks op e = false := by
  cases op <;> first | exact nobehind _ (by decide) (by decide) | cases h
def isNone : Expr → Bool
  | .Constant .none _ _ => true
  | _ => false
theorem isNone_ok {e : Expr} (h : isNone e = true) : ∃ j p, e = .Constant .none j p := by
  cases e with
  | Constant k j p => cases k <;> first | exact ⟨_, _, rfl⟩ | cases h
  | _ => cases h
def cmpE (ar : Expr → AR) (a : Expr) : List CmpOp → List Expr → EF
  | [op], [b] => match cmpP op with
    | some p => vP p [ar a, ar b]
    | none => match op with
      | .Is => if isNone b then vP pIsN [ar a] else vStuck
      | .IsNot => if isNone b then vP pNotN [ar a] else vStuck
      | _ => vStuck
  | [op, op'], [b, d] => match cmpP op, cmpP op' with
    | some p, some q => vChain p q (ar a) (ar b) (ar d)
    | _, _ => vStuck
  | _, _ => vStuck
theorem cmpE_ok {c : Cc} {sc : Scope} (G : GoodX P C c sc X) {ar : Expr → AR} (hg : ∀ e, PE X e (semAR P C (ar e))) (a : Expr) (ops : List CmpOp) (bs : List Expr) (pos : Pos) : PE X (.Compare a ops bs pos) (semE P C (cmpE ar a ops bs)) ∧ PT X (.Compare a ops bs pos) (semT P C (cmpE ar a ops bs)) := by
  unfold cmpE
  split
  · rename_i op b
    split
    · rename_i p hp
      exact ⟨e_cmp (cmpP_ok G hp) (hg a) (hg b) (cmp_mark hp), t_cmp (cmpP_ok G hp) (hg a) (hg b) (cmp_mark hp)⟩
    · split
      · split
        · rename_i hb
          obtain ⟨j, p, rfl⟩ := isNone_ok hb
          exact ⟨e_isN (hg a), t_isN (hg a)⟩
        · exact ⟨e_stuck, t_stuck⟩
      · split
        · rename_i hb
          obtain ⟨j, p, rfl⟩ := isNone_ok hb
          exact ⟨e_notN (hg a), t_notN (hg a)⟩
        · exact ⟨e_stuck, t_stuck⟩
      · exact ⟨e_stuck, t_stuck⟩
  · rename_i op op' b d
    split
    · rename_i p q hp hq
      have hm : lastMarks [op, op'] [b, d] = false := cmp_mark (e := d) hq
      exact ⟨e_chain (cmpP_ok G hp) (cmpP_ok G hq) (hg a) (hg b) (hg d) hm, t_chain (cmpP_ok G hp) (cmpP_ok G hq) (hg a) (hg b) (hg d) hm⟩
    · exact ⟨e_stuck, t_stuck⟩
  · exact ⟨e_stuck, t_stuck⟩

/-! constants -/
def constE : Const → EF
  | .int i => vLit (.int i)
  | .bool b => vLit (.bl b)
  | .none => vLit .non
  | .str x => vLit (.str x)
  | _ => vStuck
theorem constE_ok {k : Const} {j : Nat} {pos : Pos} : PE X (.Constant k j pos) (semE P C (constE k)) := by
  cases k <;> first | exact e_int | exact e_bl | exact e_non | exact e_str | exact e_stuck

/-! calls -/
def bltP (f : Str) (n : Nat) : Option (List D → Option R) :=
  if f = "len" ∧ n = 1 then some pLen
  else if f = "int" ∧ n = 1 then some pInt
  else if f = "abs" ∧ n = 1 then some pAbs
  else if f = "list" ∧ n = 1 then some pList
  else if f = "max" ∧ n = 2 then some pMax2
  else if f = "min" ∧ n = 2 then some pMin2
  else if f = "repr" ∧ n = 1 then some pRepr
  else none
theorem bltP_ok {c : Cc} {sc : Scope} (G : GoodX P C c sc X) {f : Str} {n : Nat} {p : List D → Option R} (h : bltP f n = some p) (hg : Gl X f) (hm : X.mg f = none) {e : Expr} {es : List Expr} {as : List AR} {np pos : Pos} (ha : PA X (e :: es) (semL P C as)) (hs : (e :: es).all notStar = true) :
    PE X (.Call (.Name f np) (e :: es) [] pos) (semE P C (vP p as)) := by
  have hs' := hs
  rw [List.all_cons, Bool.and_eq_true] at hs'
  have he := starEach_cons (env := X.env) (es := es) hs'.1
  have hpl := starEach_plain (env := X.env) (pos := pos) hs'.2
  unfold bltP at h
  split at h
  · rename_i z; obtain ⟨rfl, _⟩ := z; cases h
    exact e_callB len_any hg hm rfl ha (by decide) (by decide) he hpl
  split at h
  · rename_i z; obtain ⟨rfl, _⟩ := z; cases h
    exact e_callTy int_any hg hm rfl ha (by decide) (by decide) he hpl
  split at h
  · rename_i z; obtain ⟨rfl, _⟩ := z; cases h
    exact e_callB abs_any hg hm rfl ha (by decide) (by decide) he hpl
  split at h
  · rename_i z; obtain ⟨rfl, _⟩ := z; cases h
    exact e_callTy list_any hg hm rfl ha (by decide) (by decide) he hpl
  split at h
  · rename_i z; obtain ⟨rfl, _⟩ := z; cases h
    exact e_callB (max2_any G.calm) hg hm rfl ha (by decide) (by decide) he hpl
  split at h
  · rename_i z; obtain ⟨rfl, _⟩ := z; cases h
    exact e_callB (min2_any G.calm) hg hm rfl ha (by decide) (by decide) he hpl
  split at h
  · rename_i z; obtain ⟨rfl, _⟩ := z; cases h
    exact e_callB (repr_call G.K G.guards G.units) hg hm rfl ha (by decide) (by decide) he hpl
  · cases h
/-- a built-in type's name -/
def tyN (x : Str) : Option String :=
  if x = "int" then some "int" else if x = "bool" then some "bool" else if x = "str" then some "str" else if x = "list" then some "list" else if x = "tuple" then some "tuple" else if x = "dict" then some "dict" else none
theorem tyN_ok {x : Str} {T : String} (h : tyN x = some T) : bootBuiltins x = some (.type T) ∧ x ≠ "__name__" ∧ (x == ("__debug__" : Str)) = false := by
  unfold tyN at h
  split at h
  · rename_i e; subst e; cases h; exact ⟨rfl, by decide, by decide⟩
  split at h
  · rename_i e; subst e; cases h; exact ⟨rfl, by decide, by decide⟩
  split at h
  · rename_i e; subst e; cases h; exact ⟨rfl, by decide, by decide⟩
  split at h
  · rename_i e; subst e; cases h; exact ⟨rfl, by decide, by decide⟩
  split at h
  · rename_i e; subst e; cases h; exact ⟨rfl, by decide, by decide⟩
  split at h
  · rename_i e; subst e; cases h; exact ⟨rfl, by decide, by decide⟩
  · cases h
/-- a built-in type, named -/
def tyE (c : Cc) (sc : Scope) (e : Expr) : Option String := match nameOf e with
  | some x => if isGl sc x = true ∧ x ∈ c.bs then tyN x else none
  | none => none
theorem tyE_ok {c : Cc} {sc : Scope} (G : GoodX P C c sc X) {e : Expr} {T : String} (h : tyE c sc e = some T) : ∃ x pos, e = .Name x pos ∧ Gl X x ∧ X.mg x = none ∧ bootBuiltins x = some (.type T) ∧ x ≠ "__name__" ∧ (x == ("__debug__" : Str)) = false := by
  unfold tyE at h
  split at h
  · rename_i x hx
    obtain ⟨pos, rfl⟩ := nameOf_ok hx
    split at h
    · rename_i z
      exact ⟨x, pos, rfl, isGl_ok G z.1, G.bl x z.2, tyN_ok h⟩
    · cases h
  · cases h
def isaE (c : Cc) (sc : Scope) (ar : Expr → AR) (a b : Expr) : EF := if notStar a then
    match tyE c sc b with
    | some T => vP (pIsa T) [ar a]
    | none => match b with
      | .Tuple [y, z] _ _ => match tyE c sc y, tyE c sc z with
        | some T, some S => vP (pIsa2 T S) [ar a]
        | _, _ => vStuck
      | _ => vStuck
  else vStuck
theorem isaE_ok {c : Cc} {sc : Scope} (G : GoodX P C c sc X) {ar : Expr → AR} (hr : ∀ e, PE X e (semAR P C (ar e))) {f : Str} (hf : f = "isinstance") (hg : Gl X f) (hm : X.mg f = none) (a b : Expr) {np pos : Pos} : PE X (.Call (.Name f np) [a, b] [] pos) (semE P C (isaE c sc ar a b)) := by
  unfold isaE
  split
  · rename_i hn
    split
    · rename_i T hT
      obtain ⟨x, p, rfl, g1, g2, g3, g4, g5⟩ := tyE_ok G hT
      exact e_isa hf hg hm g1 g2 g3 g4 g5 (hr a) (starEach_cons hn)
    · split
      · rename_i y z k p
        split
        · rename_i T S hT hS
          obtain ⟨x, p, rfl, g1, g2, g3, g4, g5⟩ := tyE_ok G hT
          obtain ⟨x', p', rfl, k1, k2, k3, k4, k5⟩ := tyE_ok G hS
          exact e_isa2 hf hg hm g1 g2 g3 g4 g5 k1 k2 k3 k4 k5 (hr a) (starEach_cons hn)
        · exact e_stuck
      · exact e_stuck
  · exact e_stuck
def callE (c : Cc) (sc : Scope) (ar : Expr → AR) (f : Str) (args : List Expr) : EF :=
  if isGl sc f = true ∧ args.all notStar = true ∧ (f == ("__debug__" : Str)) = false then
    if f ∈ c.bs then
      match bltP f args.length with
      | some p => match args with
        | [] => vStuck
        | _ :: _ => vP p (args.map ar)
      | none => if f = "isinstance" then
          match args with
          | [a, b] => isaE c sc ar a b
          | _ => vStuck
        else vStuck
    else if f ∈ c.fs then vCall f (args.map ar) else vStuck
  else vStuck
theorem callE_ok {c : Cc} {sc : Scope} (G : GoodX P C c sc X) {ar : Expr → AR} (hr : ∀ e, PE X e (semAR P C (ar e))) (f : Str) (args : List Expr) (np pos : Pos) : PE X (.Call (.Name f np) args [] pos) (semE P C (callE c sc ar f args)) := by
  unfold callE
  split
  · rename_i z
    have hg := isGl_ok G z.1
    split
    · rename_i hb
      have hm := G.bl f hb
      split
      · rename_i p hp
        split
        · exact e_stuck
        · rename_i e es
          exact bltP_ok G hp hg hm (pa_ok hr z.2.1) z.2.1
      · split
        · rename_i hf
          split
          · exact isaE_ok G hr hf hg hm _ _
          · exact e_stuck
        · exact e_stuck
    · split
      · rename_i hf
        obtain ⟨k, fa, fd, ps, Fn, rm, hm, hk, hb⟩ := G.fs f hf
        cases args with
        | nil => exact e_call0 Fn rm G.guards hg hm hk hb z.2.2
        | cons e es =>
          have hs' := z.2.1
          rw [List.all_cons, Bool.and_eq_true] at hs'
          exact e_call Fn rm G.guards hg hm hk hb (pa_ok hr z.2.1) z.2.2 (starEach_cons hs'.1) (starEach_plain hs'.2)
      · exact e_stuck
  · exact e_stuck
/-! list methods -/
def mutP (m : Str) (n : Nat) : Option (List D → List D → Option (List D × D)) :=
  if m = "append" ∧ n = 1 then some mAppend
  else if m = "pop" ∧ n = 0 then some mPop
  else if m = "pop" ∧ n = 1 then some mPopAt
  else if m = "clear" ∧ n = 0 then some mClear
  else if m = "extend" ∧ n = 1 then some mExtend
  else none
theorem base_name {x m : Str} {p : Pos} {env : Env} : attributeBase (.Name x p) m env (eval (.Name x p) env) = eval (.Name x p) env := rfl
theorem starEach_few {env : Env} {cpos : Pos} {es : List Expr} (hs : es.all notStar = true) : (backTo cpos (starEach es env)).all (fun x => !x.1) = true := by
  have := starEach_plain (env := env) (pos := cpos) hs
  rw [List.all_eq_true]
  intro y hy
  rw [List.any_eq_false] at this
  simpa using this y hy
def mutE (c : Cc) (sc : Scope) (g : Expr → EF) (o : Expr) (m : Str) (apos cpos : Pos) (args : List Expr) : EF := match nameOf o with
  | some x => match cVar c sc x, mutP m args.length with
    | some i, some mm => if args.all notStar = true ∧ (apos.endLine == cpos.line) = true then vMut mm i (args.map g) else vStuck
    | _, _ => vStuck
  | none => vStuck
theorem mutE_ok {c : Cc} {sc : Scope} (G : GoodX P C c sc X) {g : Expr → EF} (hg : ∀ e, PE X e (semE P C (g e))) (o : Expr) (m : Str) (apos cpos : Pos) (args : List Expr) : PE X (.Call (.Attribute o m apos) args [] cpos) (semE P C (mutE c sc g o m apos cpos args)) := by
  unfold mutE
  split
  · rename_i x hx
    obtain ⟨p, rfl⟩ := nameOf_ok hx
    split
    · rename_i i mm hi hm
      split
      · rename_i z
        have ho := cVar_ok (pos := p) G hi
        unfold mutP at hm
        have few : ∀ e : Expr, [e].all notStar = true → ((backTo cpos (starEach [e] X.env)).all (fun x => !x.1) && (backToKw cpos (keywordEach [] X.env)).all (fun x => x.1.isSome)
            && decide (([e] : List Expr).length + ([] : List Keyword).length + (if ([] : List Keyword).isEmpty then 0 else 1) < 30)) = true := fun e he => by
          rw [starEach_few he]; rfl
        split at hm
        · rename_i q; obtain ⟨rfl, hl⟩ := q; cases hm
          match args, hl, z with
          | [e], _, z => exact e_mut PySem.F.slot_list_append PySem.F.type_list_append app_any ho (pa_ex hg z.1) base_name (few e z.1) z.2 (starEach_cons (by simpa using z.1)) rfl
        split at hm
        · rename_i q; obtain ⟨rfl, hl⟩ := q; cases hm
          match args, hl, z with
          | [], _, z => exact e_mut0 PySem.F.slot_list_pop PySem.F.type_list_pop pop_any ho base_name z.2
        split at hm
        · rename_i q; obtain ⟨rfl, hl⟩ := q; cases hm
          match args, hl, z with
          | [e], _, z => exact e_mut PySem.F.slot_list_pop PySem.F.type_list_pop popAt_any ho (pa_ex hg z.1) base_name (few e z.1) z.2 (starEach_cons (by simpa using z.1)) rfl
        split at hm
        · rename_i q; obtain ⟨rfl, hl⟩ := q; cases hm
          match args, hl, z with
          | [], _, z => exact e_mut0 PySem.F.slot_list_clear PySem.F.type_list_clear clear_any ho base_name z.2
        split at hm
        · rename_i q; obtain ⟨rfl, hl⟩ := q; cases hm
          match args, hl, z with
          | [e], _, z => exact e_mut PySem.F.slot_list_extend PySem.F.type_list_extend extend_any ho (pa_ex hg z.1) base_name (few e z.1) z.2 (starEach_cons (by simpa using z.1)) rfl
        · cases hm
      · exact e_stuck
    · exact e_stuck
  · exact e_stuck
end VS

/-! VComp2: subscripts, comprehensions, targets; the compiler of expressions by rounds. -/
namespace VS
open PySem PySem.Spec PyProof.Rows L2
variable {P : Pg} {C : CT} {X : Cx}

/-! subscripts -/
def notSlice : Expr → Bool
  | .Slice .. => false
  | _ => true
theorem plainIx_of {b : Expr} (h : notSlice b = true) : PlainIx b := by
  intro o i
  cases b <;> first | rfl | cases h
def subE (g : Expr → EF) (ar : Expr → AR) (a i : Expr) : EF := match i with
  | .Slice (some b) (some d) none _ => vP pSlLH [ar a, .ex (g b), .ex (g d)]
  | .Slice (some b) none none _ => vP pSlL [ar a, .ex (g b)]
  | .Slice none (some d) none _ => vP pSlH [ar a, .ex (g d)]
  | .Slice none none none _ => vP pSlN [ar a]
  | i => if notSlice i then vP pIdx [ar a, ar i] else vStuck
theorem subE_ok {c : Cc} {sc : Scope} (G : GoodX P C c sc X) {g : Expr → EF} {ar : Expr → AR} (hg : ∀ e, PE X e (semE P C (g e))) (hr : ∀ e, PE X e (semAR P C (ar e))) (a i : Expr) (pos : Pos) : PE X (.Subscript a i pos) (semE P C (subE g ar a i)) := by
  unfold subE
  split
  · exact e_slLH G.K (hr a) (hg _) (hg _)
  · exact e_slL G.K (hr a) (hg _)
  · exact e_slH G.K (hr a) (hg _)
  · exact e_slN G.K (hr a)
  · split
    · rename_i h
      exact e_idx (hr a) (hr _) (plainIx_of h)
    · exact e_stuck

/-! targets -/
def FnX (os : Scope) (X : Cx) : Prop := ∀ x, os.names.lookup x = some .cell → X.fn x = true
def cSt (c : Cc) (sc os : Scope) (x : Str) : Option Nat :=
  if sc.names.lookup x = some .local ∨ (sc.names.lookup x = some .cell ∧ os.names.lookup x = some .cell) then ixOf c.N x else none
theorem cSt_ok {c : Cc} {sc os : Scope} (G : GoodX P C c sc X) (hf : FnX os X) {x : Str} {i : Nat} (h : cSt c sc os x = some i) : X.N[i]? = some x ∧ Loc X.env.scope x ∧ (X.fn x = true ∨ X.env.scope.names.lookup x = some .local) := by
  unfold cSt at h
  split at h
  · rename_i z
    rw [G.hN, G.scp]
    refine ⟨ixOf_at h, z.elim .inl fun z => .inr z.1, z.elim .inr fun z => .inl (hf x z.2)⟩
  · cases h
theorem GoodX.ndX {c : Cc} {sc : Scope} (G : GoodX P C c sc X) : X.N.Nodup := by rw [G.hN]; exact G.nd
abbrev TR := Option (TF × List Nat)
def tnE (c : Cc) (sc os : Scope) (e : Expr) : TR := match nameOf e with
  | some x => (cSt c sc os x).map fun i => (tName i, [i])
  | none => none
theorem tnE_ok {c : Cc} {sc os : Scope} (G : GoodX P C c sc X) (hf : FnX os X) {e : Expr} {t : TF} {sl : List Nat} (h : tnE c sc os e = some (t, sl)) : PG X e (semG P C sl t) ∧ notStar e = true := by
  unfold tnE at h
  split at h
  · rename_i x hx
    obtain ⟨p, rfl⟩ := nameOf_ok hx
    cases q : cSt c sc os x with
    | none => rw [q] at h; cases h
    | some i =>
      rw [q] at h; cases h
      obtain ⟨h1, h2, h3⟩ := cSt_ok G hf q
      exact ⟨g_name (pg_name G.ndX h1 h2 h3), rfl⟩
  · cases h
theorem assignEach_cons {e : Expr} {es : List Expr} {env : Env} (h : notStar e = true) : assignEach (e :: es) env = (false, assign e env) :: assignEach es env := by
  cases e <;> first | rfl | cases h
def tsE (f : Expr → TR) : List Expr → Option (List TF × List Nat)
  | [] => some ([], [])
  | e :: es => match f e, tsE f es with
    | some (t, s), some (ts, ss) => some (t :: ts, s ++ ss)
    | _, _ => none
theorem tsE_ok {f : Expr → TR} (hf : ∀ e t sl, f e = some (t, sl) → PG X e (semG P C sl t) ∧ notStar e = true) : ∀ {es : List Expr} {ts : List TF} {ss : List Nat}, tsE f es = some (ts, ss) →
    PGs X es (semGs P C ss ts) ∧ PGs X es (semGsR P C ts) ∧ (assignEach es X.env).length = ts.length ∧ (assignEach es X.env).findIdx? (·.1) = none
  | [], ts, ss, h => by cases h; exact ⟨gs_nil, gsR_nil, rfl, rfl⟩
  | e :: es, ts, ss, h => by
    unfold tsE at h
    split at h
    · rename_i t s ts' ss' h1 h2
      cases h
      obtain ⟨k1, k2⟩ := hf e t s h1
      obtain ⟨r1, r2, r3, r4⟩ := tsE_ok hf h2
      have ec := assignEach_cons (es := es) (env := X.env) k2
      refine ⟨gs_cons k1 r1 (by rw [ec]; rfl), gsR_cons k1 r2 (by rw [ec]; rfl), by rw [ec, List.length_cons, r3]; rfl, ?_⟩
      rw [ec, List.findIdx?_cons]
      show (if false = true then _ else Option.map _ ((assignEach es X.env).findIdx? (·.1))) = none
      rw [r4]
      rfl
    · cases h
def tupT (f : Expr → TR) (e : Expr) : TR := match e with
  | .Tuple es _ _ => (tsE f es).map fun r => (tTup r.1, r.2)
  | e => f e
theorem tupT_ok {f : Expr → TR} (hc : X.calm = true) (hf : ∀ e t sl, f e = some (t, sl) → PG X e (semG P C sl t) ∧ notStar e = true) (e : Expr) (t : TF) (sl : List Nat) (h : tupT f e = some (t, sl)) : PG X e (semG P C sl t) ∧ notStar e = true := by
  unfold tupT at h
  split at h
  · rename_i es k p
    cases q : tsE f es with
    | none => rw [q] at h; cases h
    | some r =>
      obtain ⟨ts, ss⟩ := r
      rw [q] at h; cases h
      obtain ⟨r1, r2, r3, r4⟩ := tsE_ok hf q
      exact ⟨g_tup hc r1 r3 r4, rfl⟩
  · exact hf e t sl h
/-- names, tuples of them, twice -/
def tgE (c : Cc) (sc os : Scope) : Expr → TR := tupT (tupT (tnE c sc os))
theorem tgE_ok {c : Cc} {sc os : Scope} (G : GoodX P C c sc X) (hf : FnX os X) {e : Expr} {t : TF} {sl : List Nat} (h : tgE c sc os e = some (t, sl)) : PG X e (semG P C sl t) ∧ notStar e = true :=
  tupT_ok G.calm (tupT_ok G.calm fun _ _ _ h => tnE_ok G hf h) e t sl h

/-! what is walked -/
def notSet : Expr → Bool
  | .Set .. => false
  | _ => true
theorem folded_of {e : Expr} {env : Env} (h : notSet e = true) (x : Value) : foldedSetIterable e env x = pure x := by
  cases e <;> first | rfl | cases h
def itE (c : Cc) (sc : Scope) (g : Expr → EF) (ar : Expr → AR) (it : Expr) : IF := match it with
  | .Call (.Name f _) [a] [] _ => if f = "range" ∧ isGl sc f = true ∧ f ∈ c.bs ∧ notStar a = true then ⟨[.ex (g a)], itRng1⟩ else ⟨[ar it], itSeq⟩
  | .Call (.Name f _) [a, b] [] _ => if f = "range" ∧ isGl sc f = true ∧ f ∈ c.bs ∧ notStar a = true ∧ notStar b = true then ⟨[.ex (g a), .ex (g b)], itRng2⟩ else ⟨[ar it], itSeq⟩
  | _ => ⟨[ar it], itSeq⟩
theorem itE_ok {c : Cc} {sc : Scope} (G : GoodX P C c sc X) {g : Expr → EF} {ar : Expr → AR} (hg : ∀ e, PE X e (semE P C (g e))) (hr : ∀ e, PE X e (semAR P C (ar e))) (tg it : Expr) : PI X tg it (semI P C (itE c sc g ar it)) := by
  unfold itE
  split
  · split
    · rename_i a _ z
      obtain ⟨rfl, z1, z2, z3⟩ := z
      exact i_rng1 (isGl_ok G z1) (G.bl _ z2) (pa_cons (hg a) pa_nil (starEach_cons z3)) (starEach_cons z3)
    · exact i_seq (hr _) G.K
  · split
    · rename_i a b _ z
      obtain ⟨rfl, z1, z2, z3, z4⟩ := z
      exact i_rng2 (isGl_ok G z1) (G.bl _ z2) (pa_cons (hg a) (pa_cons (hg b) pa_nil (starEach_cons z4)) (starEach_cons z3)) (by rw [starEach_cons z3, starEach_cons z4]; rfl) (starEach_cons z4)
    · exact i_seq (hr _) G.K
  · exact i_seq (hr _) G.K

/-! comprehensions -/
def ownOf (c : Cc) (scope : Scope) : List (Str × Nat) := scope.names.filterMap fun (n, k) => if k = .local ∨ k = .cell then (ixOf c.N n).map fun i => (n, i) else none
structure Rec where
  e : Expr → EF
  t : Expr → EF
def condE (t : Expr → EF) : List Expr → Option (List EF)
  | [] => some []
  | [c] => some [t c]
  | _ => none
theorem condE_ok {t : Expr → EF} (ht : ∀ e, PT X e (semT P C (t e))) {cs : List Expr} {fs : List EF} (h : condE t cs = some fs) : PTs X cs (semTs P C fs) := by
  unfold condE at h
  split at h
  · cases h; exact ts_nil
  · cases h; exact ts_one (ht _)
  · cases h
def lcE (c : Cc) (sc : Scope) (g : Expr → EF) (ar : Expr → AR) (rec : Scope → Rec) (elt : Expr) (gens : List Comprehension) (scope : Scope) : EF := match gens with
  | [⟨tg, iter, ifs, as⟩] => if as = 0 ∧ blkC c.N sc scope (ownOf c scope) = true ∧ notSet iter = true then
      match tgE c (relS scope sc) scope tg, condE (rec (relS scope sc)).t ifs with
      | some (t, sl), some cs => if sl.all (fun j => decide (j ∈ (ownOf c scope).map (·.2))) = true then vLC (itE c sc g ar iter) t ((ownOf c scope).map (·.2)) cs ((rec (relS scope sc)).e elt) else vStuck
      | _, _ => vStuck
    else vStuck
  | _ => vStuck
structure RecOk (P : Pg) (C : CT) (c : Cc) (rec : Scope → Rec) : Prop where
  e : ∀ (X : Cx) (sc : Scope), GoodX P C c sc X → ∀ ex, PE X ex (semE P C ((rec sc).e ex))
  t : ∀ (X : Cx) (sc : Scope), GoodX P C c sc X → ∀ ex, PT X ex (semT P C ((rec sc).t ex))
theorem lcE_ok {c : Cc} {sc : Scope} (G : GoodX P C c sc X) {g : Expr → EF} {ar : Expr → AR} {rec : Scope → Rec} (hg : ∀ e, PE X e (semE P C (g e))) (hr : ∀ e, PE X e (semAR P C (ar e))) (R : RecOk P C c rec) (elt : Expr) (gens : List Comprehension) (scope : Scope) (pos : Pos) :
    PE X (.ListComp elt gens scope pos) (semE P C (lcE c sc g ar rec elt gens scope)) ∧
    ∀ {i : Nat} {y : Str} {py spos : Pos}, X.N[i]? = some y → X.env.scope.names.lookup y = some .local → swapsWith (.ListComp elt gens scope pos) (some (.Name y py)) spos.line X.env = pure true →
      PS X (.Assign [.Name y py] (.ListComp elt gens scope pos) spos) (semS P C (sAsg (tName i) (lcE c sc g ar rec elt gens scope))) := by
  have stuckS : ∀ {st : Stmt} {i : Nat}, PS X st (semS P C (sAsg (tName i) vStuck)) := ⟨fun pins s σ H D I ⟨F, e, out, E, h1, q⟩ => nomatch h1⟩
  unfold lcE
  split
  · rename_i tg iter ifs as
    split
    · rename_i z
      obtain ⟨rfl, z1, z2⟩ := z
      have ok : BlkOk X.N X.env.scope scope (ownOf c scope) := by rw [G.hN, G.scp]; exact blkOk_by z1
      split
      · rename_i t sl cs h1 h2
        split
        · rename_i hsl
          rw [List.all_eq_true] at hsl
          have B : ∀ (s : Shared) (H : Hp) (C' : Addr) (cl : List (Str × Addr)) (fp : List Addr), GoodX P C c (relS scope sc) (X.blk s H scope (compEnvC scope cl C' X.env) fp) := fun s H C' cl fp => G.blk ok.kind s H C' cl fp
          have tgk : ∀ (s : Shared) (H : Hp) (C' : Addr) (cl : List (Str × Addr)) (fp : List Addr), PG (X.blk s H scope (compEnvC scope cl C' X.env) fp) tg (semG P C ((ownOf c scope).map (·.2)) t) := fun s H C' cl fp =>
            semG_more (tgE_ok (B s H C' cl fp) (fun x hx => by show (scope.names.lookup x == some .cell) = true; rw [hx]; rfl) h1).1 fun j hj => of_decide_eq_true (hsl j hj)
          exact ⟨e_lc G.calm G.ndX (itE_ok G hg hr tg iter) ok tgk (fun s H C' cl fp => condE_ok (R.t _ _ (B s H C' cl fp)) h2) (fun s H C' cl fp => R.e _ _ (B s H C' cl fp) elt) (folded_of z2),
            fun hy hl hs => s_setLc G.calm G.ndX hy hl hs (itE_ok G hg hr tg iter) ok tgk (fun s H C' cl fp => condE_ok (R.t _ _ (B s H C' cl fp)) h2) (fun s H C' cl fp => R.e _ _ (B s H C' cl fp) elt) (folded_of z2)⟩
        · exact ⟨e_stuck, fun _ _ _ => stuckS⟩
      · exact ⟨e_stuck, fun _ _ _ => stuckS⟩
    · exact ⟨e_stuck, fun _ _ _ => stuckS⟩
  · exact ⟨e_stuck, fun _ _ _ => stuckS⟩

/-! methods -/
def notCall : Expr → Bool
  | .Call .. => false
  | _ => true
theorem base_of {o : Expr} {m : Str} {env : Env} {w : Sem Value} (h : notCall o = true) : attributeBase o m env w = w := by
  cases o <;> first | rfl | cases h
def methE (c : Cc) (sc : Scope) (g : Expr → EF) (ar : Expr → AR) (o : Expr) (m : Str) (apos cpos : Pos) (args : List Expr) : EF :=
  if m = "bit_length" then
    match args with
    | [] => if notCall o = true ∧ (apos.endLine == cpos.line) = true then vP pBits [ar o] else vStuck
    | _ => vStuck
  else mutE c sc g o m apos cpos args
theorem methE_ok {c : Cc} {sc : Scope} (G : GoodX P C c sc X) {g : Expr → EF} {ar : Expr → AR} (hg : ∀ e, PE X e (semE P C (g e))) (hr : ∀ e, PE X e (semAR P C (ar e))) (o : Expr) (m : Str) (apos cpos : Pos) (args : List Expr) : PE X (.Call (.Attribute o m apos) args [] cpos) (semE P C (methE c sc g ar o m apos cpos args)) := by
  unfold methE
  split
  · rename_i e
    subst e
    split
    · split
      · rename_i z; exact e_bits (hr o) (base_of z.1) z.2
      · exact e_stuck
    · exact e_stuck
  · exact mutE_ok G hg _ _ _ _ _

/-! a round -/
def stepE (c : Cc) (sc : Scope) (rec : Scope → Rec) (e : Expr) : EF :=
  let g := (rec sc).e
  let ar := arOf c sc g
  match e with
  | .Constant k _ _ => constE k
  | .Name x _ => match cVar c sc x with
    | some i => vVar i
    | none => vStuck
  | .BinOp a op b _ => match binP op with
    | some p => vP p [ar a, ar b]
    | none => vStuck
  | .UnaryOp .USub a _ => vP pNeg [ar a]
  | .UnaryOp .Not a _ => vNot (g a)
  | .BoolOp .And (a :: r) _ => vAnds ((a :: r).map g)
  | .BoolOp .Or (a :: r) _ => vOrs ((a :: r).map g)
  | .Compare a ops bs _ => cmpE ar a ops bs
  | .IfExp t a b _ => vIfE ((rec sc).t t) (g a) (g b)
  | .Tuple es _ _ => if es.all notStar = true then vP pTup ((es.map g).map .ex) else vStuck
  | .List es _ => if es.all notStar = true then vP pLst ((es.map g).map .ex) else vStuck
  | .Call (.Name f _) args [] _ => callE c sc ar f args
  | .Call (.Attribute o m apos) args [] cpos => methE c sc g ar o m apos cpos args
  | .Subscript a i _ => subE g ar a i
  | .ListComp elt gens scope _ => lcE c sc g ar rec elt gens scope
  | _ => vStuck
theorem stepE_ok {c : Cc} {sc : Scope} (G : GoodX P C c sc X) {rec : Scope → Rec} (R : RecOk P C c rec) (e : Expr) : PE X e (semE P C (stepE c sc rec e)) := by
  have hg := R.e X sc G
  have hr := ar_ok G hg
  unfold stepE
  split
  · exact constE_ok
  · split
    · rename_i i hi; exact e_var (cVar_ok G hi)
    · exact e_stuck
  · split
    · rename_i p hp; exact e_bin (binP_ok hp) (hr _) (hr _)
    · exact e_stuck
  · exact e_un neg_any (hr _)
  · exact e_not (hg _)
  · exact e_ands (paired_map (F := fun e f => PE X e (semE P C f)) hg _) (by exact nofun)
  · exact e_ors (paired_map (F := fun e f => PE X e (semE P C f)) hg _) (by exact nofun)
  · exact (cmpE_ok G hr _ _ _ _).1
  · exact e_ifE (R.t X sc G _) (hg _) (hg _)
  · split
    · rename_i h; exact e_tup (pa_ex hg h)
    · exact e_stuck
  · split
    · rename_i h; exact e_lst (pa_ex hg h)
    · exact e_stuck
  · exact callE_ok G hr _ _ _ _
  · exact methE_ok G hg hr _ _ _ _ _
  · exact subE_ok G hg hr _ _ _
  · exact (lcE_ok G hg hr R _ _ _ _).1
  · exact e_stuck
/-- a test that is a value's truth -/
def plainT : Expr → Bool
  | .UnaryOp .Not _ _ => false
  | .BoolOp .. => false
  | .IfExp .. => false
  | .Compare .. => false
  | _ => true
theorem plainT_ok {e : Expr} {env : Env} (h : plainT e = true) (whole : Sem Value) : isTrue e env whole = (do let v ← whole; standAt e.pos; holding [v] (truthy v)) := by
  cases e with
  | UnaryOp op a p => cases op <;> first | rfl | cases h
  | BoolOp => cases h
  | IfExp => cases h
  | Compare => cases h
  | _ => rfl
def stepT (c : Cc) (sc : Scope) (rec : Scope → Rec) (e : Expr) : EF :=
  let g := (rec sc).e
  match e with
  | .UnaryOp .Not a _ => vNot ((rec sc).t a)
  | .BoolOp .And (a :: r) _ => vAnds ((a :: r).map (rec sc).t)
  | .BoolOp .Or (a :: r) _ => vOrs ((a :: r).map (rec sc).t)
  | .Compare a ops bs _ => cmpE (arOf c sc g) a ops bs
  | e => if plainT e then g e else vStuck
theorem stepT_ok {c : Cc} {sc : Scope} (G : GoodX P C c sc X) {rec : Scope → Rec} (R : RecOk P C c rec) (e : Expr) : PT X e (semT P C (stepT c sc rec e)) := by
  have hg := R.e X sc G
  have hr := ar_ok G hg
  unfold stepT
  split
  · exact t_not (R.t X sc G _)
  · exact (t_ands (paired_map (F := fun e f => PT X e (semT P C f)) (R.t X sc G) _) (by exact nofun)).pt
  · exact (t_ors (paired_map (F := fun e f => PT X e (semT P C f)) (R.t X sc G) _) (by exact nofun)).pt
  · exact (cmpE_ok G hr _ _ _ _).2
  · split
    · rename_i h; exact t_val (hg _) (plainT_ok h)
    · exact t_stuck
def recE (c : Cc) : Nat → Scope → Rec
  | 0 => fun _ => ⟨fun _ => vStuck, fun _ => vStuck⟩
  | n + 1 => fun sc => ⟨stepE c sc (recE c n), stepT c sc (recE c n)⟩
theorem recE_ok (c : Cc) : ∀ n : Nat, RecOk P C c (recE c n)
  | 0 => ⟨fun _ _ _ _ => e_stuck, fun _ _ _ _ => t_stuck⟩
  | n + 1 => ⟨fun _ _ G e => stepE_ok G (recE_ok c n) e, fun _ _ G e => stepT_ok G (recE_ok c n) e⟩
end VS

/-! VComp3: statements turned into combinators. -/
namespace VS
open PySem PySem.Spec PyProof.Rows L2
variable {P : Pg} {C : CT} {X : Cx}

/-! which stores are exchanged -/
def isStar : Expr → Bool
  | .Starred .. => true
  | _ => false
def swNames (sc : Scope) (line : Nat) (ts : List Expr) : List Str := ts.filterMap fun
  | .Name id pos => if sc.names.lookup id == some .local && pos.line == line then some id else none
  | _ => none
def swN (sc : Scope) (ts vs : List Expr) : Option (Option (List Str)) :=
  if (!(ts.length == 2 || ts.length == 3) || vs.length != ts.length) = true then some none
  else if (vs.any fun | .Starred .. => true | _ => false) = true then some none
  else if ((swNames sc ((ts.head?.map (·.pos.line)).getD 0) ts).length != ts.length || (swNames sc ((ts.head?.map (·.pos.line)).getD 0) ts).eraseDups.length != (swNames sc ((ts.head?.map (·.pos.line)).getD 0) ts).length) = true then some none
  else if vs.all (foldedForSure 8) = true then some none
  else if vs.all (constantsAlone 8) = true then none
  else some (some (swNames sc ((ts.head?.map (·.pos.line)).getD 0) ts))
theorem swN_ok {env : Env} (hk : env.scope.kind = .function) {ts vs : List Expr} {k k2 : Nat} {p p2 : Pos} {r : Option (List Str)} (h : swN env.scope ts vs = some r) : swappedStores [.Tuple ts k p] (.Tuple vs k2 p2) env = pure r := by
  have hb : (env.blockKind != .function) = false := by
    unfold Env.blockKind
    rw [hk]; rfl
  unfold swN at h
  unfold swappedStores
  simp only [hb, Bool.or_false]
  split at h
  · rename_i c1; cases h; rw [if_pos c1]
  · rename_i c1
    rw [if_neg c1]
    split at h
    · rename_i c2; cases h
      exact if_pos c2
    · rename_i c2
      refine (if_neg c2).trans ?_
      split at h
      · rename_i c3; cases h
        exact if_pos c3
      · rename_i c3
        refine (if_neg c3).trans ?_
        split at h
        · rename_i c4; cases h
          exact if_pos c4
        · rename_i c4
          refine (if_neg c4).trans ?_
          split at h
          · cases h
          · rename_i c5; cases h
            exact if_neg c5
def notTup : Expr → Bool
  | .Tuple .. => false
  | _ => true
theorem sw_none {tg ex : Expr} {env : Env} (h : notTup ex = true) : swappedStores [tg] ex env = pure none := by
  unfold swappedStores
  cases ex <;> first | (cases tg <;> rfl) | cases h
theorem sw_none2 {tg ex : Expr} {env : Env} (h : notTup tg = true) (h2 : ∀ es p, tg ≠ .List es p) : swappedStores [tg] ex env = pure none := by
  unfold swappedStores
  cases tg <;> first | rfl | exact (h2 _ _ rfl).elim | cases h
def noComp : Expr → Bool
  | .ListComp .. => false
  | .SetComp .. => false
  | .DictComp .. => false
  | _ => true
theorem swaps_none {ex : Expr} {t : Option Expr} {n : Nat} {env : Env} (h : noComp ex = true) : swapsWith ex t n env = pure false := by
  cases ex <;> first | rfl | cases h
def isSub : Expr → Bool
  | .Subscript .. => true
  | _ => false
theorem swaps_sub {ex tg : Expr} {n : Nat} {env : Env} (h : isSub tg = true) : swapsWith ex (some tg) n env = pure false := by
  cases tg <;> first | (cases ex <;> rfl) | cases h

/-! targets that are changed -/
def subT (c : Cc) (sc os : Scope) (g : Expr → EF) (e : Expr) : TR := match e with
  | .Subscript o ix _ => if notSlice ix then match nameOf o with
      | some x => (cVar c sc x).map fun i => (tSub i (g ix), [])
      | none => none
    else none
  | e => tnE c sc os e
theorem subT_ok {c : Cc} {sc os : Scope} (G : GoodX P C c sc X) (hf : FnX os X) {g : Expr → EF} (hg : ∀ e, PE X e (semE P C (g e))) {e : Expr} {t : TF} {sl : List Nat} (h : subT c sc os g e = some (t, sl)) : PG X e (semG P C sl t) ∧ notStar e = true := by
  unfold subT at h
  split at h
  · rename_i o ix p
    split at h
    · rename_i hn
      split at h
      · rename_i x hx
        obtain ⟨p, rfl⟩ := nameOf_ok hx
        cases q : cVar c sc x with
        | none => rw [q] at h; cases h
        | some i =>
          rw [q] at h; cases h
          refine ⟨g_sub (cVar_ok G q) (hg ix) fun v => ?_, rfl⟩
          cases ix <;> first | rfl | cases hn
      · cases h
    · cases h
  · exact tnE_ok G hf h
def tgS (c : Cc) (sc os : Scope) (g : Expr → EF) : Expr → TR := tupT (tupT (subT c sc os g))
theorem tgS_ok {c : Cc} {sc os : Scope} (G : GoodX P C c sc X) (hf : FnX os X) {g : Expr → EF} (hg : ∀ e, PE X e (semE P C (g e))) (e : Expr) (t : TF) (sl : List Nat) (h : tgS c sc os g e = some (t, sl)) : PG X e (semG P C sl t) ∧ notStar e = true :=
  tupT_ok G.calm (tupT_ok G.calm fun _ _ _ h => subT_ok G hf hg h) e t sl h

/-! assignments -/
theorem s_stuckA {st : Stmt} {b : SF} (h : b = sStuck) : PS X st (semS P C b) := by subst h; exact s_stuck
def lineOk (sc scope : Scope) (x : Str) (p cp : Pos) : Bool := sc.names.lookup x == some .local && p.line == cp.line && !(scope.names.any fun (n, k) => n == x && (k == .local || k == .cell))
theorem swaps_line {env : Env} {elt : Expr} {gens : List Comprehension} {scope : Scope} {cp p : Pos} {x : Str} {n : Nat} (hk : env.scope.kind = .function) : swapsWith (.ListComp elt gens scope cp) (some (.Name x p)) n env = pure (lineOk env.scope scope x p cp) := by
  have hb : (env.blockKind == .function) = true := by
    unfold Env.blockKind
    rw [hk]; rfl
  show pure (env.blockKind == .function && env.kindOf x == some .local && p.line == cp.line && !(scope.names.any fun (n, k) => n == x && (k == .local || k == .cell))) = _
  rw [hb, Bool.true_and]
  rfl
def asgE (c : Cc) (sc os : Scope) (g : Expr → EF) (ar : Expr → AR) (rec : Scope → Rec) (tg ex : Expr) : SF := match nameOf tg with
  | some x => match cSt c sc os x with
    | some i => match ex with
      | .ListComp elt gens scope cp => sAsg (tName i) (lcE c sc g ar rec elt gens scope)
      | ex => if noComp ex then sAsg (tName i) (g ex) else sStuck
    | none => sStuck
  | none => match tg, ex with
    | .Tuple ts _ _, .Tuple vs _ _ => if vs.all notStar = true ∧ vs.length = ts.length ∧ vs.length ≤ 100 then
        match swN sc ts vs with
        | some none => match tsE (tgS c sc os g) ts with
          | some (tfs, _) => if tfs.length = ts.length then sPar tfs (vs.map g) else sStuck
          | none => sStuck
        | some (some ns) => match ts, vs with
          | [.Name x _, .Name y _], [a, b] => match ixOf c.N x, ixOf c.N y with
            | some i, some j => if i ≠ j ∧ sc.names.lookup x = some .local ∧ sc.names.lookup y = some .local ∧ ns = [x, y] then sPar [tName i, tName j] [g a, g b] else sStuck
            | _, _ => sStuck
          | _, _ => sStuck
        | none => sStuck
      else sStuck
    | tg, ex => match tgS c sc os g tg with
      | some (t, _) => if (isSub tg = true) ∨ (noComp ex = true ∧ notTup ex = true) then sAsg t (g ex) else sStuck
      | none => sStuck
theorem asgE_ok {c : Cc} {sc os : Scope} (G : GoodX P C c sc X) (hf : FnX os X) {g : Expr → EF} {ar : Expr → AR} {rec : Scope → Rec} (hg : ∀ e, PE X e (semE P C (g e))) (hr : ∀ e, PE X e (semAR P C (ar e))) (R : RecOk P C c rec) (tg ex : Expr) (pos : Pos) :
    PS X (.Assign [tg] ex pos) (semS P C (asgE c sc os g ar rec tg ex)) := by
  have hk : X.env.scope.kind = .function := by rw [G.scp]; exact G.kind
  unfold asgE
  split
  · rename_i x hx
    obtain ⟨p, rfl⟩ := nameOf_ok hx
    split
    · rename_i i hi
      obtain ⟨h1, h2, h3⟩ := cSt_ok G hf hi
      split
      · rename_i elt gens scope cp
        obtain ⟨L1, L2⟩ := lcE_ok G hg hr R elt gens scope cp
        cases q : lineOk sc scope x p cp with
        | true =>
          refine L2 h1 ?_ (by rw [swaps_line hk, G.scp, q])
          unfold lineOk at q
          simp only [Bool.and_eq_true] at q
          rw [G.scp]
          exact by simpa using q.1.1
        | false => exact s_set G.ndX h1 h2 L1 (by rw [swaps_line hk, G.scp, q]) h3
      · split
        · rename_i hn; exact s_set G.ndX h1 h2 (hg _) (swaps_none hn) h3
        · exact s_stuck
    · exact s_stuck
  · split
    · rename_i ts kt pt vs k2 p2 _
      split
      · rename_i z
        obtain ⟨z1, z2, z3⟩ := z
        split
        · rename_i hs
          have hw : swappedStores [.Tuple ts kt pt] (.Tuple vs k2 p2) X.env = pure none := swN_ok hk (by rw [G.scp]; exact hs)
          split
          · rename_i tfs ss ht
            split
            · rename_i hl
              obtain ⟨r1, r2, r3, r4⟩ := tsE_ok (tgS_ok G hf hg) ht
              exact s_parG G.calm (pa_ex hg z1) r2 r3 ⟨by rw [List.length_map, hl]; exact z2, by rw [List.length_map]; exact Nat.le_trans z3 (by decide)⟩ r4 rfl hw rfl
            · exact s_stuck
          · exact s_stuck
        · rename_i ns hs
          have hw : swappedStores [.Tuple ts kt pt] (.Tuple vs k2 p2) X.env = pure (some ns) := swN_ok hk (by rw [G.scp]; exact hs)
          split
          · split
            · rename_i x _ y _ a b i j hi hj
              split
              · rename_i w
                obtain ⟨w1, w2, w3, w4⟩ := w
                subst w4
                exact s_par2 G.calm G.ndX (by rw [G.hN]; exact ixOf_at hi) (by rw [G.hN]; exact ixOf_at hj) w1 (by rw [G.scp]; exact w2) (by rw [G.scp]; exact w3) (pa_ex hg z1) hw rfl
              · exact s_stuck
            · exact s_stuck
          · exact s_stuck
        · exact s_stuck
      · exact s_stuck
    · split
      · rename_i t sl ht
        obtain ⟨k1, k2⟩ := tgS_ok G hf hg _ _ _ ht
        split
        · rename_i w
          refine s_asg (hg _) k1 ?_ ?_ (by rw [assignEach_cons k2]; rfl)
          · rcases w with w | w
            · exact swaps_sub w
            · exact swaps_none w.1
          · rcases w with w | w
            · exact sw_none2 (by cases tg <;> first | rfl | cases w) (fun es p e => by subst e; cases w)
            · exact sw_none w.2
        · exact s_stuck
      · exact s_stuck

/-! x op= e -/
def pAddI : List D → Option R
  | [.int i, .int j] => some (.int (i + j), false)
  | _ => none
def augP : Operator → Option (List D → Option R)
  | .Add => some pAddI
  | .Sub => some pSub
  | _ => none
theorem augP_ok {op : Operator} {p : List D → Option R} (h : augP op = some p) : PIp X op (ipR P p) := by
  cases op <;> first
    | (cases h; exact int2' (P := P) (p := pAddI) iop_add (fun _ _ _ => .int _) fun d d' r h => by
        unfold pAddI at h
        split at h
        · rename_i i j e; injection e with e1 e2; injection e2 with e2 _; subst e1 e2; cases h; exact ⟨i, j, rfl, rfl, rfl⟩
        · cases h)
    | (cases h; exact int2' (P := P) (p := pSub) iop_sub (fun _ _ _ => .int _) fun d d' r h => by
        unfold pSub at h
        split at h
        · rename_i i j e; injection e with e1 e2; injection e2 with e2 _; subst e1 e2; cases h; exact ⟨i, j, rfl, rfl, rfl⟩
        · cases h)
    | cases h
theorem augStore_of {ix : Expr} (h : notSlice ix = true) (ov iv new : Value) : augStore ix ov iv new = (do holding [new, ov, iv] (setItem ov iv new); release [new, ov, iv] []; pure .next) := by
  cases ix <;> first | rfl | cases h
def augE (c : Cc) (sc os : Scope) (g : Expr → EF) (tg : Expr) (op : Operator) (ex : Expr) : SF := match augP op with
  | some p => match tg with
    | .Name x _ => match cSt c sc os x with
      | some i => sAug i p (g ex)
      | none => sStuck
    | .Subscript o ix _ => if notSlice ix then match nameOf o with
        | some x => match cVar c sc x with
          | some i => sAugS i (g ix) p (g ex)
          | none => sStuck
        | none => sStuck
      else sStuck
    | _ => sStuck
  | none => sStuck
theorem augE_ok {c : Cc} {sc os : Scope} (G : GoodX P C c sc X) (hf : FnX os X) {g : Expr → EF} (hg : ∀ e, PE X e (semE P C (g e))) (tg : Expr) (op : Operator) (ex : Expr) (pos : Pos) : PS X (.AugAssign tg op ex pos) (semS P C (augE c sc os g tg op ex)) := by
  unfold augE
  split
  · rename_i p hp
    split
    · split
      · rename_i i hi
        obtain ⟨h1, h2, h3⟩ := cSt_ok G hf hi
        exact s_aug G.ndX h1 h2 (hg _) (augP_ok hp) h3
      · exact s_stuck
    · split
      · rename_i hn
        split
        · rename_i x hx
          obtain ⟨p, rfl⟩ := nameOf_ok hx
          split
          · rename_i i hi
            exact s_augS (cVar_ok G hi) (hg _) (hg _) (augP_ok hp) (augStore_of hn)
          · exact s_stuck
        · exact s_stuck
      · exact s_stuck
    · exact s_stuck
  · exact s_stuck

/-! a round -/
def seqS (f : Stmt → SF) : List Stmt → SF
  | [] => sNext
  | s :: r => sSeq (f s) (seqS f r)
theorem seqS_ok {f : Stmt → SF} (hf : ∀ s, PS X s (semS P C (f s))) : ∀ l : List Stmt, PSs X l (semS P C (seqS f l))
  | [] => ss_nil
  | s :: r => ss_cons (hf s) (seqS_ok hf r)
def stepS (c : Cc) (sc : Scope) (rec : Scope → Rec) (f : Stmt → SF) (st : Stmt) : SF :=
  let g := (rec sc).e
  let ar := arOf c sc g
  match st with
  | .Return (some e) _ => match nameOf e with
    | some x => match cVar c sc x with
      | some i => sRetV i
      | none => sStuck
    | none => sRet (g e)
  | .Return none _ => sRetN
  | .Assign [tg] ex _ => asgE c sc sc g ar rec tg ex
  | .AugAssign tg op ex _ => augE c sc sc g tg op ex
  | .Expr ex _ => if noComp ex then sExpr (g ex) else sStuck
  | .If t a b _ => sIf ((rec sc).t t) (seqS f a) (seqS f b)
  | .For tg iter body [] _ => if notSet iter then match tgE c sc sc tg with
      | some (t, _) => sFor (itE c sc g ar iter) t (seqS f body)
      | none => sStuck
    else sStuck
  | .While t body [] _ => sWhile ((rec sc).t t) (seqS f body)
  | .Pass _ => sNext
  | .Break _ => sBrk
  | .Continue _ => sCnt
  | _ => sStuck
theorem stepS_ok {c : Cc} {sc : Scope} (G : GoodX P C c sc X) (hf : FnX sc X) (hp : PassesOwn (model X.prog X.w) X.A X.env X.xe) {rec : Scope → Rec} (R : RecOk P C c rec) {f : Stmt → SF} (hs : ∀ s, PS X s (semS P C (f s))) (st : Stmt) : PS X st (semS P C (stepS c sc rec f st)) := by
  have hg := R.e X sc G
  have hr := ar_ok G hg
  unfold stepS
  split
  · split
    · rename_i x hx
      obtain ⟨p, rfl⟩ := nameOf_ok hx
      split
      · rename_i i hi; exact s_retV (cVar_ok G hi)
      · exact s_stuck
    · exact s_ret (hg _)
  · exact s_retN
  · exact asgE_ok G hf hg hr R _ _ _
  · exact augE_ok G hf hg _ _ _ _
  · split
    · rename_i hn; exact s_expr (hg _) (swaps_none hn)
    · exact s_stuck
  · exact s_if (R.t X sc G _) (seqS_ok hs _) (seqS_ok hs _)
  · split
    · rename_i hn
      split
      · rename_i t sl ht
        exact s_for hp G.calm (itE_ok G hg hr _ _) (tgE_ok G hf ht).1 (seqS_ok hs _) (folded_of hn)
      · exact s_stuck
    · exact s_stuck
  · exact s_while hp (R.t X sc G _) (seqS_ok hs _)
  · exact s_next ps_pass
  · exact s_brk
  · exact s_cnt
  · exact s_stuck
/-- rounds of expressions, of statements -/
def recS (c : Cc) (sc : Scope) (m : Nat) : Nat → Stmt → SF
  | 0, _ => sStuck
  | n + 1, st => stepS c sc (recE c m) (recS c sc m n) st
theorem recS_ok {c : Cc} {sc : Scope} (G : GoodX P C c sc X) (hf : FnX sc X) (hp : PassesOwn (model X.prog X.w) X.A X.env X.xe) (m : Nat) : ∀ (n : Nat) (st : Stmt), PS X st (semS P C (recS c sc m n st))
  | 0, _ => s_stuck
  | n + 1, st => stepS_ok G hf hp (recE_ok c m) (recS_ok G hf hp m n) st
/-- a def's text: names, parameters -/
def cDef (c : Cc) (np : Nat) (sc : Scope) (body : List Stmt) : DefF := ⟨np, c.N.length, seqS (recS c sc 30 20) body⟩
end VS

/-! VDef: a program's defs, all kept. -/
namespace VS
open PySem PySem.Spec PyProof.Rows L2
variable {P : Pg}

structure DefI where
  name : Str
  st : Stmt
  ps : List Str
  N : List Str
structure DOk (K : PySem.W.Frag) (mg : Str → Option Value) (d : DefI) (f : Addr) (fd : FuncData) : Prop where
  fn : Fun K d.name d.name d.st f fd
  sc : FnScope d.N d.ps (defScope d.st)
  mg : mg d.name = some (.ref f)
  bd : Binds K fd d.ps []
def ccOf (tab : List DefI) (bs : List Str) (d : DefI) : Cc := ⟨d.N, tab.map (·.name), bs⟩
def dfOf (tab : List DefI) (bs : List Str) (d : DefI) : DefF := cDef (ccOf tab bs d) d.ps.length (defScope d.st) (defBody d.st)
def tabOf (tab : List DefI) (bs : List Str) : Tab := fun x => (tab.find? fun d => decide (d.name = x)).map (dfOf tab bs)
theorem find_name : ∀ {l : List DefI} {d : DefI}, (l.map (·.name)).Nodup → d ∈ l → (l.find? fun e => decide (e.name = d.name)) = some d
  | [], _, _, h => nomatch h
  | e :: l, d, n, h => by
    rw [List.find?_cons]
    obtain ⟨n1, n2⟩ := List.nodup_cons.mp n
    rcases List.mem_cons.mp h with rfl | h
    · rw [decide_eq_true rfl]
    · have : e.name ≠ d.name := fun z => n1 (by show e.name ∈ l.map (·.name); rw [z]; exact List.mem_map.mpr ⟨d, h, rfl⟩)
      rw [decide_eq_false this]
      exact find_name n2 h
theorem tab_at {tab : List DefI} {bs : List Str} {d : DefI} (n : (tab.map (·.name)).Nodup) (h : d ∈ tab) : tabOf tab bs d.name = some (dfOf tab bs d) := by
  unfold tabOf
  rw [find_name n h]
  rfl
theorem defs_ok {PP : Program} {w : World} {K : PySem.W.Frag} {mg : Str → Option Value} {base : Heap} {tab : List DefI} {bs : List Str} (hK : K = P.K) (nd : (tab.map (·.name)).Nodup) (hF : ∀ d ∈ tab, ∃ f fd, DOk K mg d f fd) (hb : ∀ x ∈ bs, mg x = none) :
    ∀ (n : Nat) (d : DefI) (f : Addr) (fd : FuncData), d ∈ tab → DOk K mg d f fd → GnOk PP w K mg base (n + 1) f fd d.ps (spV P (callF (tabOf tab bs) n) d.name)
  | 0, d, f, fd, hd, ok => by
    exact ⟨fun vs H Q z => by obtain ⟨F, rs, r, outs, _, h, _⟩ := z; exact (nomatch h), fun A outer s H args us vs Q _ _ _ _ _ z => by obtain ⟨F, rs, r, outs, _, h, _⟩ := z; exact (nomatch h)⟩
  | n + 1, d, f, fd, hd, ok => by
    have hT := tab_at (bs := bs) nd hd
    have hle : d.ps.length ≤ d.N.length := by
      have := congrArg List.length ok.sc.pre
      rw [List.length_take] at this
      omega
    have hrun : ∀ {rs : List R} {r : R} {outs : List R}, callF (tabOf tab bs) (n + 1) d.name rs = some (r, outs) → runDef (callF (tabOf tab bs) n) (dfOf tab bs d) rs = some (r, outs) := fun {rs r outs} h => by
      unfold callF at h
      rw [hT] at h
      exact h
    refine gn_of ok.fn ok.sc (fun vs H Q ⟨F, rs, r, outs, pd, h, _⟩ => ?_) fun cdv A outer s H vs Q hr hg ⟨F, rs, r, outs, pd, h, q⟩ => ?_
    · have h := hrun h
      unfold runDef at h
      split at h
      · rename_i hl; rw [pd.len]; exact hl
      · cases h
    · have h := hrun h
      unfold runDef at h
      split at h
      · rename_i hl
        have hl : rs.length = (dfOf tab bs d).np := hl
        obtain ⟨E0, us0⟩ := start_env (df := dfOf tab bs d) (N := d.N) pd hl rfl hle
        have G : GoodX P (callF (tabOf tab bs) n) (ccOf tab bs d) (defScope d.st) (cxOf L2.CX0 PP w K mg base d.N d.name (defScope d.st) f cdv A outer s H L2.E0).nox := {
          hN := rfl, nd := ok.sc.nd, scp := rfl, kind := ok.sc.kind, calm := rfl, K := hK, units := by have := hr.un; show (A.deeper (envOfC d.name (defScope d.st) s.heap.objs.size f cdv)).units + 200 < _; omega, guards := hg, bl := hb
          fs := fun x hx => by
            obtain ⟨d', hd', rfl⟩ := List.mem_map.mp hx
            obtain ⟨f', fd', ok'⟩ := hF d' hd'
            exact ⟨n + 1, f', fd', d'.ps, defs_ok hK nd hF hb n d' f' fd' hd' ok', hr, ok'.mg, ok'.fn.kp, ok'.bd⟩ }
        refine ⟨_, seqS_ok (recS_ok G (fun _ _ => rfl) PassesOwn.never 30 20) (defBody d.st), F, startE (dfOf tab bs d) rs, ?_⟩
        split at h
        · rename_i e1 h1
          split at h
          · rename_i outs' h2
            cases h
            exact ⟨_, E0, h1, fun σ' H' po => q _ _ (end_env (df := dfOf tab bs d) (N := d.N) pd hl rfl hle (po.flatOf .non) h2)⟩
          · cases h
        · rename_i e1 r1 h1
          split at h
          · rename_i outs' h2
            cases h
            exact ⟨_, E0, h1, fun v σ' H' po => q _ _ (end_env (df := dfOf tab bs d) (N := d.N) pd hl rfl hle po h2)⟩
          · cases h
        · cases h
      · cases h
end VS

/-! VEnd: from the law's def to the law's row. -/
namespace VS
open PySem PySem.Spec PyProof.Rows L2

/-- the script alone, known to its object -/
def scr (a : Addr) (vs : List Value) (ns : List Int) : Hp := fun b => if b = a then some (.frz { cls := .type "list", data := .seq vs.toArray } (.lst (ns.map V.int))) else none
theorem scr_at {a : Addr} {vs : List Value} {ns : List Int} : scr a vs ns a = some (.frz { cls := .type "list", data := .seq vs.toArray } (.lst (ns.map V.int))) := if_pos rfl
theorem scr_out {a b : Addr} {vs : List Value} {ns : List Int} (h : b ≠ a) : scr a vs ns b = none := if_neg h
/-- what a run of the law needs of the heap it starts in -/
structure Start (PP : Program) (w : World) (K : PySem.W.Frag) (a : Addr) (s₁ : Shared) (ns : List Int) (H : Hp) : Prop where
  only : ∀ b, H b ≠ none → b = a
  frz : ∀ b u, H b = some u → ∃ o xs, u = .frz o (.lst xs)
  sq : SqL K H a (ns.map V.int)
  hok : HOk PP w H s₁.heap
  free : H a ≠ none → K.lookup a = none
theorem start_of {PP : Program} {w : World} {K : PySem.W.Frag} {a : Addr} {s₁ : Shared} {vs : List Value} {ns : List Int} (KX : K.In s₁.heap) (ha : s₁.heap.get? a = some { cls := .type "list", data := .seq vs.toArray }) (hi : IntsAre vs ns) (hl : ns.length ≤ sizeLine) :
    ∃ H : Hp, Start PP w K a s₁ ns H := by
  have rv := vals_ints hi
  have lv := hi.length
  cases hk : K.lookup a with
  | some o =>
    have e := KX a o hk
    rw [ha] at e
    cases e
    exact ⟨fun _ => none, fun b z => absurd rfl z, fun b u z => (nomatch z), .inr ⟨_, vs.toArray, _, hk, rfl, rfl, rfl, by rw [List.size_toArray, lv]; exact hl, by simpa using rv⟩, fun b u z => (nomatch (show (none : Option HO) = some u from z)), fun z => absurd rfl z⟩
  | none =>
    refine ⟨scr a vs ns, fun b z => ?_, fun b u z => ?_, .inl (.inr ⟨_, scr_at⟩), fun b u z => ?_, fun _ => hk⟩
    · by_cases q : b = a
      · exact q
      · exact absurd (scr_out q) z
    · by_cases q : b = a
      · subst q
        rw [scr_at] at z
        cases z
        exact ⟨_, _, rfl⟩
      · rw [scr_out q] at z; cases z
    · by_cases q : b = a
      · subst q
        rw [scr_at] at z
        cases z
        exact ⟨ha, by rw [List.length_map]; exact hl, vs, _, rv, ha⟩
      · rw [scr_out q] at z; cases z
/-- the call of the law -/
theorem law_go {PP : Program} {w : World} {K : PySem.W.Frag} {mg mb : Str → Option Value} {k : Nat} {fa a : Addr} {fd : FuncData} {x : Str} {sp : SpV} {s₁ : Shared} {vs : List Value} {ns : List Int}
    (KX : K.In s₁.heap) (hns : s₁.heap.Ns mainGlobals mg) (hb : s₁.heap.Ns builtinsNs mb) (hbb : ∀ x : Str, x ≠ "__name__" → mb x = bootBuiltins x) (hlim : s₁.heap.NoLimit) (hg : s₁.gens = #[])
    (ha : s₁.heap.get? a = some { cls := .type "list", data := .seq vs.toArray }) (hi : IntsAre vs ns) (hl : ns.length ≤ sizeLine) (hr : Room k callerA)
    (F : ∀ base : Heap, K.In base → base.Ns mainGlobals mg → GnOk PP w K mg base k fa fd [x] sp) (hbind : ∀ (s : Shared) (u : Value), BindsTo s fd ⟨[u], []⟩ [(x, u)])
    (hsp : ∀ H : Hp, SqL K H a (ns.map V.int) → sp [.ref a] H (fun v _ => v = .bl true)) :
    codeAny (model PP w) callerA (.call (.ref fa) ⟨[.ref a], []⟩) (fun r s' => r = .ok (.ret (.bool true)) ∧ OldK s₁.heap s'.heap ∧ s'.os = s₁.os ∧ AllBare s'.gens) s₁ := by
  obtain ⟨H, S⟩ := start_of (PP := PP) (w := w) KX ha hi hl
  -- no dict is tracked, nor what the program wrote
  have dictFree : ∀ {b : Addr} {o : Obj} {es : Array DictEntry} {ep : Nat}, s₁.heap.get? b = some o → o.data = .dict es ep → H b = none := fun {b o es ep} e d => by
    refine Classical.byContradiction fun z => ?_
    have q := S.only b z
    subst q
    rw [ha] at e
    cases e
    exact nomatch (show Data.seq vs.toArray _ = Data.dict es ep from d)
  have keepNs : ∀ {b : Addr} {m : Str → Option Value}, s₁.heap.Ns b m → (hidT s₁.heap H).Ns b m := fun ⟨o, es, ep, e, d, r⟩ => ⟨o, es, ep, hidT_get e (dictFree e d), d, r⟩
  have inB : K.In (hidT s₁.heap H) := fun b o e => hidT_get (KX b o e) (Classical.byContradiction fun z => by
    have q := S.only b z
    subst q
    rw [S.free z] at e
    cases e)
  have env : Env0 PP w K mg (hidT s₁.heap H) callerA [] s₁ H := {
    frames := rfl
    mod := ⟨inB, keepNs hns, ⟨mb, keepNs hb, hbb⟩, hlim.elim fun mc h => ⟨mc, keepNs h.1, h.2⟩⟩
    bs := fun b o e => of_hidT e
    bsz := Nat.le_of_eq (hidT_size _ _)
    funs := trivial
    frf := fun b hb => nomatch (show b ∈ ([] : List Addr) from hb)
    hok := S.hok
    bare := .of_eq hg }
  refine codeAny_mono ((F _ inB (keepNs hns)).run callerA [] s₁ H ⟨[.ref a], []⟩ [.ref a] [.ref a] _ hr rfl env (hbind s₁ (.ref a)) (.cons rfl .nil) (hsp H S.sq)) fun r s' h => ?_
  match r, h with
  | .ok (.ret u), h =>
    obtain ⟨v, H', os, bare, un, hok', rel, q⟩ := h
    have q : v = .bl true := q
    subst q
    have rel : u = Value.bool true := rel
    subst rel
    refine ⟨rfl, OldK.of_keep fun b o e => ?_, os, bare⟩
    cases z : H b with
    | none => exact un.keep b o e z (fun y => nomatch (show b ∈ ([] : List Addr) from y)) (by simp)
    | some u =>
      obtain ⟨ob, xs, rfl⟩ := S.frz b u z
      have e1 := (S.hok b _ z).1
      have e2 := (hok' b _ (un.frzs b ob _ z)).1
      rw [e] at e1
      cases e1
      exact e2
  | .ok .next, h => exact h.elim
  | .ok .brk, h => exact h.elim
  | .ok .cont, h => exact h.elim
  | .error e, h => exact (show False from h).elim
/-- the script, as data -/
theorem script_pend {P : Pg} {H : Hp} {a : Addr} {ns : List Int} (h : SqL P.K H a (ns.map V.int)) : Pend P (fun _ => False) [] [] H [.ref a] [(.wk (ns.map D.int), false)] := by
  have no : ∀ b, ¬ UsR (fun _ => False) [V.ref a] [(D.wk (ns.map D.int), false)] b := fun b z => by
    rcases z with z | ⟨k, z⟩
    · exact z
    · rcases ownVs_cons.mp z with ⟨_, z, _⟩ | ⟨_, _, z⟩
      · cases z
      · exact ownVs_nil z
  have intsR : ∀ (G : Hp) (ns : List Int), RepFs P G (ns.map V.int) (ns.map D.int) := fun G ns => by
    induction ns with
    | nil => exact .nil
    | cons n ns ih => exact .cons (.int n) ih
  refine ⟨⟨rfl, fun i d o p z => by simp at z, fun i j a ⟨_, _, z, _⟩ => by simp at z, fun i a ⟨_, _, z, _⟩ => by simp at z, fun b z => (no b z).elim⟩, fun k v r h1 h2 => ?_, fun i j b z => (no b (.inr ⟨_, z⟩)).elim, fun k b z => (no b (.inr ⟨_, z⟩)).elim, rfl⟩
  rw [us_empty]
  cases k with
  | zero =>
    simp at h1 h2
    subst h1 h2
    exact .wk (h.elim (fun z => .inl (rd_hide.mpr ⟨no a, z⟩)) .inr) (intsR _ ns)
  | succ k => simp at h1
/-- the row from the law's def -/
theorem walkV {l : PySem.W.OpenLaw} {k n : Nat} {q : Program} {loose : List Str} {XP : (Str → Option Value) → Heap → Prop} {YP : World → Heap → Prop} {d : DefRec} {K : Params → PySem.W.Frag} {T : Tab} {x f : Str} (hn : l.most = some 63) (hdf : d.params.defaults = []) (hr : Room k callerA)
    (hY : ∀ (w : World) (h : Heap), YP w h → (K w.params).In h)
    (F : ∀ (w : World) (mg : Str → Option Value) (fa : Addr) (h : Heap), (K w.params).In h → h.Ns mainGlobals mg → mg d.name = some (.ref fa) →
      ∃ (P : Pg) (fd : FuncData), P.K = K w.params ∧ (∀ (s : Shared) (u : Value), BindsTo s fd ⟨[u], []⟩ [(x, u)]) ∧ ∀ base : Heap, (K w.params).In base → base.Ns mainGlobals mg → GnOk l.prog w (K w.params) mg base k fa fd [x] (spV P (callF T n) f))
    (hT : ∀ ns : List Int, ns.length ≤ 63 → ∃ o outs, callF T n f [(.wk (ns.map D.int), false)] = some ((.bl true, o), outs)) :
    PySem.W.WalkO q loose XP YP l.row.toRowW d [] (fun f vs => PySem.call f vs) := by
  refine Att.attach_call hn hdf fun w s₀ s₁ mg mb fa o pm cd doc a vs ns G Y ho hd hcd hmg hobj hints hlen hg => ?_
  have KX := hY w _ Y
  obtain ⟨P, fd, hPK, hb, hF⟩ := F w mg fa _ KX G.T.g hmg
  refine law_go KX G.T.g G.T.b G.T.builtins G.T.nolimit hg hobj hints (Nat.le_trans hlen (by decide)) hr hF hb fun H hS => ?_
  obtain ⟨ow, outs, hc⟩ := hT ns hlen
  refine ⟨fun _ => False, _, _, outs, script_pend (by rw [hPK]; exact hS), hc, fun v H' cp => ?_⟩
  exact (cp.1.rv 0 v _ rfl rfl).rr.bl
end VS

/-! VLast: what the heap behind the top holds; the law's row put together. -/
namespace VS
open PySem PySem.Spec PyProof.Rows L2

/-- a def stands behind the top -/
def At (K : PySem.W.Frag) (x : Str) (st : Stmt) : Prop := ∃ (f : Addr) (oc : Value) (od an : Option Addr) (sl : Array (Option Value)) (kV dc pm cd ct : Value),
  PySem.W.nsIn K mainGlobals x = some (some (.ref f)) ∧ K.lookup f = some ⟨oc, od, .func (PySem.W.fnOf x x (defArgs st) (defBody st) (defScope st) .none kV dc pm an cd ct), sl⟩ ∧ PySem.W.codeIn K cd x = true ∧ PySem.W.keepIn K (.ref f) = true
theorem at_mk {K : PySem.W.Frag} {x : Str} {st : Stmt} {f : Addr} {oc : Value} {od an : Option Addr} {sl : Array (Option Value)} {kV dc pm cd ct : Value} (a : PySem.W.nsIn K mainGlobals x = some (some (.ref f)))
    (l : K.lookup f = some ⟨oc, od, .func (PySem.W.fnOf x x (defArgs st) (defBody st) (defScope st) .none kV dc pm an cd ct), sl⟩) (c : PySem.W.codeIn K cd x = true) (k : PySem.W.keepIn K (.ref f) = true) : At K x st := ⟨f, oc, od, an, sl, kV, dc, pm, cd, ct, a, l, c, k⟩
def AtAll (K : PySem.W.Frag) : List DefI → Prop
  | [] => True
  | d :: r => At K d.name d.st ∧ AtAll K r
theorem all_cons {K : PySem.W.Frag} {x : Str} {st : Stmt} {ps N : List Str} {r : List DefI} (A : At K x st) (R : AtAll K r) : AtAll K (⟨x, st, ps, N⟩ :: r) := ⟨A, R⟩
theorem all_nil {K : PySem.W.Frag} : AtAll K [] := trivial
theorem AtAll.mem {K : PySem.W.Frag} : ∀ {l : List DefI} {d : DefI}, AtAll K l → d ∈ l → At K d.name d.st
  | e :: l, d, h, hd => by
    rcases List.mem_cons.mp hd with rfl | hd
    · exact h.1
    · exact AtAll.mem h.2 hd
def NoAll (K : PySem.W.Frag) : List Str → Prop
  | [] => True
  | x :: r => PySem.W.nsIn K mainGlobals x = some none ∧ NoAll K r
theorem no_cons {K : PySem.W.Frag} {x : Str} {r : List Str} (A : PySem.W.nsIn K mainGlobals x = some none) (R : NoAll K r) : NoAll K (x :: r) := ⟨A, R⟩
theorem no_nil {K : PySem.W.Frag} : NoAll K [] := trivial
theorem NoAll.mem {K : PySem.W.Frag} : ∀ {l : List Str} {x : Str}, NoAll K l → x ∈ l → PySem.W.nsIn K mainGlobals x = some none
  | y :: l, x, h, hx => by
    rcases List.mem_cons.mp hx with rfl | hx
    · exact h.1
    · exact NoAll.mem h.2 hx
/-- a def's own facts: its names, how its arguments bind -/
structure Own1 (d : DefI) : Prop where
  sc : FnScope d.N d.ps (defScope d.st)
  bd : ∀ (kV doc pm : Value) (an : Option Addr) (cdv ct : Value) (us : List Value), us.length = d.ps.length → bindArgs (PySem.W.fnOf d.name d.name (defArgs d.st) (defBody d.st) (defScope d.st) .none kV doc pm an cdv ct) ⟨us, []⟩ = pure (d.ps.zip us)
theorem fin {l : PySem.W.OpenLaw} {w : World} {K : PySem.W.Frag} {h : Heap} {mg : Str → Option Value} {fa : Addr} {tab : List DefI} {bs : List Str} {dl : DefI} {x : Str} (X : K.In h) (G : h.Ns mainGlobals mg) (hfa : mg dl.name = some (.ref fa))
    (nd : (tab.map (·.name)).Nodup) (hl : dl ∈ tab) (hx : dl.ps = [x]) (ow : ∀ d ∈ tab, Own1 d) (A : AtAll K tab) (B : NoAll K bs) (n : Nat) :
    ∃ (P : Pg) (fd : FuncData), P.K = K ∧ (∀ (s : Shared) (u : Value), BindsTo s fd ⟨[u], []⟩ [(x, u)]) ∧ ∀ base : Heap, K.In base → base.Ns mainGlobals mg → GnOk l.prog w K mg base (n + 1) fa fd [x] (spV P (callF (tabOf tab bs) n) dl.name) := by
  have dok : ∀ d ∈ tab, ∃ f fd, DOk K mg d f fd ∧ mg d.name = some (.ref f) ∧ ∀ (s : Shared) (us : List Value), us.length = d.ps.length → BindsTo s fd ⟨us, []⟩ (d.ps.zip us) := fun d hd => by
    obtain ⟨f, oc, od, an, sl, kV, dc, pm, cd, ct, a, lk, c, k⟩ := A.mem hd
    have F := fun_mk (x := d.name) (qual := d.name) (st := d.st) lk c k
    have m := PySem.W.mg_of X G a
    exact ⟨f, _, ⟨F, (ow d hd).sc, m, F.binds (ow d hd).bd⟩, m, fun s us hu => .of_eq ((ow d hd).bd kV dc pm an cd ct us hu)⟩
  obtain ⟨f, fd, ok, m, bt⟩ := dok dl hl
  rw [hfa] at m
  cases m
  refine ⟨⟨K, fun _ => none⟩, fd, rfl, fun s u => ?_, fun base _ _ => ?_⟩
  · have := bt s [u] (by rw [hx]; rfl)
    rw [hx] at this
    exact this
  · have := defs_ok (PP := l.prog) (w := w) (base := base) (P := ⟨K, fun _ => none⟩) (bs := bs) rfl nd (fun d hd => (dok d hd).elim fun f z => z.elim fun fd z => ⟨f, fd, z.1⟩) (fun x hx => PySem.W.mg_none_of X G (B.mem hx)) n dl _ fd hl ok
    rw [hx] at this
    exact this
end VS

/-! VSimp: combinators run by simp. -/
namespace VS
open PySem
variable {C : CT} {e : VE} {T : Tab}

@[simp] theorem x_vVar (i : Nat) : vVar i C e = match e[i]? with
  | some (.val d _ p) => some (e.set i (.val d false p), (d, false))
  | _ => none := (rfl)
@[simp] theorem x_vLit (d : D) : vLit d C e = some (e, (d, false)) := (rfl)
@[simp] theorem x_readAt (i : Nat) : readAt e i = match e[i]? with
  | some (.val d _ _) => some d
  | _ => none := (rfl)
@[simp] theorem x_args0 : vArgs [] C e = some (e, []) := (rfl)
@[simp] theorem x_argsN (i : Nat) (r : List AR) : vArgs (.nm i :: r) C e = match readAt e i with
  | some _ => match vArgs r C e with
    | some (e', rs) => match readAt e' i with
      | some d => some (e', (d, false) :: rs)
      | none => none
    | none => none
  | none => none := (rfl)
@[simp] theorem x_argsE (f : EF) (r : List AR) : vArgs (.ex f :: r) C e = match f C e with
  | some (e1, x) => match vArgs r C e1 with
    | some (e', rs) => some (e', x :: rs)
    | none => none
  | none => none := (rfl)
@[simp] theorem x_vP (p : List D → Option R) (as : List AR) : vP p as C e = match vArgs as C e with
  | some (e', rs) => match p (rs.map (·.1)) with
    | some r => some (e', r)
    | none => none
  | none => none := (rfl)
@[simp] theorem x_vNot (a : EF) : vNot a C e = match a C e with
  | some (e', .bl b, _) => some (e', .bl (!b), false)
  | _ => none := (rfl)
@[simp] theorem x_vAnd (a b : EF) : vAnd a b C e = match a C e with
  | some (e', .bl true, _) => b C e'
  | some (e', .bl false, _) => some (e', .bl false, false)
  | _ => none := (rfl)
@[simp] theorem x_vOr (a b : EF) : vOr a b C e = match a C e with
  | some (e', .bl true, _) => some (e', .bl true, false)
  | some (e', .bl false, _) => b C e'
  | _ => none := (rfl)
@[simp] theorem x_vIfE (c a b : EF) : vIfE c a b C e = match c C e with
  | some (e', .bl true, _) => a C e'
  | some (e', .bl false, _) => b C e'
  | _ => none := (rfl)
@[simp] theorem x_vChain (p q : List D → Option R) (a b c : AR) : vChain p q a b c C e = match vArgs [a, b] C e with
  | some (e', [x, (.int j, _)]) => match p [x.1, .int j] with
    | some (.bl true, _) => match vArgs [c] C e' with
      | some (e'', [z]) => match q [.int j, z.1] with
        | some r => some (e'', r)
        | none => none
      | _ => none
    | some (.bl false, _) => some (e', .bl false, false)
    | _ => none
  | _ => none := (rfl)
@[simp] theorem x_isOwn (i : Nat) : isOwn e i = match e[i]? with
  | some (.val _ true _) => true
  | _ => false := (rfl)
@[simp] theorem x_lends0 : lends e [] = [] := (rfl)
@[simp] theorem x_lendsN (i : Nat) (r : List AR) : lends e (.nm i :: r) = if isOwn e i then i :: lends e r else lends e r := (rfl)
@[simp] theorem x_lendsE (f : EF) (r : List AR) : lends e (.ex f :: r) = lends e r := (rfl)
@[simp] theorem x_lendAll0 : lendAll e [] = e := (rfl)
@[simp] theorem x_lendAll1 (i : Nat) (r : List Nat) : lendAll e (i :: r) = (lendAll e r).set i .lent := (rfl)
@[simp] theorem x_loan0 (rs : List R) : loanR e [] rs = [] := (rfl)
@[simp] theorem x_loanN (i : Nat) (as : List AR) (r : R) (rs : List R) : loanR e (.nm i :: as) (r :: rs) = (r.1, isOwn e i) :: loanR e as rs := (rfl)
@[simp] theorem x_loanE (f : EF) (as : List AR) (r : R) (rs : List R) : loanR e (.ex f :: as) (r :: rs) = r :: loanR e as rs := (rfl)
@[simp] theorem x_take0 (rs : List R) : takeBack e [] rs = e := by unfold takeBack; rfl
@[simp] theorem x_takeN (i : Nat) (as : List AR) (r : R) (rs : List R) : takeBack e (.nm i :: as) (r :: rs) = match e[i]? with
  | some (.val _ true p) => (takeBack e as rs).set i (.val r.1 r.2 p)
  | _ => takeBack e as rs := (rfl)
@[simp] theorem x_takeE (f : EF) (as : List AR) (r : R) (rs : List R) : takeBack e (.ex f :: as) (r :: rs) = takeBack e as rs := (rfl)
@[simp] theorem x_vCall (f : Str) (as : List AR) : vCall f as C e = match vArgs as C e with
  | some (e1, rs) => if (lends e1 as).Nodup then
      match C f (loanR e1 as rs) with
      | some (r, outs) => if outs.length = as.length then some (takeBack e1 as outs, r) else none
      | none => none
    else none
  | none => none := (rfl)
@[simp] theorem x_tName (i : Nat) (r : R) : tName i C r e = match e[i]? with
  | some .no => some (e.set i (.val r.1 r.2 false))
  | some (.val _ _ false) => some (e.set i (.val r.1 r.2 false))
  | _ => none := (rfl)
@[simp] theorem x_tTup (ts : List TF) (r : R) : tTup ts C r e = match r.1 with
  | .tup ds => tTupGo ts C ds e
  | _ => none := (rfl)
@[simp] theorem x_tTupGo0 : tTupGo [] C [] e = some e := (rfl)
@[simp] theorem x_tTupGo1 (t : TF) (ts : List TF) (d : D) (ds : List D) : tTupGo (t :: ts) C (d :: ds) e = match t C (d, false) e with
  | some e1 => tTupGo ts C ds e1
  | none => none := (rfl)
@[simp] theorem x_tSub (x : Nat) (ix : EF) (r : R) : tSub x ix C r e = match readAt e x with
  | some _ => match ix C e with
    | some (e1, .int k, _) => match e1[x]? with
      | some (.val (.lst xs) true p) => match ixD xs.length k with
        | some j => some (e1.set x (.val (.lst (xs.set j r.1)) true p))
        | none => none
      | _ => none
    | _ => none
  | none => none := (rfl)
@[simp] theorem x_sNext : sNext C e = some (.nx e) := (rfl)
@[simp] theorem x_sSeq (a b : SF) : sSeq a b C e = match a C e with
  | some (.nx e') => b C e'
  | o => o := (rfl)
@[simp] theorem x_sAsg (t : TF) (f : EF) : sAsg t f C e = match f C e with
  | some (e1, r) => match t C r e1 with
    | some e2 => some (.nx e2)
    | none => none
  | none => none := (rfl)
@[simp] theorem x_tPar0 : tParGo [] C [] e = some e := (rfl)
@[simp] theorem x_tPar1 (t : TF) (ts : List TF) (r : R) (rs : List R) : tParGo (t :: ts) C (r :: rs) e = match t C r e with
  | some e1 => tParGo ts C rs e1
  | none => none := (rfl)
@[simp] theorem x_sPar (ts : List TF) (fs : List EF) : sPar ts fs C e = match vArgs (fs.map .ex) C e with
  | some (e1, rs) => match tParGo ts C rs e1 with
    | some e2 => some (.nx e2)
    | none => none
  | none => none := (rfl)
@[simp] theorem x_sExpr (f : EF) : sExpr f C e = match f C e with
  | some (e1, _) => some (.nx e1)
  | none => none := (rfl)
@[simp] theorem x_sRet (f : EF) : sRet f C e = match f C e with
  | some (e1, r) => some (.rt e1 r)
  | none => none := (rfl)
@[simp] theorem x_sRetV (i : Nat) : sRetV i C e = match e[i]? with
  | some (.val d true false) => some (.rt (e.set i .no) (d, true))
  | some (.val d _ p) => some (.rt (e.set i (.val d false p)) (d, false))
  | _ => none := (rfl)
@[simp] theorem x_sRetN : sRetN C e = some (.rt e (.non, false)) := (rfl)
@[simp] theorem x_sIf (c : EF) (a b : SF) : sIf c a b C e = match c C e with
  | some (e1, .bl true, _) => a C e1
  | some (e1, .bl false, _) => b C e1
  | _ => none := (rfl)
@[simp] theorem x_sStuck : sStuck C e = none := (rfl)
@[simp] theorem x_sBrk : sBrk C e = some (.bk e) := (rfl)
@[simp] theorem x_sCnt : sCnt C e = some (.ct e) := (rfl)
@[simp] theorem x_sAug (i : Nat) (p : List D → Option R) (f : EF) : sAug i p f C e = match e[i]? with
  | some (.val d _ _) => if d.flat then match f C e with
    | some (e1, r) => match e1[i]? with
      | some (.val _ _ false) => match p [d, r.1] with
        | some r' => some (.nx (e1.set i (.val r'.1 r'.2 false)))
        | none => none
      | _ => none
    | none => none
    else none
  | _ => none := (rfl)
@[simp] theorem x_itemAt (x : Nat) (k : Int) : itemAt e x k = match e[x]? with
  | some (.val (.lst xs) true _) => if 0 ≤ k then xs[k.toNat]? else none
  | _ => none := (rfl)
@[simp] theorem x_sAugS (x : Nat) (ix : EF) (p : List D → Option R) (f : EF) : sAugS x ix p f C e = match readAt e x with
  | some _ => match ix C e with
    | some (e0, .int k, _) => match itemAt e0 x k with
      | some d => match f C e0 with
        | some (e1, r) => match p [d, r.1] with
          | some r' => match e1[x]? with
            | some (.val (.lst xs) true pn) => if k.toNat < xs.length ∧ r'.2 = false then some (.nx (e1.set x (.val (.lst (xs.set k.toNat r'.1)) true pn))) else none
            | _ => none
          | none => none
        | none => none
      | none => none
    | _ => none
  | none => none := (rfl)
@[simp] theorem x_vMut (m : List D → List D → Option (List D × D)) (x : Nat) (as : List EF) : vMut m x as C e = match e[x]? with
  | some (.val (.lst _) true _) => match vArgs (as.map .ex) C e with
    | some (e1, rs) => match e1[x]? with
      | some (.val (.lst xs) true p) => match m xs (rs.map (·.1)) with
        | some (ys, d) => some (e1.set x (.val (.lst ys) true p), (d, false))
        | none => none
      | _ => none
    | none => none
  | _ => none := (rfl)
@[simp] theorem x_flatI (i : Int) : (D.int i).flat = true := (rfl)
@[simp] theorem x_flatB (i : Bool) : (D.bl i).flat = true := (rfl)
@[simp] theorem x_flatS (i : Str) : (D.str i).flat = true := (rfl)
@[simp] theorem x_flatN : D.non.flat = true := (rfl)
@[simp] theorem x_sFor (it : IF) (tg : TF) (body : SF) : sFor it tg body C e = match vArgs it.args C e with
  | some (e1, rs) => match it.items (rs.map (·.1)) with
    | some xs =>
      if (lends e1 it.args).Nodup then (loopGo tg body C xs (lendAll e1 (lends e1 it.args))).map (Out.back e1 (lends e1 it.args)) else none
    | none => none
  | none => none := (rfl)
@[simp] theorem x_back0 (o : Out) : o.back e [] = o := by cases o <;> rfl
@[simp] theorem x_vLC (it : IF) (tg : TF) (own : List Nat) (cs : List EF) (el : EF) : vLC it tg own cs el C e = match vArgs it.args C e with
  | some (e1, rs) => match it.items (rs.map (·.1)) with
    | some xs =>
      if (lends e1 it.args).Nodup ∧ own.all (hides e1) = true then
        match lcGo tg own cs el C xs (wipeE (lendAll e1 (lends e1 it.args)) own) [] with
        | some (e2, ys) => some (putBack e1 (putBack e1 e2 own) (lends e1 it.args), (.lst ys, true))
        | none => none
      else none
    | none => none
  | none => none := (rfl)
@[simp] theorem x_hides (i : Nat) : hides e i = match e[i]? with
  | some .no => true
  | some (.val _ false _) => true
  | _ => false := (rfl)
@[simp] theorem x_wipe0 : wipeE e [] = e := (rfl)
@[simp] theorem x_wipe1 (i : Nat) (r : List Nat) : wipeE e (i :: r) = (wipeE e r).set i .no := (rfl)
@[simp] theorem x_put0 (e0 : VE) : putBack e0 e [] = e := (rfl)
@[simp] theorem x_put1 (e0 : VE) (i : Nat) (r : List Nat) : putBack e0 e (i :: r) = match e0[i]? with
  | some s => putBack e0 (e.set i s) r
  | none => putBack e0 e r := (rfl)
@[simp] theorem x_runDef (df : DefF) (rs : List R) : runDef C df rs = if rs.length = df.np then
    match df.body C (startE df rs) with
    | some (.nx e) => match outsOf rs e with
      | some outs => some ((.non, false), outs)
      | none => none
    | some (.rt e r) => match outsOf rs e with
      | some outs => some (r, outs)
      | none => none
    | _ => none
  else none := (rfl)
@[simp] theorem x_start (np ns : Nat) (b : SF) (rs : List R) : startE ⟨np, ns, b⟩ rs = rs.map (fun r => Sl.val r.1 r.2 r.2) ++ List.replicate (ns - np) .no := (rfl)
@[simp] theorem x_outs0 : outsOf [] e = some [] := by cases e <;> rfl
@[simp] theorem x_outsF (d : D) (rs : List R) (s : Sl) : outsOf ((d, false) :: rs) (s :: e) = match outsOf rs e with
    | some outs => some ((d, false) :: outs)
    | none => none := (rfl)
@[simp] theorem x_outsT (d d' : D) (o p : Bool) (rs : List R) : outsOf ((d, true) :: rs) (.val d' o p :: e) = match outsOf rs e with
    | some outs => some ((d', o) :: outs)
    | none => none := (rfl)
@[simp] theorem x_LIM : LIM = 16777216 := (rfl)
@[simp] theorem x_smallI (i : Int) : smallI i = (decide (-18446744073709551616 < i) && decide (i < 18446744073709551616)) := (rfl)
/-! operations -/
theorem eqD_int (i j : Int) : eqD (.int i) (.int j) = some (decide (i = j)) := by
  have : (i == j) = decide (i = j) := by
    by_cases h : i = j
    · rw [decide_eq_true h]; exact beq_iff_eq.mpr h
    · rw [decide_eq_false h]; exact beq_eq_false_iff_ne.mpr h
  simp [eqD, toPy, PyData.plain, PyData.depth, DEEP, PyData.eqv, this]
@[simp] theorem x_addI (i j : Int) : pAdd [.int i, .int j] = some (.int (i + j), false) := (rfl)
@[simp] theorem x_addL (a b : List D) : pAdd [.lst a, .lst b] = if a.length + b.length ≤ LIM then some (.lst (a ++ b), true) else none := (rfl)
@[simp] theorem x_addII (i j : Int) : pAddI [.int i, .int j] = some (.int (i + j), false) := (rfl)
@[simp] theorem x_subI (i j : Int) : pSub [.int i, .int j] = some (.int (i - j), false) := (rfl)
@[simp] theorem x_mulI (i j : Int) : pMul [.int i, .int j] = if smallI i || smallI j then some (.int (i * j), false) else none := (rfl)
@[simp] theorem x_mulL (a : List D) (k : Int) : pMul [.lst a, .int k] = if 0 ≤ k ∧ k < 2 ^ 62 ∧ a.length * k.toNat ≤ LIM then some (.lst (List.replicate k.toNat a).flatten, true) else none := (rfl)
@[simp] theorem x_fdiv (i j : Int) : pFdiv [.int i, .int j] = if j ≠ 0 ∧ j.natAbs < 1073741824 then some (.int (i.fdiv j), false) else none := (rfl)
@[simp] theorem x_mod (i j : Int) : pMod [.int i, .int j] = if j ≠ 0 then some (.int (i.fmod j), false) else none := (rfl)
@[simp] theorem x_pow (i j : Int) : pPow [.int i, .int j] = if 0 ≤ j ∧ j ≤ 1000000 ∧ i.natAbs < 2 ^ 64 then some (.int (i ^ j.toNat), false) else none := (rfl)
@[simp] theorem x_shl (i j : Int) : pShl [.int i, .int j] = if 0 ≤ j ∧ j ≤ 1000000 ∧ i.natAbs < 2 ^ 64 then some (.int (i * 2 ^ j.toNat), false) else none := (rfl)
@[simp] theorem x_shr (i j : Int) : pShr [.int i, .int j] = if 0 ≤ j then some (.int (i / 2 ^ j.toNat), false) else none := (rfl)
@[simp] theorem x_neg (i : Int) : pNeg [.int i] = some (.int (-i), false) := (rfl)
@[simp] theorem x_eqI (i j : Int) : pEq [.int i, .int j] = some (.bl (decide (i = j)), false) := by simp [pEq, eqD_int]
@[simp] theorem x_neI (i j : Int) : pNe [.int i, .int j] = some (.bl (!decide (i = j)), false) := by simp [pNe, eqD_int]
@[simp] theorem x_lt (i j : Int) : pLt [.int i, .int j] = some (.bl (decide (i < j)), false) := (rfl)
@[simp] theorem x_le (i j : Int) : pLe [.int i, .int j] = some (.bl (decide (i ≤ j)), false) := (rfl)
@[simp] theorem x_gt (i j : Int) : pGt [.int i, .int j] = some (.bl (decide (j < i)), false) := (rfl)
@[simp] theorem x_ge (i j : Int) : pGe [.int i, .int j] = some (.bl (decide (j ≤ i)), false) := (rfl)
@[simp] theorem x_isN0 : pIsN [.non] = some (.bl true, false) := (rfl)
@[simp] theorem x_isNI (i : Int) : pIsN [.int i] = some (.bl false, false) := (rfl)
@[simp] theorem x_notN0 : pNotN [.non] = some (.bl false, false) := (rfl)
@[simp] theorem x_notNI (i : Int) : pNotN [.int i] = some (.bl true, false) := (rfl)
@[simp] theorem x_tup (ds : List D) : pTup ds = if ds.length ≤ LIM then some (.tup ds, false) else none := (rfl)
@[simp] theorem x_lst (ds : List D) : pLst ds = if ds.length ≤ LIM then some (.lst ds, true) else none := (rfl)
@[simp] theorem x_idxL (xs : List D) (i : Int) : pIdx [.lst xs, .int i] = match ixD xs.length i with
    | some j => (xs[j]?).map fun d => (d, false)
    | none => none := (rfl)
@[simp] theorem x_idxT (xs : List D) (i : Int) : pIdx [.tup xs, .int i] = match ixD xs.length i with
    | some j => (xs[j]?).map fun d => (d, false)
    | none => none := (rfl)
@[simp] theorem x_ix0 (n : Nat) : ixD (n + 1) 0 = some 0 := by simp [ixD]
@[simp] theorem x_ix1 (n : Nat) : ixD (n + 2) 1 = some 1 := by simp [ixD]; omega
@[simp] theorem x_ix2 (n : Nat) : ixD (n + 3) 2 = some 2 := by simp [ixD]; omega
@[simp] theorem x_ix3 (n : Nat) : ixD (n + 4) 3 = some 3 := by simp [ixD]; omega
@[simp] theorem x_slLH (x : D) (a b : Int) : pSlLH [x, .int a, .int b] = cutR x (some a) (some b) := (rfl)
@[simp] theorem x_slL (x : D) (a : Int) : pSlL [x, .int a] = cutR x (some a) none := (rfl)
@[simp] theorem x_slH (x : D) (b : Int) : pSlH [x, .int b] = cutR x none (some b) := (rfl)
@[simp] theorem x_slN (x : D) : pSlN [x] = cutR x none none := (rfl)
@[simp] theorem x_cutL (xs : List D) (a b : Option Int) : cutR (.lst xs) a b = some (.lst (cutD xs a b), true) := (rfl)
@[simp] theorem x_cutW (xs : List D) (a b : Option Int) : cutR (.wk xs) a b = some (.lst (cutD xs a b), true) := (rfl)
@[simp] theorem x_lenL (xs : List D) : pLen [.lst xs] = some (.int xs.length, false) := (rfl)
@[simp] theorem x_lenT (xs : List D) : pLen [.tup xs] = some (.int xs.length, false) := (rfl)
@[simp] theorem x_intI (i : Int) : pInt [.int i] = some (.int i, false) := (rfl)
@[simp] theorem x_intB (b : Bool) : pInt [.bl b] = some (.int (if b then 1 else 0), false) := (rfl)
@[simp] theorem x_abs (i : Int) : pAbs [.int i] = some (.int (if i < 0 then -i else i), false) := (rfl)
@[simp] theorem x_max2 (i j : Int) : pMax2 [.int i, .int j] = some (.int (if j > i then j else i), false) := (rfl)
@[simp] theorem x_min2 (i j : Int) : pMin2 [.int i, .int j] = some (.int (if j < i then j else i), false) := (rfl)
@[simp] theorem x_isaII (i : Int) : pIsa "int" [.int i] = some (.bl true, false) := (rfl)
@[simp] theorem x_isaBI (i : Int) : pIsa "bool" [.int i] = some (.bl false, false) := (rfl)
@[simp] theorem x_isaIN : pIsa "int" [.non] = some (.bl false, false) := (rfl)
@[simp] theorem x_itL (xs : List D) : itSeq [.lst xs] = some xs := (rfl)
@[simp] theorem x_itT (xs : List D) : itSeq [.tup xs] = some xs := (rfl)
@[simp] theorem x_bits (i : Int) : pBits [.int i] = some (.int (if i = 0 then 0 else (i.natAbs.log2 : Int) + 1), false) := (rfl)
@[simp] theorem x_pList (xs : List D) : pList [.lst xs] = some (.lst xs, true) := (rfl)
@[simp] theorem x_pListT (xs : List D) : pList [.tup xs] = some (.lst xs, true) := (rfl)
/-- a call of a def that stands in the table -/
theorem call_at {f : Str} {df : DefF} (h : T f = some df) (k : Nat) (rs : List R) : callF T (k + 1) f rs = runDef (callF T k) df rs := by
  show (match T f with | some df => runDef (callF T k) df rs | none => none) = _
  rw [h]
end VS

/-! VTake: the numbers that a law draws. -/
namespace VS
def b__law_bag : SF :=
  sSeq (sRet (vP pLst [.ex (vLit (.int 0)), .ex (vLit (.int 1234567891)), .ex (vLit (.int 0)), .ex (vLC ⟨[.ex (vP pSlH [.nm 0, .ex (vLit (.int 63))])], itSeq⟩ (tName 1) [1] [] (vP pAbs [.nm 1]))])) <|
  sNext
def b__law_take : SF :=
  sSeq (sIf (vP pEq [.ex (vP pIdx [.nm 0, .ex (vLit (.int 0))]), .ex (vLit (.int 0))])
    (sSeq (sAsg (tName 4) (vP pIdx [.ex (vP pAdd [.ex (vP pSlL [.ex (vP pIdx [.nm 0, .ex (vLit (.int 3))]), .ex (vP pIdx [.nm 0, .ex (vLit (.int 2))])]), .ex (vP pLst [.ex (vLit (.int 0))])]), .ex (vLit (.int 0))])) <|
      sSeq (sAugS 0 (vLit (.int 2)) pAddI (vLit (.int 1))) <|
      sSeq (sAsg (tSub 0 (vLit (.int 0))) (vP pMul [.nm 4, .ex (vP pInt [.ex (vP pGe [.nm 4, .ex (vP pPow [.ex (vLit (.int 10)), .ex (vLit (.int 18))])])])])) <|
      sSeq (sAsg (tName 5) (vP pAdd [.ex (vP pAdd [.ex (vP pMul [.ex (vP pIdx [.nm 0, .ex (vLit (.int 1))]), .ex (vLit (.int 48271))]), .ex (vP pMod [.ex (vP pInt [.nm 4]), .ex (vLit (.int 2147483647))])]), .ex (vP pMul [.ex (vLit (.int 7919)), .ex (vP pIdx [.nm 0, .ex (vLit (.int 2))])])])) <|
      sSeq (sAsg (tSub 0 (vLit (.int 1))) (vP pMod [.ex (vP pInt [.nm 5]), .ex (vLit (.int 2147483647))])) <|
      sNext)
    (sNext)) <|
  sSeq (sIf (vP pGt [.ex (vP pIdx [.nm 0, .ex (vLit (.int 0))]), .ex (vLit (.int 0))])
    (sSeq (sPar [tName 6, tSub 0 (vLit (.int 0))] [vP pMod [.ex (vP pInt [.ex (vP pIdx [.nm 0, .ex (vLit (.int 0))])]), .nm 1], vP pFdiv [.ex (vP pInt [.ex (vP pIdx [.nm 0, .ex (vLit (.int 0))])]), .nm 1]]) <|
      sSeq (sRetV 6) <|
      sNext)
    (sNext)) <|
  sSeq (sAsg (tName 2) (vP pMod [.ex (vP pInt [.ex (vP pMul [.ex (vP pAdd [.ex (vP pIdx [.nm 0, .ex (vLit (.int 1))]), .ex (vLit (.int 1))]), .ex (vLit (.int 39373))])]), .ex (vLit (.int 1000000007))])) <|
  sSeq (sAsg (tName 3) (vP pMod [.ex (vP pInt [.ex (vP pMul [.ex (vP pMod [.ex (vP pInt [.ex (vP pMul [.nm 2, .nm 2])]), .ex (vLit (.int 998244353))]), .ex (vLit (.int 30011))])]), .ex (vLit (.int 998244353))])) <|
  sSeq (sRet (vP pMod [.ex (vP pInt [.ex (vP pFdiv [.nm 3, .ex (vLit (.int 7))])]), .nm 1])) <|
  sNext
def b__law_alike : SF :=
  sSeq (sRet (vAnd (vP pEq [.nm 0, .nm 1]) (vP pEq [.ex (vP pRepr [.nm 0]), .ex (vP pRepr [.nm 1])]))) <|
  sNext
theorem rng1 {n : Int} (h : 0 ≤ n) (h2 : n ≤ 16777216) : itRng1 [.int n] = some ((List.range n.toNat).map fun (k : Nat) => D.int k) :=
  if_pos ⟨by omega, by omega, h2⟩
theorem rng2 {a b : Int} (h : 0 ≤ a) (h0 : a ≤ 16777216) (h1 : 0 ≤ b) (h2 : b ≤ 16777216) : itRng2 [.int a, .int b] = some ((List.range (b - a).toNat).map fun (k : Nat) => D.int (a + k)) :=
  if_pos ⟨by omega, by omega, by omega, by omega, by show b - a ≤ 16777216; omega⟩
/-- a loop whose turns keep Inv -/
theorem loop_all {C : CT} {tg : TF} {body : SF} {Inv : VE → Prop} : ∀ (xs : List D) (e : VE), (∀ x ∈ xs, ∀ e, Inv e → ∃ e1 e2, tg C (x, false) e = some e1 ∧ body C e1 = some (.nx e2) ∧ Inv e2) → Inv e → ∃ e', loopGo tg body C xs e = some (.nx e') ∧ Inv e'
  | [], e, _, h => ⟨e, rfl, h⟩
  | x :: xs, e, hs, h => by
    obtain ⟨e1, e2, a, b, c⟩ := hs x List.mem_cons_self e h
    obtain ⟨e', q1, q2⟩ := loop_all xs e2 (fun y hy => hs y (List.mem_cons_of_mem _ hy)) c
    refine ⟨e', ?_, q2⟩
    unfold loopGo
    rw [a]
    show (match body C e1 with | some (.nx e2) => loopGo tg body C xs e2 | some (.ct e2) => loopGo tg body C xs e2 | some (.bk e2) => some (.nx e2) | some (.rt e2 r) => some (.rt e2 r) | none => none) = _
    rw [b]
    exact q1
/-- a cell, then 0 -/
theorem cell_at (cs : List Int) (i : Int) (h : ∀ c ∈ cs, 0 ≤ c) : ∃ (c : Int) (tl : List D), 0 ≤ c ∧ cutD (cs.map D.int) (some i) none ++ [D.int 0] = .int c :: tl := by
  have key : ∀ d ∈ cutD (cs.map D.int) (some i) none ++ [D.int 0], ∃ c : Int, 0 ≤ c ∧ d = .int c := fun d hd => by
    rcases List.mem_append.mp hd with hd | hd
    · unfold cutD at hd
      have := List.mem_of_mem_drop (List.mem_of_mem_take hd)
      obtain ⟨c, hc, rfl⟩ := List.mem_map.mp this
      exact ⟨c, h c hc, rfl⟩
    · rw [List.mem_singleton.mp hd]; exact ⟨0, by omega, rfl⟩
  cases q : cutD (cs.map D.int) (some i) none ++ [D.int 0] with
  | nil => simp at q
  | cons d r =>
    obtain ⟨c, hc, rfl⟩ := key d (by rw [q]; exact List.mem_cons_self)
    exact ⟨c, r, hc, rfl⟩
theorem cut_len (cs : List D) (lo hi : Option Int) : (cutD cs lo hi).length ≤ cs.length := by
  unfold cutD
  rw [List.length_take, List.length_drop]
  omega
abbrev bagD (m x i : Int) (cs : List Int) : D := .lst [.int m, .int x, .int i, .lst (cs.map .int)]
theorem take_run (C : CT) (m x i : Int) (cs : List Int) (n : Int) (hm : 0 ≤ m) (hx : 0 ≤ x) (hc : ∀ c ∈ cs, 0 ≤ c) (hl : cs.length ≤ 63) (h0 : 0 < n) (h1 : n < 1073741824) :
    ∃ v m' x' i', 0 ≤ m' ∧ 0 ≤ x' ∧ 0 ≤ v ∧ v < n ∧ runDef C ⟨2, 7, b__law_take⟩ [(bagD m x i cs, true), (.int n, false)] = some ((.int v, false), [(bagD m' x' i' cs, true), (.int n, false)]) := by
  obtain ⟨c, tl, hc0, hcell⟩ := cell_at cs i hc
  have hlen : (cutD (cs.map D.int) (some i) none).length ≤ 16777215 := Nat.le_trans (cut_len _ _ _) (by rw [List.length_map]; omega)
  obtain ⟨r, hr⟩ : ∃ r, r = runDef C ⟨2, 7, b__law_take⟩ [(bagD m x i cs, true), (.int n, false)] := ⟨_, rfl⟩
  rw [← hr]
  have hn0 : n ≠ 0 := by omega
  have hna : n.natAbs < 1073741824 := by omega
  have fm : ∀ a : Int, 0 ≤ a.fmod n ∧ a.fmod n < n := fun a => by
    rw [Int.fmod_eq_emod_of_nonneg a (Int.le_of_lt h0)]
    exact ⟨Int.emod_nonneg a hn0, Int.emod_lt_of_pos a h0⟩
  have fd : ∀ a : Int, 0 ≤ a → 0 ≤ a.fdiv n := fun a ha => by
    rw [Int.fdiv_eq_ediv_of_nonneg a (Int.le_of_lt h0)]
    exact Int.ediv_nonneg ha (Int.le_of_lt h0)
  have fx : ∀ a : Int, 0 ≤ a.fmod 2147483647 := fun a => by
    rw [Int.fmod_eq_emod_of_nonneg a (by decide)]
    exact Int.emod_nonneg a (by decide)
  have f1 : ∀ a : Int, -18446744073709551616 < a.fmod 1000000007 ∧ a.fmod 1000000007 < 18446744073709551616 := fun a => by
    rw [Int.fmod_eq_emod_of_nonneg a (by decide)]
    have h1 := Int.emod_nonneg a (b := 1000000007) (by decide)
    have h2 := Int.emod_lt_of_pos a (b := 1000000007) (by decide)
    omega
  by_cases hm0 : m = 0
  · by_cases hb : 1000000000000000000 ≤ c
    · have hc1 : 0 < c := by omega
      simp [b__law_take, hm0, hlen, hcell, hb, hc1, hn0, hna] at hr
      exact ⟨_, _, _, _, fd _ hc0, fx _, (fm _).1, (fm _).2, hr⟩
    · simp [b__law_take, hm0, hlen, hcell, hb, hn0, hna, f1] at hr
      exact ⟨_, _, _, _, Int.le_refl 0, fx _, (fm _).1, (fm _).2, hr⟩
  · have hm1 : 0 < m := by omega
    simp [b__law_take, hm0, hm1, hn0, hna] at hr
    exact ⟨_, _, _, _, fd _ hm, hx, (fm _).1, (fm _).2, hr⟩
/-- the state of the drawing -/
structure Bag where
  m : Int
  x : Int
  i : Int
  cs : List Int
  hm : 0 ≤ m
  hx : 0 ≤ x
  hc : ∀ c ∈ cs, 0 ≤ c
  hl : cs.length ≤ 63
def Bag.d (b : Bag) : D := bagD b.m b.x b.i b.cs
theorem Bag.ex (b : Bag) (C : CT) {n : Int} (h : 0 < n ∧ n < 1073741824) : ∃ r : Int × Bag, 0 ≤ r.1 ∧ r.1 < n ∧ runDef C ⟨2, 7, b__law_take⟩ [(b.d, true), (.int n, false)] = some ((.int r.1, false), [(r.2.d, true), (.int n, false)]) := by
  obtain ⟨v, m', x', i', h1, h2, h3, h4, h5⟩ := take_run C b.m b.x b.i b.cs n b.hm b.hx b.hc b.hl h.1 h.2
  exact ⟨(v, ⟨m', x', i', b.cs, h1, h2, b.hc, b.hl⟩), h3, h4, h5⟩
open Classical in
/-- a number drawn, and the state behind -/
noncomputable def Bag.take (b : Bag) (C : CT) (n : Int) : Int × Bag := if h : 0 < n ∧ n < 1073741824 then Classical.choose (b.ex C h) else (0, b)
theorem Bag.take_spec (b : Bag) (C : CT) {n : Int} (h : 0 < n ∧ n < 1073741824) : 0 ≤ (b.take C n).1 ∧ (b.take C n).1 < n ∧ runDef C ⟨2, 7, b__law_take⟩ [(b.d, true), (.int n, false)] = some ((.int (b.take C n).1, false), [((b.take C n).2.d, true), (.int n, false)]) := by
  unfold Bag.take
  rw [dif_pos h]
  exact Classical.choose_spec (b.ex C h)
theorem call_take {T : Tab} (hT : T "_law_take" = some ⟨2, 7, b__law_take⟩) (k : Nat) (b : Bag) {n : Int} (h : 0 < n ∧ n < 1073741824) : callF T (k + 1) "_law_take" [(b.d, true), (.int n, false)] = some ((.int (b.take (callF T k) n).1, false), [((b.take (callF T k) n).2.d, true), (.int n, false)]) := by
  rw [call_at hT]; exact (b.take_spec _ h).2.2
theorem Bag.take_nn (b : Bag) (C : CT) {n : Int} (h : 0 < n ∧ n < 1073741824) : 0 ≤ (b.take C n).1 := (b.take_spec C h).1
theorem Bag.take_lt (b : Bag) (C : CT) {n : Int} (h : 0 < n ∧ n < 1073741824) : (b.take C n).1 < n := (b.take_spec C h).2.1
theorem cut_map (f : Int → D) (ns : List Int) (lo hi : Option Int) : ∃ ms : List Int, cutD (ns.map f) lo hi = ms.map f ∧ ms.length ≤ ns.length := by
  refine ⟨(ns.drop (HT.sIx (ns.map f).length 0 lo)).take (HT.sIx (ns.map f).length (ns.map f).length hi - HT.sIx (ns.map f).length 0 lo), ?_, ?_⟩
  · unfold cutD
    rw [List.map_take, List.map_drop]
  · rw [List.length_take, List.length_drop]; omega
def absI (i : Int) : Int := if i < 0 then -i else i
theorem bag_lc (C : CT) (s : Sl) : ∀ (ns : List Int) (acc : List D), lcGo (tName 1) [1] [] (vP pAbs [.nm 1]) C (ns.map D.int) [s, .no] acc = some ([s, .no], acc ++ ns.map fun n => D.int (absI n))
  | [], acc => by simp [lcGo]
  | n :: ns, acc => by
    have ih := bag_lc C s ns (acc ++ [.int (absI n)])
    simp [lcGo, vAll, absI] at ih ⊢
    exact ih
theorem bag_ex (C : CT) (ns : List Int) (h : ns.length ≤ 63) : ∃ b : Bag, runDef C ⟨1, 2, b__law_bag⟩ [(.wk (ns.map D.int), false)] = some ((b.d, true), [(.wk (ns.map D.int), false)]) := by
  obtain ⟨ms, e, hl⟩ := cut_map D.int ns none (some 63)
  have l1 := bag_lc C (.val (.wk (ns.map D.int)) false false) ms []
  refine ⟨⟨0, 1234567891, 0, ms.map absI, by decide, by decide, fun c hc => ?_, by rw [List.length_map]; omega⟩, ?_⟩
  · obtain ⟨n, _, rfl⟩ := List.mem_map.mp hc
    unfold absI
    split <;> omega
  · simp [b__law_bag, e, Bag.d]
    rw [l1]
    simp
end VS

/-! VAlike: data that are shown; the law's own comparison of two of them. -/
namespace VS
open PySem PySem.StrLaws
mutual
def okD : D → Bool
  | .non => true
  | .bl _ => true
  | .int i => decide (i.natAbs.log2 < 1920)
  | .str x => x.cps.toList.all fun c => decide (c < 16 ^ 8)
  | .lst xs => okDs xs
  | .tup xs => okDs xs
  | _ => false
def okDs : List D → Bool
  | [] => true
  | x :: xs => okD x && okDs xs
end
mutual
/-- at least as long as the text -/
def wtD : D → Nat
  | .non => 4
  | .bl _ => 5
  | .int i => i.natAbs.log2 + 2
  | .str x => 10 * x.length + 2
  | .lst xs => wtDs xs + 3
  | .tup xs => wtDs xs + 3
  | _ => 0
def wtDs : List D → Nat
  | [] => 0
  | x :: xs => wtD x + 2 + wtDs xs
end
mutual
def dpD : D → Nat
  | .lst xs => dpDs xs + 1
  | .tup xs => dpDs xs + 1
  | _ => 0
def dpDs : List D → Nat
  | [] => 0
  | x :: xs => max (dpD x) (dpDs xs)
end
structure Shows (d : D) (x : PyData) : Prop where
  py : toPy d = some x
  pl : x.plain = true
  nd : x.hasDict = false
  sh : x.showable = true
  dp : x.depth = dpD d
  wt : x.shown.length ≤ wtD d
  rf : PyData.eqv x x = true
structure ShowsAll (ds : List D) (xs : List PyData) : Prop where
  py : toPys ds = some xs
  pl : PyData.plainAll xs = true
  nd : PyData.hasDictAll xs = false
  sh : PyData.showableAll xs = true
  dp : PyData.depthAll xs = dpDs ds
  wt : ((PyData.shownAll xs).map (·.length)).sum + 2 * (PyData.shownAll xs).length ≤ wtDs ds
  rf : PyData.eqvAll xs xs = true
theorem int_len (i : Int) : ((toString i : String) : Str).length ≤ i.natAbs.log2 + 2 := by
  have := int_text_length_le (a := i) (k := i.natAbs.log2 + 1) (Nat.succ_pos _) (Nat.lt_succ_self _)
  rw [ofString_length]
  omega
mutual
theorem shows_of : ∀ d : D, okD d = true → ∃ x, Shows d x
  | .non, _ => ⟨.none, rfl, rfl, rfl, rfl, rfl, by decide +kernel, rfl⟩
  | .bl b, _ => ⟨.bool b, rfl, rfl, rfl, rfl, rfl, by cases b <;> decide +kernel, by simp [PyData.eqv]⟩
  | .int i, h => ⟨.int i, rfl, rfl, rfl, by simpa [okD, PyData.showable] using h, rfl, by rw [PyData.shown_int]; exact int_len i, by simp [PyData.eqv]⟩
  | .str x, h => ⟨.str x, rfl, rfl, rfl, rfl, rfl, by
      rw [PyData.shown_str]
      refine reprText_len x fun c hc => ?_
      have h : (x.cps.toList.all fun c => decide (c < 16 ^ 8)) = true := by simpa [okD] using h
      rw [List.all_eq_true] at h
      exact of_decide_eq_true (h c hc), by simp [PyData.eqv]⟩
  | .lst xs, h => by
    obtain ⟨ys, Y⟩ := shows_all xs (by simpa [okD] using h)
    refine ⟨.list ys, by simp [toPy, Y.py], by simpa [PyData.plain] using Y.pl, by simpa [PyData.hasDict] using Y.nd, by simpa [PyData.showable] using Y.sh, by simp [PyData.depth, dpD, Y.dp], ?_, by simpa [PyData.eqv] using Y.rf⟩
    have := listText_len_le (PyData.shownAll ys)
    have w := Y.wt
    show (listText (PyData.shownAll ys)).length ≤ wtDs xs + 3
    omega
  | .tup xs, h => by
    obtain ⟨ys, Y⟩ := shows_all xs (by simpa [okD] using h)
    refine ⟨.tuple ys, by simp [toPy, Y.py], by simpa [PyData.plain] using Y.pl, by simpa [PyData.hasDict] using Y.nd, by simpa [PyData.showable] using Y.sh, by simp [PyData.depth, dpD, Y.dp], ?_, by simpa [PyData.eqv] using Y.rf⟩
    have := tupleText_len_le (PyData.shownAll ys)
    have w := Y.wt
    show (tupleText (PyData.shownAll ys)).length ≤ wtDs xs + 3
    omega
theorem shows_all : ∀ ds : List D, okDs ds = true → ∃ xs, ShowsAll ds xs
  | [], _ => ⟨[], rfl, rfl, rfl, rfl, rfl, Nat.le_refl _, rfl⟩
  | d :: ds, h => by
    have h : okD d = true ∧ okDs ds = true := by simpa [okDs] using h
    obtain ⟨x, X⟩ := shows_of d h.1
    obtain ⟨xs, Y⟩ := shows_all ds h.2
    refine ⟨x :: xs, by simp [toPys, X.py, Y.py], by simp [PyData.plainAll, X.pl, Y.pl], by simp [PyData.hasDictAll, X.nd, Y.nd], by simp [PyData.showableAll, X.sh, Y.sh], by simp [PyData.depthAll, dpDs, X.dp, Y.dp], ?_, by simp [PyData.eqvAll, X.rf, Y.rf]⟩
    have h1 := X.wt
    have h2 := Y.wt
    simp only [PyData.shownAll_cons, List.map_cons, List.sum_cons, List.length_cons, wtDs]
    omega
end
theorem eqD_self {d : D} (h : okD d = true) (hd : dpD d ≤ 100) : eqD d d = some true := by
  obtain ⟨x, X⟩ := shows_of d h
  simp [eqD, X.py, X.pl, X.dp, X.rf, DEEP, hd]
theorem repr_self {d : D} (h : okD d = true) (hd : dpD d ≤ 100) (hw : wtD d ≤ 16777216) : ∃ t, pRepr [d] = some (.str t, false) := by
  obtain ⟨x, X⟩ := shows_of d h
  exact ⟨x.shown, by simp [pRepr, X.py, reprOk, X.nd, X.sh, X.dp, DEEP, hd, Nat.le_trans X.wt hw]⟩
theorem eqD_str (t : Str) : eqD (.str t) (.str t) = some true := by
  simp [eqD, toPy, PyData.plain, PyData.depth, PyData.eqv, DEEP]
/-- alike: the very data -/
theorem alike_run (C : CT) {d : D} (h : okD d = true) (hd : dpD d ≤ 100) (hw : wtD d ≤ 16777216) (o o' : Bool) :
    ∃ outs, runDef C ⟨2, 2, b__law_alike⟩ [(d, o), (d, o')] = some ((.bl true, false), outs) ∧ outs = [(d, o), (d, o')] := by
  obtain ⟨t, ht⟩ := repr_self h hd hw
  refine ⟨[(d, o), (d, o')], ?_, rfl⟩
  cases o <;> cases o' <;> simp [b__law_alike, pEq, eqD_self h hd, ht, eqD_str]
end VS

namespace VS.Law
open PySem L2
def topS (i : Nat) : Stmt := PySem.Challenge.pw_branchlooks_k44_rows_that_part.main.body.getD i (.Pass ⟨0, 0, 0, 0⟩)
def bs : List Str := ["abs", "bool", "int", "isinstance", "max", "range", "repr"]
def d_looks_of : DefI := ⟨"looks_of", topS 1, ["worth"], ["worth"]⟩
def d_next_power : DefI := ⟨"next_power", topS 3, ["worth"], ["worth"]⟩
def d_parting_row : DefI := ⟨"parting_row", topS 4, ["one", "other"], ["one", "other", "high"]⟩
def d_spare_for : DefI := ⟨"spare_for", topS 5, ["worth"], ["worth"]⟩
def d__law_bag : DefI := ⟨"_law_bag", topS 7, ["_law_script"], ["_law_script", "_law_cell"]⟩
def d__law_take : DefI := ⟨"_law_take", topS 8, ["_law_bag_here", "_law_many"], ["_law_bag_here", "_law_many", "_law_early", "_law_second", "_law_cell", "_law_mixed", "_law_drawn"]⟩
def d__law_alike : DefI := ⟨"_law_alike", topS 9, ["_law_found", "_law_due"], ["_law_found", "_law_due"]⟩
def d__law_digits : DefI := ⟨"_law_digits", topS 10, ["_law_worth"], ["_law_worth", "_law_many", "_law_rest"]⟩
def d__law_worth_drawn : DefI := ⟨"_law_worth_drawn", topS 11, ["_law_bag_here"], ["_law_bag_here", "_law_way", "_law_great", "_law_k"]⟩
def d__law_first : DefI := ⟨"_law_first", topS 12, ["_law_one", "_law_other"], ["_law_one", "_law_other", "_law_many"]⟩
def d__law_pair_right : DefI := ⟨"_law_pair_right", topS 13, ["_law_bag_here", "_law_one", "_law_other"], ["_law_bag_here", "_law_one", "_law_other", "_law_again", "_law_many", "_law_lesser", "_law_less"]⟩
def d_law : DefI := ⟨"law", topS 14, ["_law_script"], ["_law_script", "_law_bag_here", "_law_turn", "_law_spare", "_law_one", "_law_other"]⟩
def tab : List DefI := [d_looks_of, d_next_power, d_parting_row, d_spare_for, d__law_bag, d__law_take, d__law_alike, d__law_digits, d__law_worth_drawn, d__law_first, d__law_pair_right, d_law]
def b_looks_of : SF :=
  sSeq (sRet (vP pSub [.ex (vP pBits [.nm 0]), .ex (vLit (.int 1))])) <|
  sNext
theorem t_looks_of : tabOf tab bs "looks_of" = some ⟨1, 1, b_looks_of⟩ := by kernel_rfl
def b_next_power : SF :=
  sSeq (sRet (vP pShl [.ex (vLit (.int 1)), .ex (vP pAdd [.ex (vCall "looks_of" [.nm 0]), .ex (vLit (.int 1))])])) <|
  sNext
theorem t_next_power : tabOf tab bs "next_power" = some ⟨1, 1, b_next_power⟩ := by kernel_rfl
def b_parting_row : SF :=
  sSeq (sIf (vP pEq [.nm 0, .nm 1])
    (sSeq (sRet (vLit .non)) <|
      sNext)
    (sNext)) <|
  sSeq (sAsg (tName 2) (vP pMax2 [.nm 0, .nm 1])) <|
  sSeq (sRet (vIfE (vP pNe [.ex (vCall "looks_of" [.nm 0]), .ex (vCall "looks_of" [.nm 1])]) (vLit (.int 0)) (vP pSub [.ex (vCall "next_power" [.nm 2]), .nm 2]))) <|
  sNext
theorem t_parting_row : tabOf tab bs "parting_row" = some ⟨2, 3, b_parting_row⟩ := by kernel_rfl
def b_spare_for : SF :=
  sSeq (sRet (vP pSub [.ex (vP pSub [.ex (vCall "next_power" [.nm 0]), .ex (vLit (.int 1))]), .nm 0])) <|
  sNext
theorem t_spare_for : tabOf tab bs "spare_for" = some ⟨1, 1, b_spare_for⟩ := by kernel_rfl
theorem t__law_bag : tabOf tab bs "_law_bag" = some ⟨1, 2, b__law_bag⟩ := by kernel_rfl
theorem t__law_take : tabOf tab bs "_law_take" = some ⟨2, 7, b__law_take⟩ := by kernel_rfl
theorem t__law_alike : tabOf tab bs "_law_alike" = some ⟨2, 2, b__law_alike⟩ := by kernel_rfl
def b__law_digits : SF :=
  sSeq (sPar [tName 1, tName 2] [vLit (.int 0), vVar 0]) <|
  sSeq (sWhile (vP pGt [.nm 2, .ex (vLit (.int 1))])
    (sSeq (sPar [tName 2, tName 1] [vP pFdiv [.nm 2, .ex (vLit (.int 2))], vP pAdd [.nm 1, .ex (vLit (.int 1))]]) <|
      sNext)) <|
  sSeq (sRetV 1) <|
  sNext
theorem t__law_digits : tabOf tab bs "_law_digits" = some ⟨1, 3, b__law_digits⟩ := by kernel_rfl
def b__law_worth_drawn : SF :=
  sSeq (sAsg (tName 1) (vCall "_law_take" [.nm 0, .ex (vLit (.int 4))])) <|
  sSeq (sIf (vP pLt [.nm 1, .ex (vLit (.int 2))])
    (sSeq (sRet (vP pAdd [.ex (vLit (.int 1)), .ex (vCall "_law_take" [.nm 0, .ex (vLit (.int 70))])])) <|
      sNext)
    (sNext)) <|
  sSeq (sAsg (tName 2) (vLit (.int 1))) <|
  sSeq (sFor ⟨[.ex (vCall "_law_take" [.nm 0, .ex (vLit (.int 136))])], itRng1⟩ (tName 3)
    (sSeq (sAsg (tName 2) (vP pMul [.ex (vLit (.int 2)), .nm 2])) <|
      sNext)) <|
  sSeq (sIf (vP pEq [.nm 1, .ex (vLit (.int 2))])
    (sSeq (sRet (vP pMax2 [.ex (vLit (.int 1)), .ex (vP pAdd [.ex (vP pSub [.ex (vP pAdd [.nm 2, .ex (vCall "_law_take" [.nm 0, .ex (vLit (.int 5))])]), .ex (vLit (.int 2))]), .ex (vP pMul [.ex (vCall "_law_take" [.nm 0, .ex (vLit (.int 2))]), .ex (vP pFdiv [.nm 2, .ex (vLit (.int 2))])])])])) <|
      sNext)
    (sNext)) <|
  sSeq (sRet (vP pAdd [.nm 2, .ex (vP pMul [.ex (vCall "_law_take" [.nm 0, .ex (vP pPow [.ex (vLit (.int 10)), .ex (vLit (.int 9))])]), .ex (vCall "_law_take" [.nm 0, .ex (vP pPow [.ex (vLit (.int 10)), .ex (vLit (.int 9))])])])])) <|
  sNext
theorem t__law_worth_drawn : tabOf tab bs "_law_worth_drawn" = some ⟨1, 4, b__law_worth_drawn⟩ := by kernel_rfl
def b__law_first : SF :=
  sSeq (sFor ⟨[.ex (vLit (.int 140))], itRng1⟩ (tName 2)
    (sSeq (sIf (vP pNe [.ex (vCall "_law_digits" [.ex (vP pAdd [.nm 0, .nm 2])]), .ex (vCall "_law_digits" [.ex (vP pAdd [.nm 1, .nm 2])])])
        (sSeq (sRetV 2) <|
          sNext)
        (sNext)) <|
      sNext)) <|
  sSeq (sRet (vLit .non)) <|
  sNext
theorem t__law_first : tabOf tab bs "_law_first" = some ⟨2, 3, b__law_first⟩ := by kernel_rfl
def b__law_pair_right : SF :=
  sSeq (sFor ⟨[.ex (vLit (.int 2))], itRng1⟩ (tName 3)
    (sSeq (sIf (vNot (vCall "_law_alike" [.ex (vP pLst [.ex (vCall "parting_row" [.nm 1, .nm 2]), .ex (vCall "parting_row" [.nm 2, .nm 1])]), .ex (vP pMul [.ex (vP pLst [.ex (vCall "parting_row" [.nm 1, .nm 2])]), .ex (vLit (.int 2))])]))
        (sSeq (sRet (vLit (.bl false))) <|
          sNext)
        (sNext)) <|
      sNext)) <|
  sSeq (sAsg (tName 4) (vCall "parting_row" [.nm 1, .nm 2])) <|
  sSeq (sIf (vOr (vP pEq [.nm 1, .nm 2]) (vP pIsN [.nm 4]))
    (sSeq (sRet (vAnd (vP pEq [.nm 1, .nm 2]) (vP pIsN [.nm 4]))) <|
      sNext)
    (sNext)) <|
  sSeq (sIf (vOr (vNot (vP (pIsa "int") [.nm 4])) (vOr (vP (pIsa "bool") [.nm 4]) (vP pLt [.nm 4, .ex (vLit (.int 0))])))
    (sSeq (sRet (vLit (.bl false))) <|
      sNext)
    (sNext)) <|
  sSeq (sIf (vP pLt [.ex (vP pMax2 [.nm 1, .nm 2]), .ex (vLit (.int 80))])
    (sSeq (sRet (vP pEq [.nm 4, .ex (vCall "_law_first" [.nm 1, .nm 2])])) <|
      sNext)
    (sNext)) <|
  sSeq (sIf (vP pGt [.nm 4, .ex (vP pMax2 [.nm 1, .nm 2])])
    (sSeq (sRet (vLit (.bl false))) <|
      sNext)
    (sNext)) <|
  sSeq (sAsg (tName 5) (vLC ⟨[.ex (vP pTup [.ex (vLit (.int 0)), .ex (vP pSub [.nm 4, .ex (vLit (.int 1))]), .ex (vP pFdiv [.nm 4, .ex (vLit (.int 2))]), .ex (vP pFdiv [.nm 4, .ex (vLit (.int 3))])])], itSeq⟩ (tName 6) [6] [vChain pLe pLt (.ex (vLit (.int 0))) (.nm 6) (.nm 4)] (vVar 6))) <|
  sSeq (sIf (vP pNe [.ex (vLC ⟨[.nm 5], itSeq⟩ (tName 6) [6] [vP pNe [.ex (vCall "_law_digits" [.ex (vP pAdd [.nm 1, .nm 6])]), .ex (vCall "_law_digits" [.ex (vP pAdd [.nm 2, .nm 6])])]] (vVar 6)), .ex (vP pLst [])])
    (sSeq (sRet (vLit (.bl false))) <|
      sNext)
    (sNext)) <|
  sSeq (sRet (vP pNe [.ex (vCall "_law_digits" [.ex (vP pAdd [.nm 1, .nm 4])]), .ex (vCall "_law_digits" [.ex (vP pAdd [.nm 2, .nm 4])])])) <|
  sNext
theorem t__law_pair_right : tabOf tab bs "_law_pair_right" = some ⟨3, 7, b__law_pair_right⟩ := by kernel_rfl
def l0_law : SF :=
  sSeq (sPar [tName 4, tName 5] [vCall "_law_worth_drawn" [.nm 1], vCall "_law_worth_drawn" [.nm 1]]) <|
  sSeq (sIf (vP pEq [.ex (vCall "_law_take" [.nm 1, .ex (vLit (.int 4))]), .ex (vLit (.int 0))])
    (sSeq (sAsg (tName 5) (vP pMax2 [.ex (vLit (.int 1)), .ex (vP pSub [.ex (vP pAdd [.nm 4, .ex (vCall "_law_take" [.nm 1, .ex (vLit (.int 3))])]), .ex (vLit (.int 1))])])) <|
      sNext)
    (sNext)) <|
  sSeq (sIf (vNot (vCall "_law_pair_right" [.nm 1, .nm 4, .nm 5]))
    (sSeq (sRet (vLit (.bl false))) <|
      sNext)
    (sNext)) <|
  sSeq (sAsg (tName 3) (vCall "spare_for" [.nm 4])) <|
  sSeq (sIf (vOr (vNot (vP (pIsa "int") [.nm 3])) (vOr (vP (pIsa "bool") [.nm 3]) (vP pLt [.nm 3, .ex (vLit (.int 0))])))
    (sSeq (sRet (vLit (.bl false))) <|
      sNext)
    (sNext)) <|
  sSeq (sIf (vOr (vP pNe [.ex (vCall "_law_digits" [.ex (vP pAdd [.nm 4, .nm 3])]), .ex (vCall "_law_digits" [.nm 4])]) (vP pEq [.ex (vCall "_law_digits" [.ex (vP pAdd [.ex (vP pAdd [.nm 4, .nm 3]), .ex (vLit (.int 1))])]), .ex (vCall "_law_digits" [.nm 4])]))
    (sSeq (sRet (vLit (.bl false))) <|
      sNext)
    (sNext)) <|
  sSeq (sIf (vP pNe [.ex (vCall "looks_of" [.nm 4]), .ex (vCall "_law_digits" [.nm 4])])
    (sSeq (sRet (vLit (.bl false))) <|
      sNext)
    (sNext)) <|
  sNext
def b_law : SF :=
  sSeq (sAsg (tName 1) (vCall "_law_bag" [.nm 0])) <|
  sSeq (sFor ⟨[.ex (vLit (.int 12))], itRng1⟩ (tName 2)
    (l0_law)) <|
  sSeq (sRet (vLit (.bl true))) <|
  sNext
theorem t_law : tabOf tab bs "law" = some ⟨1, 6, b_law⟩ := by kernel_rfl
structure TOk (T : Tab) : Prop where
  f_looks_of : T "looks_of" = some ⟨1, 1, b_looks_of⟩
  f_next_power : T "next_power" = some ⟨1, 1, b_next_power⟩
  f_parting_row : T "parting_row" = some ⟨2, 3, b_parting_row⟩
  f_spare_for : T "spare_for" = some ⟨1, 1, b_spare_for⟩
  f__law_bag : T "_law_bag" = some ⟨1, 2, b__law_bag⟩
  f__law_take : T "_law_take" = some ⟨2, 7, b__law_take⟩
  f__law_alike : T "_law_alike" = some ⟨2, 2, b__law_alike⟩
  f__law_digits : T "_law_digits" = some ⟨1, 3, b__law_digits⟩
  f__law_worth_drawn : T "_law_worth_drawn" = some ⟨1, 4, b__law_worth_drawn⟩
  f__law_first : T "_law_first" = some ⟨2, 3, b__law_first⟩
  f__law_pair_right : T "_law_pair_right" = some ⟨3, 7, b__law_pair_right⟩
  f_law : T "law" = some ⟨1, 6, b_law⟩
theorem tok : TOk (tabOf tab bs) := ⟨t_looks_of, t_next_power, t_parting_row, t_spare_for, t__law_bag, t__law_take, t__law_alike, t__law_digits, t__law_worth_drawn, t__law_first, t__law_pair_right, t_law⟩
end VS.Law


namespace VS.Law
open PySem
variable {T : Tab} (H : TOk T)
/-! ### the numbers -/
def lg (w : Int) : Int := (w.toNat.log2 : Int)
theorem lg_nn (w : Int) : 0 ≤ lg w := Int.natCast_nonneg _
theorem lg_of {w : Int} {k : Nat} (h1 : 2 ^ k ≤ w) (h2 : w < 2 ^ (k + 1)) : lg w = k := by
  unfold lg
  have e : ((w.toNat : Nat) : Int) = w := Int.toNat_of_nonneg (Int.le_trans (Int.le_of_lt (Int.pow_pos (by decide))) h1)
  have a1 : 2 ^ k ≤ w.toNat := by
    have : ((2 ^ k : Nat) : Int) ≤ (w.toNat : Int) := by rw [e]; simpa using h1
    exact Int.ofNat_le.mp this
  have a2 : w.toNat < 2 ^ (k + 1) := by
    have : (w.toNat : Int) < ((2 ^ (k + 1) : Nat) : Int) := by rw [e]; simpa using h2
    exact Int.ofNat_lt.mp this
  have n0 : w.toNat ≠ 0 := by have := Nat.two_pow_pos k; omega
  have b1 := (Nat.le_log2 n0).mpr a1
  have b2 := (Nat.log2_lt n0).mpr a2
  have : w.toNat.log2 = k := by omega
  rw [this]
theorem lg_spec {w : Int} (h : 1 ≤ w) : ∃ k : Nat, lg w = k ∧ 2 ^ k ≤ w ∧ w < 2 ^ (k + 1) := by
  refine ⟨w.toNat.log2, rfl, ?_, ?_⟩
  · have n0 : w.toNat ≠ 0 := by omega
    have := Nat.log2_self_le n0
    have e : ((w.toNat : Nat) : Int) = w := Int.toNat_of_nonneg (by omega)
    have : ((2 ^ w.toNat.log2 : Nat) : Int) ≤ (w.toNat : Int) := Int.ofNat_le.mpr this
    rw [e] at this
    simpa using this
  · have := Nat.lt_log2_self (n := w.toNat)
    have e : ((w.toNat : Nat) : Int) = w := Int.toNat_of_nonneg (by omega)
    have : (w.toNat : Int) < ((2 ^ (w.toNat.log2 + 1) : Nat) : Int) := Int.ofNat_lt.mpr this
    rw [e] at this
    simpa using this
def np (w : Int) : Int := 2 ^ (w.toNat.log2 + 1)
abbrev W : Int := 2 ^ 200
theorem lg_W {w : Int} (h : 1 ≤ w) (hw : w < W) : w.toNat.log2 < 200 := by
  have n0 : w.toNat ≠ 0 := by omega
  refine (Nat.log2_lt n0).mpr ?_
  have e : ((w.toNat : Nat) : Int) = w := Int.toNat_of_nonneg (by omega)
  have : (w.toNat : Int) < ((2 ^ 200 : Nat) : Int) := by rw [e]; exact hw
  exact Int.ofNat_lt.mp this
theorem bits_eq {w : Int} (h : 1 ≤ w) : (if w = 0 then (0 : Int) else (w.natAbs.log2 : Int) + 1) - 1 = lg w := by
  rw [if_neg (by omega)]
  unfold lg
  have : w.natAbs = w.toNat := by omega
  rw [this]; omega
include H in
theorem c_looks (k : Nat) {w : Int} (h : 1 ≤ w) : callF T (k + 1) "looks_of" [(.int w, false)] = some ((.int (lg w), false), [(.int w, false)]) := by
  rw [call_at H.f_looks_of]
  have w0 : w ≠ 0 := by omega
  have e : (w.natAbs.log2 : Int) = lg w := by
    unfold lg
    have : w.natAbs = w.toNat := by omega
    rw [this]
  simp [b_looks_of, w0, e]
theorem shl_np {w : Int} (h : 1 ≤ w) (hw : w < W) : pShl [.int 1, .int (lg w + 1)] = some (.int (np w), false) := by
  have h1 := lg_nn w
  have h2 := lg_W h hw
  have h3 : lg w + 1 ≤ 1000000 := by unfold lg; omega
  have h4 : (0 : Int) ≤ lg w + 1 := by omega
  have e : (lg w + 1).toNat = w.toNat.log2 + 1 := by unfold lg; omega
  rw [x_shl, if_pos ⟨h4, h3, by decide⟩, e, Int.one_mul]
  rfl
theorem r_np (C : CT) (w l n : Int) (h : C "looks_of" [(.int w, false)] = some ((.int l, false), [(.int w, false)])) (h2 : pShl [.int 1, .int (l + 1)] = some (.int n, false)) : runDef C ⟨1, 1, b_next_power⟩ [(.int w, false)] = some ((.int n, false), [(.int w, false)]) := by
  simp [-x_shl, b_next_power, h, h2]
include H in
theorem c_np (k : Nat) {w : Int} (h : 1 ≤ w) (hw : w < W) : callF T (k + 1 + 1) "next_power" [(.int w, false)] = some ((.int (np w), false), [(.int w, false)]) := by
  rw [call_at H.f_next_power]
  exact r_np _ w _ _ (c_looks H k h) (shl_np h hw)
def prD (a b : Int) : D := if a = b then .non else .int (if lg a ≠ lg b then 0 else np (max a b) - max a b)
theorem r_part (C : CT) (a b la lb n : Int) (h1 : C "looks_of" [(.int a, false)] = some ((.int la, false), [(.int a, false)])) (h2 : C "looks_of" [(.int b, false)] = some ((.int lb, false), [(.int b, false)]))
    (h3 : C "next_power" [(.int (if a < b then b else a), false)] = some ((.int n, false), [(.int (if a < b then b else a), false)])) :
    runDef C ⟨2, 3, b_parting_row⟩ [(.int a, false), (.int b, false)] = some ((if a = b then D.non else .int (if la ≠ lb then 0 else n - (if a < b then b else a)), false), [(.int a, false), (.int b, false)]) := by
  by_cases e : a = b
  · simp [b_parting_row, e]
  · by_cases e2 : la = lb
    · simp [b_parting_row, e, e2, h1, h2, h3]
    · simp [b_parting_row, e, e2, h1, h2]
include H in
theorem c_part (k : Nat) {a b : Int} (ha : 1 ≤ a) (hb : 1 ≤ b) (wa : a < W) (wb : b < W) : callF T (k + 1 + 1 + 1) "parting_row" [(.int a, false), (.int b, false)] = some ((prD a b, false), [(.int a, false), (.int b, false)]) := by
  rw [call_at H.f_parting_row]
  have hm : (if a < b then b else a) = max a b := by rw [Int.max_def]; split <;> split <;> omega
  have m1 : 1 ≤ max a b := by omega
  have m2 : max a b < W := by omega
  rw [r_part _ a b _ _ (np (max a b)) (c_looks H (k + 1) ha) (c_looks H (k + 1) hb) (by rw [hm]; exact c_np H k m1 m2), hm]
  rfl
theorem r_spare (C : CT) (a n : Int) (h : C "next_power" [(.int a, false)] = some ((.int n, false), [(.int a, false)])) : runDef C ⟨1, 1, b_spare_for⟩ [(.int a, false)] = some ((.int (n - 1 - a), false), [(.int a, false)]) := by
  simp [b_spare_for, h]
include H in
theorem c_spare (k : Nat) {a : Int} (ha : 1 ≤ a) (wa : a < W) : callF T (k + 1 + 1 + 1) "spare_for" [(.int a, false)] = some ((.int (np a - 1 - a), false), [(.int a, false)]) := by
  rw [call_at H.f_spare_for]
  exact r_spare _ a _ (c_np H k ha wa)
/-! digits -/
theorem dig_go (C : CT) (w : Int) : ∀ (n m : Nat) (r d : Int), 2 ^ m ≤ r → r < 2 ^ (m + 1) → m < n →
    whileGo (vP pGt [.nm 2, .ex (vLit (.int 1))]) (sSeq (sPar [tName 2, tName 1] [vP pFdiv [.nm 2, .ex (vLit (.int 2))], vP pAdd [.nm 1, .ex (vLit (.int 1))]]) <| sNext) C n [.val (.int w) false false, .val (.int d) false false, .val (.int r) false false] =
      some (.nx [.val (.int w) false false, .val (.int (d + m)) false false, .val (.int 1) false false])
  | 0, m, r, d, _, _, h => absurd h (Nat.not_lt_zero _)
  | n + 1, 0, r, d, h1, h2, h => by
    have : r = 1 := by simp at h1 h2; omega
    subst this
    simp [whileGo]
  | n + 1, m + 1, r, d, h1, h2, h => by
    have p1 : (2 : Int) ^ (m + 1) = 2 * 2 ^ m := by rw [Int.pow_succ]; omega
    have p2 : (2 : Int) ^ (m + 1 + 1) = 2 * 2 ^ (m + 1) := by rw [Int.pow_succ]; omega
    have pp : (0 : Int) < 2 ^ m := Int.pow_pos (by decide)
    have r1 : 1 < r := by omega
    have ih := dig_go C w n m (r.fdiv 2) (d + 1) (by rw [Int.fdiv_eq_ediv_of_nonneg r (by decide)]; omega) (by rw [Int.fdiv_eq_ediv_of_nonneg r (by decide)]; omega) (by omega)
    have e : d + 1 + (m : Int) = d + ((m : Int) + 1) := by omega
    simp [whileGo, r1] at ih ⊢
    rw [ih, e]
include H in
theorem c_dig (k : Nat) {w : Int} (h : 1 ≤ w) (hw : w < W) : callF T (k + 1) "_law_digits" [(.int w, false)] = some ((.int (lg w), false), [(.int w, false)]) := by
  rw [call_at H.f__law_digits]
  obtain ⟨m, e, h1, h2⟩ := lg_spec h
  have hm : m < 200 := by have := lg_W h hw; unfold lg at e; omega
  have go := dig_go (callF T k) w TURNS m w 0 h1 h2 (Nat.lt_trans hm (by decide))
  simp [b__law_digits, sWhile] at go ⊢
  rw [go]
  simp [e]
end VS.Law

namespace VS.Law
open PySem
variable {T : Tab} (H : TOk T)
/-- numbers can be drawn -/
def Draws (C : CT) : Prop := ∀ (b : Bag) (n : Int), 0 < n → n < 1073741824 → ∃ (v : Int) (b' : Bag), 0 ≤ v ∧ v < n ∧ C "_law_take" [(b.d, true), (.int n, false)] = some ((.int v, false), [(b'.d, true), (.int n, false)])
include H in
theorem draws (k : Nat) : Draws (callF T (k + 1)) := fun b n h1 h2 => ⟨_, _, b.take_nn _ ⟨h1, h2⟩, b.take_lt _ ⟨h1, h2⟩, call_take H.f__law_take k b ⟨h1, h2⟩⟩
/-- a slot that a loop's name can take -/
def Sl.free (s : Sl) : Prop := s = .no ∨ ∃ d o, s = .val d o false
theorem great_loop (C : CT) (s0 s1 : Sl) : ∀ (xs : List D) (g : Int) (s3 : Sl), Sl.free s3 →
    ∃ s3', loopGo (tName 3) (sSeq (sAsg (tName 2) (vP pMul [.ex (vLit (.int 2)), .nm 2])) <| sNext) C xs [s0, s1, .val (.int g) false false, s3] = some (.nx [s0, s1, .val (.int (2 ^ xs.length * g)) false false, s3'])
  | [], g, s3, _ => ⟨s3, by simp [loopGo]⟩
  | x :: xs, g, s3, h => by
    obtain ⟨s, hs⟩ := great_loop C s0 s1 xs (2 * g) (.val x false false) (.inr ⟨_, _, rfl⟩)
    refine ⟨s, ?_⟩
    have e : (2 : Int) ^ (xs.length + 1) * g = 2 ^ xs.length * (2 * g) := by rw [Int.pow_succ, Int.mul_assoc]
    rcases h with rfl | ⟨d, o, rfl⟩ <;> simp [loopGo] at hs ⊢ <;> rw [hs, e]
theorem pow_mono (n : Nat) (h : n < 136) : (1 : Int) ≤ 2 ^ n ∧ (2 : Int) ^ n ≤ 2 ^ 135 := by
  have h1 : (0 : Int) < 2 ^ n := Int.pow_pos (by decide)
  refine ⟨h1, ?_⟩
  have := Nat.pow_le_pow_right (n := 2) (by decide) (show n ≤ 135 by omega)
  have : ((2 ^ n : Nat) : Int) ≤ ((2 ^ 135 : Nat) : Int) := Int.ofNat_le.mpr this
  simpa using this
/-- below the great numbers -/
def Small (w : Int) : Prop := 1 ≤ w ∧ w < 2 ^ 140
theorem r_worth (C : CT) (hC : Draws C) (b : Bag) : ∃ (w : Int) (b' : Bag), (1 ≤ w ∧ w < 2 ^ 139) ∧ runDef C ⟨1, 4, b__law_worth_drawn⟩ [(b.d, true)] = some ((.int w, false), [(b'.d, true)]) := by
  obtain ⟨v1, b1, p1, q1, h1⟩ := hC b 4 (by decide) (by decide)
  by_cases c1 : v1 < 2
  · obtain ⟨v2, b2, p2, q2, h2⟩ := hC b1 70 (by decide) (by decide)
    refine ⟨1 + v2, b2, ⟨by omega, by omega⟩, ?_⟩
    simp [b__law_worth_drawn, h1, c1, h2]
  · obtain ⟨v2, b2, p2, q2, h2⟩ := hC b1 136 (by decide) (by decide)
    have hr := rng1 p2 (by omega)
    obtain ⟨s3, hl⟩ := great_loop C (.val b2.d true true) (.val (.int v1) false false) ((List.range v2.toNat).map fun (k : Nat) => D.int k) 1 .no (.inl rfl)
    rw [List.length_map, List.length_range, Int.mul_one] at hl
    obtain ⟨g1, g2⟩ := pow_mono v2.toNat (by omega)
    generalize (2 : Int) ^ v2.toNat = g at hl g1 g2
    generalize ((List.range v2.toNat).map fun (k : Nat) => D.int k) = xs at hl hr
    by_cases c2 : v1 = 2
    · obtain ⟨v3, b3, p3, q3, h3⟩ := hC b2 5 (by decide) (by decide)
      obtain ⟨v4, b4, p4, q4, h4⟩ := hC b3 2 (by decide) (by decide)
      have s1 : -18446744073709551616 < v4 := by omega
      have s2 : v4 < 18446744073709551616 := by omega
      have e : g.fdiv 2 = g / 2 := Int.fdiv_eq_ediv_of_nonneg g (by decide)
      have m : v4 * (g / 2) = 0 ∨ v4 * (g / 2) = g / 2 := by
        have : v4 = 0 ∨ v4 = 1 := by omega
        rcases this with rfl | rfl <;> simp
      refine ⟨if 1 < g + v3 - 2 + v4 * (g / 2) then g + v3 - 2 + v4 * (g / 2) else 1, b4, ⟨by split <;> omega, by split <;> omega⟩, ?_⟩
      subst c2
      simp [b__law_worth_drawn, h1, h2, hr, hl, h3, h4, s1, s2, e]
    · obtain ⟨v3, b3, p3, q3, h3⟩ := hC b2 1000000000 (by decide) (by decide)
      obtain ⟨v4, b4, p4, q4, h4⟩ := hC b3 1000000000 (by decide) (by decide)
      have s1 : -18446744073709551616 < v4 := by omega
      have s2 : v4 < 18446744073709551616 := by omega
      have m1 : 0 ≤ v3 * v4 := Int.mul_nonneg p3 p4
      have m2 : v3 * v4 ≤ 1000000000 * 1000000000 := Int.mul_le_mul (by omega) (by omega) p4 (by decide)
      refine ⟨g + v3 * v4, b4, ⟨by omega, by omega⟩, ?_⟩
      simp [b__law_worth_drawn, h1, c1, h2, hr, hl, c2, h3, h4, s1, s2]
end VS.Law

namespace VS.Law
open PySem
variable {T : Tab} (H : TOk T)
theorem part_spec {a b : Int} (ha : 1 ≤ a) (hb : 1 ≤ b) (hab : a ≠ b) : ∃ p : Int, prD a b = .int p ∧ 0 ≤ p ∧ p ≤ max a b ∧ (∀ x, 0 ≤ x → x < p → lg (a + x) = lg (b + x)) ∧ lg (a + p) ≠ lg (b + p) := by
  obtain ⟨k, ka, a1, a2⟩ := lg_spec ha
  obtain ⟨j, kb, b1, b2⟩ := lg_spec hb
  unfold prD
  rw [if_neg hab]
  by_cases e : lg a = lg b
  · have ekj : k = j := by omega
    subst ekj
    obtain ⟨m, em, m1, m2⟩ := lg_spec (w := max a b) (by omega)
    have en : np (max a b) = 2 ^ (m + 1) := by unfold np; unfold lg at em; rw [show (max a b).toNat.log2 = m by omega]
    have emk : lg (max a b) = k := lg_of (by omega) (by omega)
    have : m = k := by omega
    subst this
    have pp : (2 : Int) ^ (m + 1) = 2 * 2 ^ m := by rw [Int.pow_succ]; omega
    have pq : (2 : Int) ^ (m + 1 + 1) = 2 * 2 ^ (m + 1) := by rw [Int.pow_succ]; omega
    refine ⟨2 ^ (m + 1) - max a b, by rw [en]; simp [e], by omega, by omega, fun x x0 x1 => ?_, ?_⟩
    · rw [lg_of (k := m) (by omega) (by omega), lg_of (k := m) (by omega) (by omega)]
    · rcases Int.lt_or_lt_of_ne hab with h | h
      · have h1 : lg (b + (2 ^ (m + 1) - max a b)) = ((m + 1 : Nat) : Int) := lg_of (by omega) (by omega)
        have h2 : lg (a + (2 ^ (m + 1) - max a b)) = m := lg_of (by omega) (by omega)
        omega
      · have h1 : lg (a + (2 ^ (m + 1) - max a b)) = ((m + 1 : Nat) : Int) := lg_of (by omega) (by omega)
        have h2 : lg (b + (2 ^ (m + 1) - max a b)) = m := lg_of (by omega) (by omega)
        omega
  · exact ⟨0, by simp [e], by omega, by omega, fun x x0 x1 => by omega, by simpa using e⟩
theorem part_symm (a b : Int) : prD a b = prD b a := by
  unfold prD
  by_cases e : a = b
  · rw [if_pos e, if_pos e.symm]
  · rw [if_neg e, if_neg (Ne.symm e), Int.max_comm]
    by_cases h : lg a = lg b
    · simp [h]
    · have h' : ¬ lg b = lg a := fun z => h z.symm
      simp [h, h']
def DigC (C : CT) : Prop := ∀ w : Int, 1 ≤ w → w < W → C "_law_digits" [(.int w, false)] = some ((.int (lg w), false), [(.int w, false)])
def PartC (C : CT) : Prop := ∀ a b : Int, 1 ≤ a → 1 ≤ b → a < W → b < W → C "parting_row" [(.int a, false), (.int b, false)] = some ((prD a b, false), [(.int a, false), (.int b, false)])
def AlikeC (C : CT) : Prop := ∀ (d : D) (o o' : Bool), okD d = true → dpD d ≤ 100 → wtD d ≤ 16777216 → C "_law_alike" [(d, o), (d, o')] = some ((.bl true, false), [(d, o), (d, o')])
/-- the first number at which the looks differ -/
theorem first_loop (C : CT) (hC : DigC C) (a b p : Int) (ha : 1 ≤ a) (hb : 1 ≤ b) (wa : a < 80) (wb : b < 80) (hs : ∀ x, 0 ≤ x → x < p → lg (a + x) = lg (b + x)) (hp : lg (a + p) ≠ lg (b + p)) : ∀ (j n s : Nat) (s2 : Sl), Sl.free s2 → ((s + j : Nat) : Int) = p → j < n → s + n ≤ 1000 →
    loopGo (tName 2) (sSeq (sIf (vP pNe [.ex (vCall "_law_digits" [.ex (vP pAdd [.nm 0, .nm 2])]), .ex (vCall "_law_digits" [.ex (vP pAdd [.nm 1, .nm 2])])])
        (sSeq (sRetV 2) <| sNext) (sNext)) <| sNext) C ((List.range' s n).map fun (k : Nat) => D.int k) [.val (.int a) false false, .val (.int b) false false, s2] =
      some (.rt [.val (.int a) false false, .val (.int b) false false, .val (.int p) false false] (.int p, false))
  | j, 0, s, s2, _, _, h, _ => absurd h (Nat.not_lt_zero _)
  | 0, n + 1, s, s2, h2, e, _, hn => by
    have e' : ((s : Nat) : Int) = p := by simpa using e
    have d1 := hC (a + p) (by omega) (by unfold W; omega)
    have d2 := hC (b + p) (by omega) (by unfold W; omega)
    rcases h2 with rfl | ⟨d, o, rfl⟩ <;> simp [loopGo, List.range'_succ, e', d1, d2, hp]
  | j + 1, n + 1, s, s2, h2, e, h, hn => by
    have d1 := hC (a + s) (by omega) (by unfold W; omega)
    have d2 := hC (b + s) (by omega) (by unfold W; omega)
    have es := hs s (by omega) (by omega)
    have ih := first_loop C hC a b p ha hb wa wb hs hp j n (s + 1) (.val (.int s) false false) (.inr ⟨_, _, rfl⟩) (by rw [← e]; congr 1; omega) (by omega) (by omega)
    rcases h2 with rfl | ⟨d, o, rfl⟩ <;> simp [loopGo, List.range'_succ, d1, d2, es] at ih ⊢ <;> exact ih
theorem r_first (C : CT) (hC : DigC C) (a b p : Int) (ha : 1 ≤ a) (hb : 1 ≤ b) (wa : a < 80) (wb : b < 80) (p0 : 0 ≤ p) (p1 : p ≤ max a b) (hs : ∀ x, 0 ≤ x → x < p → lg (a + x) = lg (b + x)) (hp : lg (a + p) ≠ lg (b + p)) :
    runDef C ⟨2, 3, b__law_first⟩ [(.int a, false), (.int b, false)] = some ((.int p, false), [(.int a, false), (.int b, false)]) := by
  have hl := first_loop C hC a b p ha hb wa wb hs hp p.toNat 140 0 .no (.inl rfl) (by omega) (by omega) (by omega)
  have hr := rng1 (n := 140) (by decide) (by decide)
  rw [show (140 : Int).toNat = 140 from rfl, List.range_eq_range'] at hr
  generalize ((List.range' 0 140).map fun (k : Nat) => D.int k) = xs at hl hr
  simp [b__law_first, hr] at hl ⊢
  rw [hl]
  simp [Out.back]
end VS.Law

namespace VS.Law
open PySem
variable {T : Tab} (H : TOk T)
theorem lesser_lc (C : CT) (s0 s3 s5 : Sl) (a b p : Int) : ∀ (xs : List Int) (acc : List Int), (∀ y ∈ acc, 0 ≤ y ∧ y < p) →
    ∃ ys : List Int, (∀ y ∈ ys, 0 ≤ y ∧ y < p) ∧ lcGo (tName 6) [6] [vChain pLe pLt (.ex (vLit (.int 0))) (.nm 6) (.nm 4)] (vVar 6) C (xs.map D.int) [s0, .val (.int a) false false, .val (.int b) false false, s3, .val (.int p) false false, s5, .no] (acc.map D.int) =
      some ([s0, .val (.int a) false false, .val (.int b) false false, s3, .val (.int p) false false, s5, .no], ys.map D.int)
  | [], acc, h => ⟨acc, h, by simp [lcGo]⟩
  | x :: xs, acc, h => by
    by_cases c1 : 0 ≤ x
    · by_cases c2 : x < p
      · obtain ⟨ys, k1, k2⟩ := lesser_lc C s0 s3 s5 a b p xs (acc ++ [x]) (fun y hy => by
          rcases List.mem_append.mp hy with hy | hy
          · exact h y hy
          · rw [List.mem_singleton.mp hy]; exact ⟨c1, c2⟩)
        refine ⟨ys, k1, ?_⟩
        simp [lcGo, vAll, c1, c2] at k2 ⊢
        exact k2
      · obtain ⟨ys, k1, k2⟩ := lesser_lc C s0 s3 s5 a b p xs acc h
        refine ⟨ys, k1, ?_⟩
        simp [lcGo, vAll, c1, c2] at k2 ⊢
        exact k2
    · obtain ⟨ys, k1, k2⟩ := lesser_lc C s0 s3 s5 a b p xs acc h
      refine ⟨ys, k1, ?_⟩
      simp [lcGo, vAll, c1] at k2 ⊢
      exact k2
theorem none_lc (C : CT) (hC : DigC C) (s0 s3 s4 s5 : Sl) (a b p : Int) (ha : 1 ≤ a) (hb : 1 ≤ b) (wp : a + p < W ∧ b + p < W) (hs : ∀ x, 0 ≤ x → x < p → lg (a + x) = lg (b + x)) : ∀ (xs : List Int), (∀ y ∈ xs, 0 ≤ y ∧ y < p) →
    lcGo (tName 6) [6] [vP pNe [.ex (vCall "_law_digits" [.ex (vP pAdd [.nm 1, .nm 6])]), .ex (vCall "_law_digits" [.ex (vP pAdd [.nm 2, .nm 6])])]] (vVar 6) C (xs.map D.int) [s0, .val (.int a) false false, .val (.int b) false false, s3, s4, s5, .no] [] =
      some ([s0, .val (.int a) false false, .val (.int b) false false, s3, s4, s5, .no], [])
  | [], h => by simp [lcGo]
  | x :: xs, h => by
    have hx := h x List.mem_cons_self
    have ih := none_lc C hC s0 s3 s4 s5 a b p ha hb wp hs xs fun y hy => h y (List.mem_cons_of_mem _ hy)
    have d1 := hC (a + x) (by omega) (by omega)
    have d2 := hC (b + x) (by omega) (by omega)
    have es := hs x hx.1 hx.2
    simp [lcGo, vAll, d1, d2, es] at ih ⊢
    exact ih
theorem prD_ok (a b : Int) (ha : Small a) (hb : Small b) : okD (prD a b) = true ∧ wtD (prD a b) ≤ 2000 ∧ dpD (prD a b) = 0 := by
  by_cases e : a = b
  · unfold prD; rw [if_pos e]; decide
  · obtain ⟨p, hp, p0, p1, _⟩ := part_spec ha.1 hb.1 e
    rw [hp]
    have h2 : p.natAbs < 2 ^ 140 := by
      have := ha.2
      have := hb.2
      omega
    have hl : p.natAbs.log2 < 1920 := by
      by_cases z : p.natAbs = 0
      · rw [z]; decide
      · have := (Nat.log2_lt z).mpr h2
        omega
    exact ⟨by simpa [okD] using hl, by simp only [wtD]; omega, rfl⟩
theorem small_W {w : Int} (h : Small w) : w < W := Int.lt_trans h.2 (by decide)
theorem eqD_nil : eqD (.lst []) (.lst []) = some true := by decide +kernel
theorem r_pair (C : CT) (hD : DigC C) (hP : PartC C) (hA : AlikeC C)
    (hF : ∀ a b p : Int, 1 ≤ a → 1 ≤ b → a < 80 → b < 80 → 0 ≤ p → p ≤ max a b → (∀ x, 0 ≤ x → x < p → lg (a + x) = lg (b + x)) → lg (a + p) ≠ lg (b + p) → C "_law_first" [(.int a, false), (.int b, false)] = some ((.int p, false), [(.int a, false), (.int b, false)]))
    (d : D) (a b : Int) (ha : Small a) (hb : Small b) : runDef C ⟨3, 7, b__law_pair_right⟩ [(d, true), (.int a, false), (.int b, false)] = some ((.bl true, false), [(d, true), (.int a, false), (.int b, false)]) := by
  have h1 := hP a b ha.1 hb.1 (small_W ha) (small_W hb)
  have h2 := hP b a hb.1 ha.1 (small_W hb) (small_W ha)
  rw [part_symm b a] at h2
  obtain ⟨o1, o2, o3⟩ := prD_ok a b ha hb
  have hal : C "_law_alike" [(.lst [prD a b, prD a b], true), (.lst [prD a b, prD a b], true)] = some ((.bl true, false), [(.lst [prD a b, prD a b], true), (.lst [prD a b, prD a b], true)]) :=
    hA _ true true (by simp [okD, okDs, o1]) (by simp [dpD, dpDs, o3]) (by simp [wtD, wtDs]; omega)
  have loop : ∃ s3, Sl.free s3 ∧ loopGo (tName 3) (sSeq (sIf (vNot (vCall "_law_alike" [.ex (vP pLst [.ex (vCall "parting_row" [.nm 1, .nm 2]), .ex (vCall "parting_row" [.nm 2, .nm 1])]), .ex (vP pMul [.ex (vP pLst [.ex (vCall "parting_row" [.nm 1, .nm 2])]), .ex (vLit (.int 2))])]))
        (sSeq (sRet (vLit (.bl false))) <| sNext) (sNext)) <| sNext) C ((List.range 2).map fun (k : Nat) => D.int k) [.val d true true, .val (.int a) false false, .val (.int b) false false, .no, .no, .no, .no] =
      some (.nx [.val d true true, .val (.int a) false false, .val (.int b) false false, s3, .no, .no, .no]) := by
    refine ⟨.val (.int 1) false false, .inr ⟨_, _, rfl⟩, ?_⟩
    generalize prD a b = q at h1 h2 hal
    simp [loopGo, List.range_succ, h1, h2, hal]
  obtain ⟨s3, f3, hl⟩ := loop
  have hr := rng1 (n := 2) (by decide) (by decide)
  rw [show (2 : Int).toNat = 2 from rfl] at hr
  generalize ((List.range 2).map fun (k : Nat) => D.int k) = xs at hl hr
  by_cases e : a = b
  · subst e
    have : prD a a = .non := by unfold prD; exact if_pos rfl
    rw [this] at h1
    simp [b__law_pair_right, hr] at hl ⊢
    rw [hl]
    simp [Out.back, h1]
  · obtain ⟨p, hp, p0, p1, p2, p3⟩ := part_spec ha.1 hb.1 e
    rw [hp] at h1
    have p0' : ¬ p < 0 := by omega
    have hm : (if a < b then b else a) = max a b := by rw [Int.max_def]; split <;> split <;> omega
    by_cases c : max a b < 80
    · have hf := hF a b p ha.1 hb.1 (by omega) (by omega) p0 p1 p2 p3
      simp [b__law_pair_right, hr] at hl ⊢
      rw [hl]
      simp [Out.back, h1, e, p0', hm, c, hf]
    · have pm : ¬ max a b < p := by omega
      obtain ⟨ys, y1, y2⟩ := lesser_lc C (.val d true true) s3 .no a b p [0, p - 1, p.fdiv 2, p.fdiv 3] [] (fun y hy => by simp at hy)
      have wp : a + p < W ∧ b + p < W := by
        have := ha.2
        have := hb.2
        show a + p < 2 ^ 200 ∧ b + p < 2 ^ 200
        omega
      have y3 := none_lc C hD (.val d true true) s3 (.val (.int p) false false) .lent a b p ha.1 hb.1 wp p2 ys y1
      have a1 := ha.1
      have b1 := hb.1
      have d1 := hD (a + p) (by omega) wp.1
      have d2 := hD (b + p) (by omega) wp.2
      simp at y2
      simp [b__law_pair_right, hr] at hl ⊢
      rw [hl]
      simp [Out.back, h1, e, p0', hm, c, pm, y2, y3, d1, d2, p3, pNe, eqD_nil, eqD_int]
end VS.Law

namespace VS.Law
open PySem
variable {T : Tab} (H : TOk T)
theorem np_spec {w : Int} (h : Small w) : ∃ k : Nat, lg w = k ∧ 2 ^ k ≤ w ∧ w < 2 ^ (k + 1) ∧ np w = 2 ^ (k + 1) ∧ np w ≤ 2 * w := by
  obtain ⟨k, e, h1, h2⟩ := lg_spec h.1
  have en : np w = 2 ^ (k + 1) := by unfold np; unfold lg at e; rw [show w.toNat.log2 = k by omega]
  have pp : (2 : Int) ^ (k + 1) = 2 * 2 ^ k := by rw [Int.pow_succ]; omega
  exact ⟨k, e, h1, h2, en, by omega⟩
def WorthC (C : CT) : Prop := ∀ b : Bag, ∃ (w : Int) (b' : Bag), (1 ≤ w ∧ w < 2 ^ 139) ∧ C "_law_worth_drawn" [(b.d, true)] = some ((.int w, false), [(b'.d, true)])
def PairC (C : CT) : Prop := ∀ (d : D) (a b : Int), Small a → Small b → C "_law_pair_right" [(d, true), (.int a, false), (.int b, false)] = some ((.bl true, false), [(d, true), (.int a, false), (.int b, false)])
def SpareC (C : CT) : Prop := ∀ a : Int, Small a → C "spare_for" [(.int a, false)] = some ((.int (np a - 1 - a), false), [(.int a, false)])
def LooksC (C : CT) : Prop := ∀ a : Int, Small a → C "looks_of" [(.int a, false)] = some ((.int (lg a), false), [(.int a, false)])
/-- the law's state between two turns -/
def Turn (s0 : Sl) (e : VE) : Prop := ∃ (b : Bag) (s2 s3 s4 s5 : Sl), Sl.free s2 ∧ Sl.free s3 ∧ Sl.free s4 ∧ Sl.free s5 ∧ e = [s0, .val b.d true false, s2, s3, s4, s5]
theorem free_set {s : Sl} (h : Sl.free s) {C : CT} {i : Nat} {r : R} {e : VE} (he : e[i]? = some s) : tName i C r e = some (e.set i (.val r.1 r.2 false)) := by
  rcases h with rfl | ⟨d, o, rfl⟩ <;> simp [he]
theorem free_val {d : D} {o : Bool} : Sl.free (.val d o false) := .inr ⟨d, o, rfl⟩
theorem turn_run (C : CT) (s0 : Sl) (hT : Draws C) (hW : WorthC C) (hP : PairC C) (hS : SpareC C) (hD : DigC C) (hL : LooksC C) (b : Bag) (s2 s3 s4 s5 : Sl) (f3 : Sl.free s3) (f4 : Sl.free s4) (f5 : Sl.free s5) :
    ∃ e2, l0_law C [s0, .val b.d true false, s2, s3, s4, s5] = some (.nx e2) ∧ ∃ (b' : Bag) (s3' s4' s5' : Sl), Sl.free s3' ∧ Sl.free s4' ∧ Sl.free s5' ∧ e2 = [s0, .val b'.d true false, s2, s3', s4', s5'] := by
  obtain ⟨w1, b1, k1', h1⟩ := hW b
  obtain ⟨w2, b2, k2', h2⟩ := hW b1
  have k1 : Small w1 := ⟨k1'.1, by omega⟩
  have k2 : Small w2 := ⟨k2'.1, by omega⟩
  obtain ⟨v, b3, p3, q3, h3⟩ := hT b2 4 (by decide) (by decide)
  have rest : ∀ (b : Bag) (w2 : Int), Small w2 → ∃ (s3' : Sl), Sl.free s3' ∧ (sSeq (sIf (vNot (vCall "_law_pair_right" [.nm 1, .nm 4, .nm 5]))
        (sSeq (sRet (vLit (.bl false))) <|
          sNext)
        (sNext)) <|
      sSeq (sAsg (tName 3) (vCall "spare_for" [.nm 4])) <|
      sSeq (sIf (vOr (vNot (vP (pIsa "int") [.nm 3])) (vOr (vP (pIsa "bool") [.nm 3]) (vP pLt [.nm 3, .ex (vLit (.int 0))])))
        (sSeq (sRet (vLit (.bl false))) <|
          sNext)
        (sNext)) <|
      sSeq (sIf (vOr (vP pNe [.ex (vCall "_law_digits" [.ex (vP pAdd [.nm 4, .nm 3])]), .ex (vCall "_law_digits" [.nm 4])]) (vP pEq [.ex (vCall "_law_digits" [.ex (vP pAdd [.ex (vP pAdd [.nm 4, .nm 3]), .ex (vLit (.int 1))])]), .ex (vCall "_law_digits" [.nm 4])]))
        (sSeq (sRet (vLit (.bl false))) <|
          sNext)
        (sNext)) <|
      sSeq (sIf (vP pNe [.ex (vCall "looks_of" [.nm 4]), .ex (vCall "_law_digits" [.nm 4])])
        (sSeq (sRet (vLit (.bl false))) <|
          sNext)
        (sNext)) <|
      sNext) C [s0, .val b.d true false, s2, s3, .val (.int w1) false false, .val (.int w2) false false] = some (.nx [s0, .val b.d true false, s2, s3', .val (.int w1) false false, .val (.int w2) false false]) := fun b w2 k2 => by
    obtain ⟨k, e, g1, g2, en, n2⟩ := np_spec k1
    have g := k1.1
    have gw := k1.2
    have hp := hP b.d w1 w2 k1 k2
    have hs := hS w1 k1
    have hl := hL w1 k1
    have d0 := hD w1 g (small_W k1)
    have d1 := hD (w1 + (np w1 - 1 - w1)) (by omega) (by show _ < 2 ^ 200; omega)
    have d2 := hD (w1 + (np w1 - 1 - w1) + 1) (by omega) (by show _ < 2 ^ 200; omega)
    have pp : (2 : Int) ^ (k + 1 + 1) = 2 * 2 ^ (k + 1) := by rw [Int.pow_succ]; omega
    have e1 : lg (w1 + (np w1 - 1 - w1)) = lg w1 := by rw [e]; exact lg_of (by omega) (by omega)
    have e2 : ¬ lg (w1 + (np w1 - 1 - w1) + 1) = lg w1 := by
      have : lg (w1 + (np w1 - 1 - w1) + 1) = ((k + 1 : Nat) : Int) := lg_of (by omega) (by omega)
      omega
    have nn : ¬ np w1 - 1 - w1 < 0 := by omega
    generalize np w1 - 1 - w1 = q at hs d1 d2 e1 e2 nn
    refine ⟨.val (.int q) false false, free_val, ?_⟩
    generalize lg (w1 + q) = x1 at d1 e1
    generalize lg (w1 + q + 1) = x2 at d2 e2
    generalize lg w1 = x0 at hl d0 e1 e2
    subst e1
    rcases f3 with rfl | ⟨d, o, rfl⟩ <;> simp [hp, hs, nn, d0, d1, d2, e2, hl]
  by_cases c : v = 0
  · obtain ⟨u, b4, p4, q4, h4⟩ := hT b3 3 (by decide) (by decide)
    have k5 : Small (if 1 < w1 + u - 1 then w1 + u - 1 else 1) := by
      obtain ⟨y1, y2⟩ := k1'
      unfold Small
      split <;> omega
    obtain ⟨s3', f3', hr⟩ := rest b4 _ k5
    refine ⟨_, ?_, b4, s3', .val (.int w1) false false, .val (.int (if 1 < w1 + u - 1 then w1 + u - 1 else 1)) false false, f3', free_val, free_val, rfl⟩
    subst c
    unfold l0_law
    rw [x_sSeq]
    rw [show sPar [tName 4, tName 5] [vCall "_law_worth_drawn" [.nm 1], vCall "_law_worth_drawn" [.nm 1]] C [s0, .val b.d true false, s2, s3, s4, s5] = some (.nx [s0, .val b2.d true false, s2, s3, .val (.int w1) false false, .val (.int w2) false false]) by
      rcases f4 with rfl | ⟨d, o, rfl⟩ <;> rcases f5 with rfl | ⟨d', o', rfl⟩ <;> simp [h1, h2]]
    dsimp only
    rw [x_sSeq]
    rw [show (sIf (vP pEq [.ex (vCall "_law_take" [.nm 1, .ex (vLit (.int 4))]), .ex (vLit (.int 0))])
        (sSeq (sAsg (tName 5) (vP pMax2 [.ex (vLit (.int 1)), .ex (vP pSub [.ex (vP pAdd [.nm 4, .ex (vCall "_law_take" [.nm 1, .ex (vLit (.int 3))])]), .ex (vLit (.int 1))])])) <|
          sNext)
        (sNext)) C [s0, .val b2.d true false, s2, s3, .val (.int w1) false false, .val (.int w2) false false] = some (.nx [s0, .val b4.d true false, s2, s3, .val (.int w1) false false, .val (.int (if 1 < w1 + u - 1 then w1 + u - 1 else 1)) false false]) by
      simp [h3, h4]]
    exact hr
  · obtain ⟨s3', f3', hr⟩ := rest b3 w2 k2
    refine ⟨_, ?_, b3, s3', .val (.int w1) false false, .val (.int w2) false false, f3', free_val, free_val, rfl⟩
    unfold l0_law
    rw [x_sSeq]
    rw [show sPar [tName 4, tName 5] [vCall "_law_worth_drawn" [.nm 1], vCall "_law_worth_drawn" [.nm 1]] C [s0, .val b.d true false, s2, s3, s4, s5] = some (.nx [s0, .val b2.d true false, s2, s3, .val (.int w1) false false, .val (.int w2) false false]) by
      rcases f4 with rfl | ⟨d, o, rfl⟩ <;> rcases f5 with rfl | ⟨d', o', rfl⟩ <;> simp [h1, h2]]
    dsimp only
    rw [x_sSeq]
    rw [show (sIf (vP pEq [.ex (vCall "_law_take" [.nm 1, .ex (vLit (.int 4))]), .ex (vLit (.int 0))])
        (sSeq (sAsg (tName 5) (vP pMax2 [.ex (vLit (.int 1)), .ex (vP pSub [.ex (vP pAdd [.nm 4, .ex (vCall "_law_take" [.nm 1, .ex (vLit (.int 3))])]), .ex (vLit (.int 1))])])) <|
          sNext)
        (sNext)) C [s0, .val b2.d true false, s2, s3, .val (.int w1) false false, .val (.int w2) false false] = some (.nx [s0, .val b3.d true false, s2, s3, .val (.int w1) false false, .val (.int w2) false false]) by
      simp [h3, c]]
    exact hr
theorem r_law (C : CT) (hB : ∀ ns : List Int, ns.length ≤ 63 → ∃ b : Bag, C "_law_bag" [(.wk (ns.map D.int), false)] = some ((b.d, true), [(.wk (ns.map D.int), false)])) (hT : Draws C) (hW : WorthC C) (hP : PairC C) (hS : SpareC C) (hD : DigC C) (hL : LooksC C)
    (ns : List Int) (h : ns.length ≤ 63) : runDef C ⟨1, 6, b_law⟩ [(.wk (ns.map D.int), false)] = some ((.bl true, false), [(.wk (ns.map D.int), false)]) := by
  obtain ⟨b, hb⟩ := hB ns h
  have hr := rng1 (n := 12) (by decide) (by decide)
  generalize ((List.range (12 : Int).toNat).map fun (k : Nat) => D.int k) = xs at hr
  obtain ⟨e', he, b', s2, s3, s4, s5, f2, f3, f4, f5, rfl⟩ := loop_all (C := C) (tg := tName 2) (body := l0_law) (Inv := Turn (.val (.wk (ns.map D.int)) false false)) xs [.val (.wk (ns.map D.int)) false false, .val b.d true false, .no, .no, .no, .no]
    (fun x _ e ⟨b, s2, s3, s4, s5, f2, f3, f4, f5, he⟩ => by
      subst he
      obtain ⟨e2, t1, b', s3', s4', s5', g3, g4, g5, t2⟩ := turn_run C (.val (.wk (ns.map D.int)) false false) hT hW hP hS hD hL b (.val x false false) s3 s4 s5 f3 f4 f5
      exact ⟨_, e2, by rw [free_set f2 rfl]; rfl, t1, b', _, s3', s4', s5', free_val, g3, g4, g5, t2⟩) ⟨b, .no, .no, .no, .no, .inl rfl, .inl rfl, .inl rfl, .inl rfl, rfl⟩
  simp [b_law, hb, hr, he, Out.back]
include H in
theorem law_true (k : Nat) (ns : List Int) (h : ns.length ≤ 63) : callF T (k + 1 + 1 + 1 + 1 + 1) "law" [(.wk (ns.map D.int), false)] = some ((.bl true, false), [(.wk (ns.map D.int), false)]) := by
  have dg : ∀ j, DigC (callF T (j + 1)) := fun j w h1 h2 => c_dig H j h1 h2
  rw [call_at H.f_law]
  refine r_law _ (fun ns h => ?_) (draws H _) (fun b => ?_) (fun d a b ha hb => ?_) (fun a ha => c_spare H _ ha.1 (small_W ha)) (dg _) (fun a ha => c_looks H _ ha.1) ns h
  · obtain ⟨b, hb⟩ := bag_ex (callF T (k + 1 + 1 + 1)) ns h
    exact ⟨b, by rw [call_at H.f__law_bag]; exact hb⟩
  · rw [call_at H.f__law_worth_drawn]
    exact r_worth _ (draws H _) b
  · rw [call_at H.f__law_pair_right]
    refine r_pair _ (dg _) (fun a b h1 h2 h3 h4 => c_part H _ h1 h2 h3 h4) (fun d o o' h1 h2 h3 => ?_) (fun a b p h1 h2 h3 h4 p0 p1 p2 p3 => ?_) d a b ha hb
    · obtain ⟨outs, e1, rfl⟩ := alike_run (callF T (k + 1 + 1)) h1 h2 h3 o o'
      rw [call_at H.f__law_alike]; exact e1
    · rw [call_at H.f__law_first]
      exact r_first _ (dg _) a b p h1 h2 h3 h4 p0 p1 p2 p3
end VS.Law

namespace VS.Law
open PySem PySem.Spec PyProof.Rows L2
theorem ow_looks_of : Own1 d_looks_of := ⟨⟨rfl, rfl, rfl, by decide +kernel, rfl, by decide +kernel, by decide +kernel⟩, fun _ _ _ _ _ _ us hl => match us, hl with | [_], _ => rfl⟩
theorem ow_next_power : Own1 d_next_power := ⟨⟨rfl, rfl, rfl, by decide +kernel, rfl, by decide +kernel, by decide +kernel⟩, fun _ _ _ _ _ _ us hl => match us, hl with | [_], _ => rfl⟩
theorem ow_parting_row : Own1 d_parting_row := ⟨⟨rfl, rfl, rfl, by decide +kernel, rfl, by decide +kernel, by decide +kernel⟩, fun _ _ _ _ _ _ us hl => match us, hl with | [_, _], _ => rfl⟩
theorem ow_spare_for : Own1 d_spare_for := ⟨⟨rfl, rfl, rfl, by decide +kernel, rfl, by decide +kernel, by decide +kernel⟩, fun _ _ _ _ _ _ us hl => match us, hl with | [_], _ => rfl⟩
theorem ow__law_bag : Own1 d__law_bag := ⟨⟨rfl, rfl, rfl, by decide +kernel, rfl, by decide +kernel, by decide +kernel⟩, fun _ _ _ _ _ _ us hl => match us, hl with | [_], _ => rfl⟩
theorem ow__law_take : Own1 d__law_take := ⟨⟨rfl, rfl, rfl, by decide +kernel, rfl, by decide +kernel, by decide +kernel⟩, fun _ _ _ _ _ _ us hl => match us, hl with | [_, _], _ => rfl⟩
theorem ow__law_alike : Own1 d__law_alike := ⟨⟨rfl, rfl, rfl, by decide +kernel, rfl, by decide +kernel, by decide +kernel⟩, fun _ _ _ _ _ _ us hl => match us, hl with | [_, _], _ => rfl⟩
theorem ow__law_digits : Own1 d__law_digits := ⟨⟨rfl, rfl, rfl, by decide +kernel, rfl, by decide +kernel, by decide +kernel⟩, fun _ _ _ _ _ _ us hl => match us, hl with | [_], _ => rfl⟩
theorem ow__law_worth_drawn : Own1 d__law_worth_drawn := ⟨⟨rfl, rfl, rfl, by decide +kernel, rfl, by decide +kernel, by decide +kernel⟩, fun _ _ _ _ _ _ us hl => match us, hl with | [_], _ => rfl⟩
theorem ow__law_first : Own1 d__law_first := ⟨⟨rfl, rfl, rfl, by decide +kernel, rfl, by decide +kernel, by decide +kernel⟩, fun _ _ _ _ _ _ us hl => match us, hl with | [_, _], _ => rfl⟩
theorem ow__law_pair_right : Own1 d__law_pair_right := ⟨⟨rfl, rfl, rfl, by decide +kernel, rfl, by decide +kernel, by decide +kernel⟩, fun _ _ _ _ _ _ us hl => match us, hl with | [_, _, _], _ => rfl⟩
theorem ow_law : Own1 d_law := ⟨⟨rfl, rfl, rfl, by decide +kernel, rfl, by decide +kernel, by decide +kernel⟩, fun _ _ _ _ _ _ us hl => match us, hl with | [_], _ => rfl⟩
theorem ow_all : ∀ d ∈ tab, Own1 d := by
  intro d hd
  rcases List.mem_cons.mp hd with rfl | hd
  · exact ow_looks_of
  rcases List.mem_cons.mp hd with rfl | hd
  · exact ow_next_power
  rcases List.mem_cons.mp hd with rfl | hd
  · exact ow_parting_row
  rcases List.mem_cons.mp hd with rfl | hd
  · exact ow_spare_for
  rcases List.mem_cons.mp hd with rfl | hd
  · exact ow__law_bag
  rcases List.mem_cons.mp hd with rfl | hd
  · exact ow__law_take
  rcases List.mem_cons.mp hd with rfl | hd
  · exact ow__law_alike
  rcases List.mem_cons.mp hd with rfl | hd
  · exact ow__law_digits
  rcases List.mem_cons.mp hd with rfl | hd
  · exact ow__law_worth_drawn
  rcases List.mem_cons.mp hd with rfl | hd
  · exact ow__law_first
  rcases List.mem_cons.mp hd with rfl | hd
  · exact ow__law_pair_right
  rcases List.mem_cons.mp hd with rfl | hd
  · exact ow_law
  exact (nomatch hd)
theorem names_nd : (tab.map (·.name)).Nodup := by decide +kernel
theorem law_in : d_law ∈ tab := by unfold tab; simp
end VS.Law
open PySem PySem.W PyProof.Rows in
set_option maxRecDepth 100000 in
set_option maxHeartbeats 0 in
theorem PySem.Challenge.cw_branchlooks_k44_rows_that_part_holds : PySem.Challenge.rw_branchlooks_k44_rows_that_part.Holds := by
  w_on; o_law; k_head; (case hw => w_witness2)
  k_fill
  refine VS.walkV (l := PySem.Challenge.rw_branchlooks_k44_rows_that_part) (k := 190 + 6) (n := 190 + 5) (T := VS.tabOf VS.Law.tab VS.Law.bs) (x := "_law_script") (f := "law") rfl rfl ⟨rfl, by decide, by decide⟩ (fun w h Y => PySem.W.kIn_of Y) ?F (fun ns h => ⟨_, _, VS.Law.law_true VS.Law.tok 190 ns h⟩)
  case F =>
    intro w mg fa h KX G hmg
    refine' VS.fin (l := PySem.Challenge.rw_branchlooks_k44_rows_that_part) (dl := VS.Law.d_law) KX G hmg VS.Law.names_nd VS.Law.law_in rfl VS.Law.ow_all ?A ?B (190 + 5)
    case A =>
      refine' VS.all_cons (x := "looks_of") (st := VS.Law.topS 1) (VS.at_mk ?a1 ?l1 ?c1 ?k1) ?R1
      (case a1 => k_is)
      (case l1 => k_is)
      (case c1 => k_is)
      (case k1 => k_is)
      refine' VS.all_cons (x := "next_power") (st := VS.Law.topS 3) (VS.at_mk ?a3 ?l3 ?c3 ?k3) ?R3
      (case a3 => k_is)
      (case l3 => k_is)
      (case c3 => k_is)
      (case k3 => k_is)
      refine' VS.all_cons (x := "parting_row") (st := VS.Law.topS 4) (VS.at_mk ?a4 ?l4 ?c4 ?k4) ?R4
      (case a4 => k_is)
      (case l4 => k_is)
      (case c4 => k_is)
      (case k4 => k_is)
      refine' VS.all_cons (x := "spare_for") (st := VS.Law.topS 5) (VS.at_mk ?a5 ?l5 ?c5 ?k5) ?R5
      (case a5 => k_is)
      (case l5 => k_is)
      (case c5 => k_is)
      (case k5 => k_is)
      refine' VS.all_cons (x := "_law_bag") (st := VS.Law.topS 7) (VS.at_mk ?a7 ?l7 ?c7 ?k7) ?R7
      (case a7 => k_is)
      (case l7 => k_is)
      (case c7 => k_is)
      (case k7 => k_is)
      refine' VS.all_cons (x := "_law_take") (st := VS.Law.topS 8) (VS.at_mk ?a8 ?l8 ?c8 ?k8) ?R8
      (case a8 => k_is)
      (case l8 => k_is)
      (case c8 => k_is)
      (case k8 => k_is)
      refine' VS.all_cons (x := "_law_alike") (st := VS.Law.topS 9) (VS.at_mk ?a9 ?l9 ?c9 ?k9) ?R9
      (case a9 => k_is)
      (case l9 => k_is)
      (case c9 => k_is)
      (case k9 => k_is)
      refine' VS.all_cons (x := "_law_digits") (st := VS.Law.topS 10) (VS.at_mk ?a10 ?l10 ?c10 ?k10) ?R10
      (case a10 => k_is)
      (case l10 => k_is)
      (case c10 => k_is)
      (case k10 => k_is)
      refine' VS.all_cons (x := "_law_worth_drawn") (st := VS.Law.topS 11) (VS.at_mk ?a11 ?l11 ?c11 ?k11) ?R11
      (case a11 => k_is)
      (case l11 => k_is)
      (case c11 => k_is)
      (case k11 => k_is)
      refine' VS.all_cons (x := "_law_first") (st := VS.Law.topS 12) (VS.at_mk ?a12 ?l12 ?c12 ?k12) ?R12
      (case a12 => k_is)
      (case l12 => k_is)
      (case c12 => k_is)
      (case k12 => k_is)
      refine' VS.all_cons (x := "_law_pair_right") (st := VS.Law.topS 13) (VS.at_mk ?a13 ?l13 ?c13 ?k13) ?R13
      (case a13 => k_is)
      (case l13 => k_is)
      (case c13 => k_is)
      (case k13 => k_is)
      refine' VS.all_cons (x := "law") (st := VS.Law.topS 14) (VS.at_mk ?a14 ?l14 ?c14 ?k14) ?R14
      (case a14 => k_is)
      (case l14 => k_is)
      (case c14 => k_is)
      (case k14 => k_is)
      exact VS.all_nil
    case B =>
      refine' VS.no_cons (x := "abs") ?n0 ?M0
      (case n0 => k_is)
      refine' VS.no_cons (x := "bool") ?n1 ?M1
      (case n1 => k_is)
      refine' VS.no_cons (x := "int") ?n2 ?M2
      (case n2 => k_is)
      refine' VS.no_cons (x := "isinstance") ?n3 ?M3
      (case n3 => k_is)
      refine' VS.no_cons (x := "max") ?n4 ?M4
      (case n4 => k_is)
      refine' VS.no_cons (x := "range") ?n5 ?M5
      (case n5 => k_is)
      refine' VS.no_cons (x := "repr") ?n6 ?M6
      (case n6 => k_is)
      exact VS.no_nil
