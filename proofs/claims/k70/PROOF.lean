import PyProof.Rows.All
import Wide.All
import OpenK.AllK
import Wide.FinOn
import HandS.ForMost
import HandS.Exc
import HandS.TryOnly
import HandS.Flow
import HandS.Wide
import HandS.Deep
import HandS.TupAny
import HandS.Conv
import HandS.Strs
import HandS.SetFor
import HandS.Style
import PyProof.ReprRoads
import KE.DataEq
import KE.DataCmp
import KE.DataAny
import KE.DataMinMax
import KE.SortData
import KE.DatumOrd
import KE.DatumMore
import HandS.Ends
import PyProof.ReprLen
import PySem.Challenge.RW_mailwright_k70_digests_judged
set_option Elab.async false
set_option linter.all false
set_option maxRecDepth 100000
set_option autoImplicit false
/-! # Ev: a small evaluator of Python texts over plain data -/
namespace Ev
open PySem L2

abbrev D := PyData
/-- what a slot of a frame holds -/
inductive Val where
  | d (x : D)
  | own (xs : List D)
  | st (i : Int) (cs : List Int)
  | dk (kvs : List (Key × D))
  | scr (ns : List Int)
/-- what an expression hands back: a value of its own, or a slot's -/
inductive Rv where
  | v (w : Val)
  | ali (i : Nat)
inductive BOp where
  | add | sub | mul | fdiv | md | pow
inductive COp where
  | lt | le | gt | ge | eq | ne | mem | nmem | isN | notN
inductive Tg where
  | nm (i : Nat)
  | tup (ts : List Tg)
inductive Bi where
  | len | abs | int | min1 | max1 | min2 | max2 | sum | sorted | list | tuple | any | all | repr
mutual
inductive ME where
  | var (i : Nat)
  | con (c : D)
  | glb (j : Nat)
  | bin (op : BOp) (a b : ME)
  | neg (a : ME)
  | cmp (op : COp) (a b : ME)
  | chain (op op' : COp) (a b c : ME)
  | andE (a b : ME)
  | orE (a b : ME)
  | notE (a : ME)
  | ite (c a b : ME)
  | tup (es : List ME)
  | lst (es : List ME)
  | idx (a b : ME)
  | sli (a lo hi : ME)
  | call (f : Nat) (es : List ME)
  | bi (b : Bi) (es : List ME)
  | lc (elt : ME) (tg : Tg) (it : MI) (cond : ME) (own : List Nat)
  | lrg1 (a : ME)
  | lrg2 (a b : ME)
  | sset (a : ME)
  | lset (a : ME)
  | rev (a : ME)
inductive MI where
  | seq (e : ME)
  | rng (es : List ME)
  | enum (a : ME)
  | zip (a b : ME)
end
inductive MS where
  | asg (tg : Tg) (e : ME)
  | par (is : List Nat) (es : List ME)
  | seti (i : Nat) (k v : ME)
  | app (i : Nat) (e : ME)
  | ext (i : Nat) (e : ME)
  | ifs (c : ME) (a b : List MS)
  | whl (c : ME) (b : List MS)
  | for_ (tg : Tg) (it : MI) (b : List MS)
  | ret (e : ME)
  | ex (e : ME)
  | retN
  | brk
  | cnt
  | pass

def isNoneC : ME → Bool
  | .con .none => true
  | _ => false
abbrev Env := List (Option Val)
def rd (env : Env) (i : Nat) : Option Val := (env[i]?).getD none
def valD : Val → Option D
  | .d x => some x
  | .own xs => some (.list xs)
  | _ => none
def cur (env : Env) : Rv → Option D
  | .v w => valD w
  | .ali i => (rd env i).bind valD
/-- a value that stays as it is from now on -/
def fz (env : Env) : Rv → Option (D × Env)
  | .v w => (valD w).map fun x => (x, env)
  | .ali i => ((rd env i).bind valD).map fun x => (x, env.set i (some (.d x)))
def okD (x : D) : Bool := x.plain && decide (x.depth ≤ 60)
def isNon : D → Bool
  | .none => true
  | _ => false
def binD : BOp → D → D → Option Val
  | .add, .int i, .int j => some (.d (.int (i + j)))
  | .add, .str x, .str y => if x.length + y.length ≤ sizeLine then some (.d (.str (x ++ y))) else none
  | .add, .list xs, .list ys => if xs.length + ys.length ≤ sizeLine then some (.own (xs ++ ys)) else none
  | .add, .tuple xs, .tuple ys => if xs.length + ys.length ≤ sizeLine then some (.d (.tuple (xs ++ ys))) else none
  | .sub, .int i, .int j => some (.d (.int (i - j)))
  | .mul, .int i, .int j => if i.natAbs.log2 + j.natAbs.log2 < 1000000 then some (.d (.int (i * j))) else none
  | .fdiv, .int i, .int j => if 0 < j ∧ j.natAbs.log2 < 9000 then some (.d (.int (i / j))) else none
  | .md, .int i, .int j => if 0 < j then some (.d (.int (i % j))) else none
  | .pow, .int i, .int j => if 0 ≤ j ∧ j ≤ 1000000 ∧ i.natAbs < 2 ^ 64 then some (.d (.int (i ^ j.toNat))) else none
  | _, _, _ => none
def cmpOk (x y : D) : Bool := W.alike x y && !isNon x && decide (x.depth ≤ 60)
def memD (x : D) : D → Option Bool
  | .list ys => if okD x && okD (.list ys) then some (ys.any fun z => z.eqv x) else none
  | .tuple ys => if okD x && okD (.tuple ys) then some (ys.any fun z => z.eqv x) else none
  | .str y => match x with
    | .str z => some (!(Builtin.Str.occurrences y z 0 y.length 1).isEmpty)
    | _ => none
  | _ => none
def cmpD : COp → D → D → Option Bool
  | .lt, .int i, .int j => some (decide (i < j))
  | .le, .int i, .int j => some (decide (i ≤ j))
  | .gt, .int i, .int j => some (decide (j < i))
  | .ge, .int i, .int j => some (decide (j ≤ i))
  | .lt, x, y => if cmpOk x y then some (W.dataLt x y) else none
  | .le, x, y => if cmpOk x y then some (!W.dataLt y x) else none
  | .gt, x, y => if cmpOk x y then some (W.dataLt y x) else none
  | .ge, x, y => if cmpOk x y then some (!W.dataLt x y) else none
  | .eq, x, y => if okD x && okD y then some (x.eqv y) else none
  | .ne, x, y => if okD x && okD y then some (!x.eqv y) else none
  | .mem, x, y => memD x y
  | .nmem, x, y => (memD x y).map not
  | .isN, x, .none => some (isNon x)
  | .notN, x, .none => some (!isNon x)
  | _, _, _ => none
def truD : D → Option Bool
  | .none => some false
  | .bool b => some b
  | .int i => some (i != 0)
  | .str x => if x.length ≤ sizeLine then some ((x.length : Int) != 0) else none
  | .list xs => some (!xs.isEmpty)
  | .tuple xs => some (!xs.isEmpty)
  | .dict _ => none
def truR (env : Env) (r : Rv) : Option Bool := (cur env r).bind truD
def idxD : D → D → Option D
  | .list xs, .int i => atI xs i
  | .tuple xs, .int i => atI xs i
  | .str z, .int i => if z.length ≤ sizeLine then (atI z.cps.toList i).map fun c => .str ⟨#[c]⟩ else none
  | _, _ => none
def cut {α : Type} (xs : List α) (lo hi : Option Int) : List α := (xs.drop (HT.sIx xs.length 0 lo)).take (HT.sIx xs.length xs.length hi - HT.sIx xs.length 0 lo)
def part (b : Bool) (x : D) : Option (Option Int) := if b then some none else match x with
  | .int i => some (some i)
  | _ => none
def sliD (x : D) (lo hi : Option Int) : Option Val := match x with
  | .list xs => some (.own (cut xs lo hi))
  | .tuple xs => some (.d (.tuple (cut xs lo hi)))
  | _ => none
def intsOf : List D → Option (List Int)
  | [] => some []
  | .int i :: r => (intsOf r).map (i :: ·)
  | _ => none
def boolsOf : List D → Option (List Bool)
  | [] => some []
  | .bool i :: r => (boolsOf r).map (i :: ·)
  | _ => none
def alikeB (xs : List D) : Bool := xs.all fun x => (xs.all fun y => W.alike x y) && okD x
def isTup1 : D → Bool
  | .tuple (_ :: _) => true
  | _ => false
def isOther : D → Bool
  | .none => false
  | .tuple _ => false
  | _ => true
def sortB (xs : List D) : Bool := alikeB xs && (xs.all isTup1 || xs.all isOther)
def minB (xs : List D) : Bool := alikeB xs && xs.all fun x => !isNon x
def biLen : List D → Option Val
  | [.list xs] => some (.d (.int xs.length))
  | [.tuple xs] => some (.d (.int xs.length))
  | [.str x] => if x.length ≤ sizeLine then some (.d (.int x.length)) else none
  | _ => none
def biAbs : List D → Option Val
  | [.int i] => some (.d (.int (if i < 0 then -i else i)))
  | _ => none
def biInt : List D → Option Val
  | [.int i] => some (.d (.int i))
  | [.bool b] => some (.d (.int (if b then 1 else 0)))
  | _ => none
def biMin1 : List D → Option Val
  | [.list (x :: xs)] => if minB (x :: xs) then some (.d (W.minD x xs)) else none
  | _ => none
def biMax1 : List D → Option Val
  | [.list (x :: xs)] => if minB (x :: xs) then some (.d (W.maxD x xs)) else none
  | _ => none
def biMin2 : List D → Option Val
  | [.int i, .int j] => some (.d (.int (if j < i then j else i)))
  | _ => none
def biMax2 : List D → Option Val
  | [.int i, .int j] => some (.d (.int (if i < j then j else i)))
  | _ => none
def biSum : List D → Option Val
  | [.list xs] => (intsOf xs).map fun ns => .d (.int ns.sum)
  | _ => none
def biSorted : List D → Option Val
  | [.list xs] => if sortB xs then some (.own (xs.mergeSort (W.dataLe false id))) else none
  | _ => none
def biList : List D → Option Val
  | [.list xs] => some (.own xs)
  | [.tuple xs] => some (.own xs)
  | _ => none
def biTuple : List D → Option Val
  | [.list xs] => some (.d (.tuple xs))
  | [.tuple xs] => some (.d (.tuple xs))
  | _ => none
def biAny : List D → Option Val
  | [.list xs] => (boolsOf xs).map fun bs => .d (.bool (bs.any id))
  | _ => none
def biAll : List D → Option Val
  | [.list xs] => (boolsOf xs).map fun bs => .d (.bool (bs.all id))
  | _ => none
/-- a text that can be shown -/
def shB (x : D) : Bool := x.showable && !x.hasDict && decide (x.depth ≤ 60) && decide (x.shown.length ≤ sizeLine)
def biRepr : List D → Option Val
  | [.list xs] => if shB (.list xs) then some (.d (.str (PyData.list xs).shown)) else none
  | [.tuple xs] => if shB (.tuple xs) then some (.d (.str (PyData.tuple xs).shown)) else none
  | _ => none
/-- the ints of a list, rising, each once -/
def insI (x : Int) : List Int → List Int
  | [] => [x]
  | y :: r => if x < y then x :: y :: r else if x = y then y :: r else y :: insI x r
def setI (ns : List Int) : List Int := ns.foldr insI []
def ssetD : D → Option Val
  | .list xs => (intsOf xs).bind fun ns => if ns.length < 1000 ∧ (setI ns).length < 64 then some (.own ((setI ns).map PyData.int)) else none
  | _ => none
def lsetD : D → Option Val
  | .list xs => (intsOf xs).bind fun ns => if ns.length < 1000 then some (.d (.int ((setI ns).length : Nat))) else none
  | _ => none
def revD : D → Option Val
  | .list xs => some (.own xs.reverse)
  | _ => none
def biD : Bi → List D → Option Val
  | .len => biLen
  | .abs => biAbs
  | .int => biInt
  | .min1 => biMin1
  | .max1 => biMax1
  | .min2 => biMin2
  | .max2 => biMax2
  | .sum => biSum
  | .sorted => biSorted
  | .list => biList
  | .tuple => biTuple
  | .any => biAny
  | .all => biAll
  | .repr => biRepr
/-! a target is given a value; L: slots that may not change -/
mutual
def slotsT : Tg → List Nat
  | .nm i => [i]
  | .tup ts => slotsTs ts
def slotsTs : List Tg → List Nat
  | [] => []
  | t :: ts => slotsT t ++ slotsTs ts
end
mutual
def bindT (L : List Nat) : Tg → D → Env → Option Env
  | .nm i, x, env => if i ∈ L ∨ env.length ≤ i then none else some (env.set i (some (.d x)))
  | .tup ts, x, env => match x with
    | .tuple xs => bindTs L ts xs env
    | _ => none
def bindTs (L : List Nat) : List Tg → List D → Env → Option Env
  | [], [], env => some env
  | t :: ts, x :: xs, env => (bindT L t x env).bind fun e => bindTs L ts xs e
  | _, _, _ => none
end
/-- what a call does: the result, the arguments' values behind -/
abbrev Calls := Nat → List Val → Option (Val × List Val)
structure Ctx where
  C : Calls
  io : Nat → List Nat
  G : List D
structure Src where
  items : List D
  lk : List Nat
  g : Option (Nat × List D)
def gOk : Option (Nat × List D) → Env → Prop
  | none, _ => True
  | some (j, ys), env => rd env j = some (.own ys) ∨ rd env j = some (.d (.list ys))
def itemsD : D → Option (List D)
  | .list xs => some xs
  | .tuple xs => some xs
  | .str z => if z.length ≤ sizeLine then some (z.cps.toList.map fun c => .str ⟨#[c]⟩) else none
  | _ => none
def srcL (env : Env) : Rv → Option Src
  | .v w => match valD w with
    | some (.list xs) => some ⟨xs, [], none⟩
    | _ => none
  | .ali j => match rd env j with
    | some (.own ys) => some ⟨ys, [j], some (j, ys)⟩
    | _ => none
def srcOf (env : Env) : Rv → Option Src
  | .v w => ((valD w).bind itemsD).map fun xs => ⟨xs, [], none⟩
  | .ali j => match rd env j with
    | some (.own ys) => some ⟨ys, [j], some (j, ys)⟩
    | _ => none
def rngOf (i j : Int) : List D := (List.range (j - i).toNat).map fun k => .int (i + (k : Nat))
def rngDn (i j : Int) : List D := (List.range (i - j).toNat).map fun k => .int (i + (k : Nat) * (-1))
def rngOk (i j : Int) : Bool := decide (-(2 ^ 62) ≤ i ∧ i < 2 ^ 62 ∧ -(2 ^ 62) ≤ j ∧ j < 2 ^ 62 ∧ j - i ≤ 16777216 ∧ i - j ≤ 16777216)
def enumOf (k : Nat) : List D → List D
  | [] => []
  | x :: xs => .tuple [.int k, x] :: enumOf (k + 1) xs
def zipOf : List D → List D → List D
  | x :: xs, y :: ys => .tuple [x, y] :: zipOf xs ys
  | _, _ => []
def rngSrc : List D → Option Src
  | [.int n] => if rngOk 0 n then some ⟨rngOf 0 n, [], none⟩ else none
  | [.int i, .int n] => if rngOk i n then some ⟨rngOf i n, [], none⟩ else none
  | [.int i, .int n, .int c] => if rngOk i n ∧ c = -1 then some ⟨rngDn i n, [], none⟩ else none
  | _ => none
def curs (env : Env) : List Rv → Option (List D)
  | [] => some []
  | r :: rs => (cur env r).bind fun x => (curs env rs).map (x :: ·)
/-- the places of names that are handed in as they stand -/
def alis : List Rv → List Nat
  | [] => []
  | .ali i :: r => i :: alis r
  | _ :: r => alis r
def nonIo (env : Env) (r : Rv) : Option Val := match r with
  | .v w => (valD w).map Val.d
  | .ali i => match rd env i with
    | some (.scr ns) => some (.scr ns)
    | _ => (cur env r).map Val.d
/-- the arguments of a call: p the place, ios the places that the def changes -/
def argVals (env : Env) (ios : List Nat) : Nat → List Rv → Option (List Val)
  | _, [] => some []
  | p, r :: rs => (if p ∈ ios then (match r with
      | .ali i => (rd env i).bind fun w => match w with
        | .d _ => none
        | .scr _ => none
        | w => some w
      | _ => none) else nonIo env r).bind fun w => (argVals env ios (p + 1) rs).map (w :: ·)
/-- behind a call: the names that were changed; the others that were handed in are frozen if keep is false -/
def backArgs (ios : List Nat) (keep : Bool) : Nat → List Rv → List Val → Env → Env
  | p, .ali i :: rs, w :: ws, env => backArgs ios keep (p + 1) rs ws (if p ∈ ios then env.set i (some w) else if keep then env else env.set i (some w))
  | p, .v _ :: rs, _ :: ws, env => backArgs ios keep (p + 1) rs ws env
  | _, _, _, env => env
mutual
def noList : D → Bool
  | .list _ => false
  | .dict _ => false
  | .tuple xs => noListL xs
  | _ => true
def noListL : List D → Bool
  | [] => true
  | x :: xs => noList x && noListL xs
end
def flatV : Val → Bool
  | .d x => noList x
  | .own xs => noListL xs
  | .st _ _ => true
  | .scr _ => true
  | .dk _ => false
def flatAll (ios : List Nat) : Nat → List Val → Bool
  | _, [] => true
  | p, w :: ws => (if p ∈ ios then flatV w else true) && flatAll ios (p + 1) ws
def doCall (Γ : Ctx) (f : Nat) (rs : List Rv) (env : Env) : Option (Rv × Env) :=
  if (alis rs).Nodup then
    (argVals env (Γ.io f) 0 rs).bind fun ws => (Γ.C f ws).map fun (v, ws') =>
      (.v v, backArgs (Γ.io f) (flatV v && flatAll (Γ.io f) 0 ws') 0 rs ws' env)
  else none
def wipeE (env : Env) : List Nat → Env
  | [] => env
  | i :: r => (wipeE env r).set i none
/-- behind a comprehension: its own names are what they were -/
def backOwn (env0 env : Env) : List Nat → Env
  | [] => env
  | i :: r => (backOwn env0 env r).set i (match rd env0 i with
    | some (.d x) => some (.d x)
    | _ => none)
open Classical in
noncomputable def lcD (elt cond : Env → Option (D × Env)) (bnd : D → Env → Option Env) (own : List Nat) (g : Option (Nat × List D)) : List D → Env → Option (List D × Env)
  | [], env => if gOk g env then some ([], env) else none
  | x :: xs, env => if gOk g env then (bnd x env).bind fun e1 => (cond e1).bind fun (c, e2) => (truD c).bind fun b =>
      if b then (elt e2).bind fun (y, e3) => (lcD elt cond bnd own g xs (wipeE e3 own)).map fun (ys, e4) => (y :: ys, e4)
      else lcD elt cond bnd own g xs (wipeE e2 own)
    else none
mutual
noncomputable def ev (Γ : Ctx) : ME → Env → Option (Rv × Env)
  | .var i, env => match rd env i with
    | some (.d x) => some (.v (.d x), env)
    | some _ => some (.ali i, env)
    | none => none
  | .con c, env => some (.v (.d c), env)
  | .glb j, env => (Γ.G[j]?).map fun x => (.v (.d x), env)
  | .bin op a b, env => (ev Γ a env).bind fun (ra, e1) => (ev Γ b e1).bind fun (rb, e2) => (cur e2 ra).bind fun x => (cur e2 rb).bind fun y => (binD op x y).map fun r => (.v r, e2)
  | .neg a, env => (ev Γ a env).bind fun (ra, e1) => (cur e1 ra).bind fun x => match x with
    | .int i => some (.v (.d (.int (-i))), e1)
    | _ => none
  | .cmp op a b, env => (ev Γ a env).bind fun (ra, e1) => (ev Γ b e1).bind fun (rb, e2) => (cur e2 ra).bind fun x => (cur e2 rb).bind fun y => (cmpD op x y).map fun c => (.v (.d (.bool c)), e2)
  | .chain op op' a b c, env => (ev Γ a env).bind fun (ra, e1) => (ev Γ b e1).bind fun (rb, e2) => (cur e2 ra).bind fun x => (cur e2 rb).bind fun y => (cmpD op x y).bind fun k =>
      if k then (ev Γ c e2).bind fun (rc, e3) => (cur e3 rb).bind fun y' => (cur e3 rc).bind fun z => (cmpD op' y' z).map fun k' => (.v (.d (.bool k')), e3)
      else some (.v (.d (.bool false)), e2)
  | .andE a b, env => (ev Γ a env).bind fun (ra, e1) => (truR e1 ra).bind fun k => if k then ev Γ b e1 else some (ra, e1)
  | .orE a b, env => (ev Γ a env).bind fun (ra, e1) => (truR e1 ra).bind fun k => if k then some (ra, e1) else ev Γ b e1
  | .notE a, env => (ev Γ a env).bind fun (ra, e1) => (truR e1 ra).map fun k => (.v (.d (.bool (!k))), e1)
  | .ite c a b, env => (ev Γ c env).bind fun (rc, e1) => (truR e1 rc).bind fun k => if k then ev Γ a e1 else ev Γ b e1
  | .tup es, env => (evF Γ es env).map fun (xs, e1) => (.v (.d (.tuple xs)), e1)
  | .lst es, env => (evF Γ es env).map fun (xs, e1) => (.v (.own xs), e1)
  | .idx a b, env => (ev Γ a env).bind fun (ra, e1) => (ev Γ b e1).bind fun (rb, e2) => (cur e2 ra).bind fun x => (cur e2 rb).bind fun y => (idxD x y).map fun z => (.v (.d z), e2)
  | .sli a lo hi, env => (ev Γ a env).bind fun (ra, e1) => (ev Γ lo e1).bind fun (rl, e2) => (ev Γ hi e2).bind fun (rh, e3) => (cur e3 ra).bind fun x =>
      (cur e2 rl).bind fun l => (part (isNoneC lo) l).bind fun l' => (cur e3 rh).bind fun h => (part (isNoneC hi) h).bind fun h' => (sliD x l' h').map fun r => (.v r, e3)
  | .call f es, env => (evL Γ es env).bind fun (rs, e1) => doCall Γ f rs e1
  | .bi b es, env => (evL Γ es env).bind fun (rs, e1) => (curs e1 rs).bind fun xs => (biD b xs).map fun r => (.v r, e1)
  | .lc elt tg it cond own, env => (evI Γ it env).bind fun (s, e1) => if s.lk.all (fun j => decide (j ∉ own)) then
      (lcD (fun e => (ev Γ elt e).bind fun (r, e') => fz e' r) (fun e => (ev Γ cond e).bind fun (r, e') => (cur e' r).map fun x => (x, e')) (bindT s.lk tg) own s.g s.items (wipeE e1 own)).map fun (ys, e2) => (.v (.own ys), backOwn e1 e2 own)
    else none
  | .lrg1 a, env => (ev Γ a env).bind fun (ra, e1) => (cur e1 ra).bind fun x => match x with
    | .int n => if rngOk 0 n then some (.v (.own (rngOf 0 n)), e1) else none
    | _ => none
  | .lrg2 a b, env => (ev Γ a env).bind fun (ra, e1) => (ev Γ b e1).bind fun (rb, e2) => (cur e2 ra).bind fun x => (cur e2 rb).bind fun y => match x, y with
    | .int i, .int n => if rngOk i n then some (.v (.own (rngOf i n)), e2) else none
    | _, _ => none
  | .sset a, env => (ev Γ a env).bind fun (ra, e1) => (cur e1 ra).bind fun x => (ssetD x).map fun r => (.v r, e1)
  | .lset a, env => (ev Γ a env).bind fun (ra, e1) => (cur e1 ra).bind fun x => (lsetD x).map fun r => (.v r, e1)
  | .rev a, env => (ev Γ a env).bind fun (ra, e1) => (cur e1 ra).bind fun x => (revD x).map fun r => (.v r, e1)
noncomputable def evI (Γ : Ctx) : MI → Env → Option (Src × Env)
  | .seq e, env => (ev Γ e env).bind fun (ra, e1) => (srcOf e1 ra).map fun s => (s, e1)
  | .rng es, env => (evL Γ es env).bind fun (rs, e1) => (curs e1 rs).bind fun xs => (rngSrc xs).map fun s => (s, e1)
  | .enum a, env => (ev Γ a env).bind fun (ra, e1) => (srcL e1 ra).map fun s => (⟨enumOf 0 s.items, s.lk, s.g⟩, e1)
  | .zip a b, env => (ev Γ a env).bind fun (ra, e1) => (ev Γ b e1).bind fun (rb, e2) => match ra, rb with
    | .v (.d (.list xs)), .v (.d (.list ys)) => some (⟨zipOf xs ys, [], none⟩, e2)
    | _, _ => none
noncomputable def evL (Γ : Ctx) : List ME → Env → Option (List Rv × Env)
  | [], env => some ([], env)
  | e :: es, env => (ev Γ e env).bind fun (r, e1) => (evL Γ es e1).map fun (rs, e2) => (r :: rs, e2)
/-- items of a display: frozen, one by one -/
noncomputable def evF (Γ : Ctx) : List ME → Env → Option (List D × Env)
  | [], env => some ([], env)
  | e :: es, env => (ev Γ e env).bind fun (r, e1) => (fz e1 r).bind fun (x, e2) => (evF Γ es e2).map fun (xs, e3) => (x :: xs, e3)
end

inductive Res where
  | nx (env : Env)
  | rt (r : Rv) (env : Env)
  | bk (env : Env)
  | ct (env : Env)
open Classical in
noncomputable def forD (body : Env → Option Res) (bnd : D → Env → Option Env) (g : Option (Nat × List D)) : List D → Env → Option Res
  | [], env => if gOk g env then some (.nx env) else none
  | x :: xs, env => if gOk g env then (bnd x env).bind fun e1 => (body e1).bind fun r => match r with
      | .nx e2 => forD body bnd g xs e2
      | .ct e2 => forD body bnd g xs e2
      | .bk e2 => some (.nx e2)
      | .rt v e2 => some (.rt v e2)
    else none
def whN (c : Env → Option (Bool × Env)) (b : Env → Option Res) : Nat → Env → Option Res
  | 0, _ => none
  | n + 1, env => (c env).bind fun (k, e1) => if k then (b e1).bind fun r => match r with
      | .nx e2 => whN c b n e2
      | .ct e2 => whN c b n e2
      | .bk e2 => some (.nx e2)
      | .rt v e2 => some (.rt v e2)
    else some (.nx e1)
open Classical in
noncomputable def whD (c : Env → Option (Bool × Env)) (b : Env → Option Res) (env : Env) : Option Res :=
  if h : ∃ n, (whN c b n env).isSome = true then whN c b (choose h) env else none
def setV (L : List Nat) (i : Nat) (w : Val) (env : Env) : Option Env := if i ∈ L ∨ env.length ≤ i then none else some (env.set i (some w))
/-- a name is given a result -/
def asgn (L : List Nat) : Tg → Rv → Env → Option Env
  | .nm i, .v w, env => setV L i w env
  | .nm i, .ali j, env => (fz env (.ali j)).bind fun (x, e) => setV L i (.d x) e
  | .tup ts, r, env => (fz env r).bind fun (x, e) => bindT L (.tup ts) x e
/-- a slot's value, where it is handed on, is frozen -/
def fzA (env : Env) : Rv → Option (Val × Env)
  | .v w => some (w, env)
  | .ali j => (fz env (.ali j)).map fun (x, e) => (.d x, e)
def fzAs : Env → List Rv → Option (List Val × Env)
  | env, [] => some ([], env)
  | env, r :: rs => (fzA env r).bind fun (w, e) => (fzAs e rs).map fun (ws, e') => (w :: ws, e')
def setVs (L : List Nat) : List Nat → List Val → Env → Option Env
  | [], [], env => some env
  | i :: is, w :: ws, env => (setV L i w env).bind fun e => setVs L is ws e
  | _, _, _ => none
noncomputable def evC (Γ : Ctx) (c : ME) (env : Env) : Option (Bool × Env) := (ev Γ c env).bind fun (r, e) => (truR e r).map fun k => (k, e)
def isOwn : Option Val → Bool
  | some (.own _) => true
  | _ => false
mutual
noncomputable def evS (Γ : Ctx) (L : List Nat) : MS → Env → Option Res
  | .asg tg e, env => (ev Γ e env).bind fun (r, e1) => (asgn L tg r e1).map .nx
  | .par is es, env => (evL Γ es env).bind fun (rs, e1) => (fzAs e1 rs).bind fun (ws, e2) => (setVs L is ws e2).map .nx
  | .seti i k v, env => (ev Γ v env).bind fun (rv, e1) => (fz e1 rv).bind fun (x, e2) => (rd e2 i).bind fun _ => (ev Γ k e2).bind fun (rk, e3) => (cur e3 rk).bind fun n => match rd e3 i, n with
      | some (.own xs), .int n => (ixN xs.length n).map fun j => .nx (e3.set i (some (.own (xs.set j x))))
      | _, _ => none
  | .app i e, env => if isOwn (rd env i) then (ev Γ e env).bind fun (r, e1) => (fz e1 r).bind fun (x, e2) => match rd e2 i with
      | some (.own xs) => if xs.length < sizeLine then some (.nx (e2.set i (some (.own (xs ++ [x]))))) else none
      | _ => none
    else none
  | .ext i e, env => if isOwn (rd env i) then (ev Γ e env).bind fun (r, e1) => (cur e1 r).bind fun y => match rd e1 i, y with
      | some (.own xs), .list ys => if xs.length + ys.length ≤ sizeLine then some (.nx (e1.set i (some (.own (xs ++ ys))))) else none
      | _, _ => none
    else none
  | .ifs c a b, env => (evC Γ c env).bind fun (k, e1) => if k then evSs Γ L a e1 else evSs Γ L b e1
  | .whl c b, env => whD (evC Γ c) (evSs Γ L b) env
  | .for_ tg it b, env => (evI Γ it env).bind fun (s, e1) => forD (evSs Γ (s.lk ++ L) b) (bindT (s.lk ++ L) tg) s.g s.items e1
  | .ret e, env => (ev Γ e env).map fun (r, e1) => .rt r e1
  | .ex e, env => (ev Γ e env).map fun (_, e1) => .nx e1
  | .retN, env => some (.rt (.v (.d .none)) env)
  | .brk, env => some (.bk env)
  | .cnt, env => some (.ct env)
  | .pass, env => some (.nx env)
noncomputable def evSs (Γ : Ctx) (L : List Nat) : List MS → Env → Option Res
  | [], env => some (.nx env)
  | s :: ss, env => (evS Γ L s env).bind fun r => match r with
    | .nx e => evSs Γ L ss e
    | r => some r
end
/-- a def of the text, or one whose value is told -/
inductive Fd where
  | py (np ns : Nat) (io : List Nat) (body : List MS)
  | pr (io : List Nat) (f : List Val → Option (Val × List Val))
def Fd.io : Fd → List Nat
  | .py _ _ io _ => io
  | .pr io _ => io
def ioT (T : List Fd) (f : Nat) : List Nat := match T[f]? with
  | some d => d.io
  | none => []
def isSt : Val → Bool
  | .st _ _ => true
  | _ => false
def outs (io : List Nat) (env : Env) : Nat → List Val → Option (List Val)
  | _, [] => some []
  | p, w :: ws => (if p ∈ io then (rd env p).bind fun u => match u with
      | .d _ => none
      | .scr _ => none
      | u => some u else match w with
        | .d x => some (.d x)
        | .scr x => some (.scr x)
        | _ => none).bind fun u => (outs io env (p + 1) ws).map (u :: ·)
def endF (io : List Nat) (ws : List Val) : Res → Option (Val × List Val)
  | .rt (.v w) env => (outs io env 0 ws).map fun us => (w, us)
  | .rt (.ali i) env => if i ∈ io then none else if ws.any isSt then (fz env (.ali i)).bind fun (x, e) => (outs io e 0 ws).map fun us => (.d x, us)
      else (rd env i).bind fun w => (outs io env 0 ws).map fun us => (w, us)
  | .nx env => (outs io env 0 ws).map fun us => (.d .none, us)
  | _ => none
noncomputable def callT (T : List Fd) (G : List D) : Nat → Calls
  | 0 => fun _ _ => none
  | k + 1 => fun f ws => match T[f]? with
    | some (.py np ns io body) => if ws.length = np ∧ np ≤ ns then (evSs ⟨callT T G k, ioT T, G⟩ io body (ws.map some ++ List.replicate (ns - np) none)).bind (endF io ws) else none
    | some (.pr _ g) => g ws
    | none => none
end Ev

namespace Ev
open PySem L2
variable {K : PySem.W.Frag} {S S' S1 S2 H H' H1 H2 H0 S0 : Hp} {σ : St} {env env' env1 env2 : Env}

theorem sameT {a : Addr} {xs : List V} (e : Same S S') (h : SqT K S a xs) : SqT K S' a xs := by
  rcases h with (h | ⟨o, h⟩) | h
  · exact .inl (.inl (e _ _ h))
  · exact .inl (.inr ⟨o, e _ _ h⟩)
  · exact .inr h
/-! data in the heap: lists are tracked, tuples may be written in the text -/
mutual
inductive Rp (K : PySem.W.Frag) (H : Hp) : V → D → Prop
  | non : Rp K H .non .none
  | bl (b : Bool) : Rp K H (.bl b) (.bool b)
  | int (i : Int) : Rp K H (.int i) (.int i)
  | str (x : Str) : Rp K H (.str x) (.str x)
  | lst {a : Addr} {xs : List V} {ds : List D} : H a = some (.lst xs) → Rps K H xs ds → Rp K H (.ref a) (.list ds)
  | tup {a : Addr} {xs : List V} {ds : List D} : SqT K H a xs → Rps K H xs ds → Rp K H (.ref a) (.tuple ds)
inductive Rps (K : PySem.W.Frag) (H : Hp) : List V → List D → Prop
  | nil : Rps K H [] []
  | cons {v : V} {vs : List V} {d : D} {ds : List D} : Rp K H v d → Rps K H vs ds → Rps K H (v :: vs) (d :: ds)
end
mutual
theorem rp_dp : ∀ {v : V} {x : D}, Rp K S v x → Dp K S v x
  | _, _, .non => .non
  | _, _, .bl b => .bl b
  | _, _, .int i => .int i
  | _, _, .str x => .str x
  | _, _, .lst h a => .lst (SqL.of h) (rps_dps a)
  | _, _, .tup h a => .tup h (rps_dps a)
theorem rps_dps : ∀ {v : List V} {x : List D}, Rps K S v x → DpAll K S v x
  | _, _, .nil => .nil
  | _, _, .cons h a => .cons (rp_dp h) (rps_dps a)
end
mutual
theorem dpMono (s : Same S S') : ∀ {v : V} {x : D}, Rp K S v x → Rp K S' v x
  | _, _, .non => .non
  | _, _, .bl b => .bl b
  | _, _, .int i => .int i
  | _, _, .str x => .str x
  | _, _, .lst h a => .lst (s _ _ h) (dpsMono s a)
  | _, _, .tup h a => .tup (sameT s h) (dpsMono s a)
theorem dpsMono (s : Same S S') : ∀ {v : List V} {x : List D}, Rps K S v x → Rps K S' v x
  | _, _, .nil => .nil
  | _, _, .cons h a => .cons (dpMono s h) (dpsMono s a)
end
theorem dps_len : ∀ {v : List V} {x : List D}, Rps K S v x → v.length = x.length
  | _, _, .nil => rfl
  | _, _, .cons _ a => by simp [dps_len a]
theorem dps_get : ∀ {vs : List V} {xs : List D} {i : Nat} {v : V}, Rps K S vs xs → vs[i]? = some v → ∃ x, xs[i]? = some x ∧ Rp K S v x
  | _, _, i, _, .nil, e => by simp at e
  | _, _, 0, _, .cons h a, e => by simp at e; subst e; exact ⟨_, rfl, h⟩
  | _, _, i + 1, _, .cons h a, e => by
    simp at e
    obtain ⟨x, h1, h2⟩ := dps_get a e
    exact ⟨x, by simpa using h1, h2⟩
theorem dps_at : ∀ {vs : List V} {xs : List D} {i : Nat} {x : D}, Rps K S vs xs → xs[i]? = some x → ∃ v, vs[i]? = some v ∧ Rp K S v x
  | _, _, i, _, .nil, e => by simp at e
  | _, _, 0, _, .cons h a, e => by simp at e; subst e; exact ⟨_, rfl, h⟩
  | _, _, i + 1, _, .cons h a, e => by
    simp at e
    obtain ⟨x, h1, h2⟩ := dps_at a e
    exact ⟨x, by simpa using h1, h2⟩
theorem dps_app : ∀ {vs ws : List V} {xs ys : List D}, Rps K S vs xs → Rps K S ws ys → Rps K S (vs ++ ws) (xs ++ ys)
  | _, _, _, _, .nil, h => h
  | _, _, _, _, .cons h a, k => .cons h (dps_app a k)
theorem dps_take : ∀ {vs : List V} {xs : List D} (n : Nat), Rps K S vs xs → Rps K S (vs.take n) (xs.take n)
  | _, _, 0, _ => by simp; exact .nil
  | _, _, n + 1, .nil => by simp; exact .nil
  | _, _, n + 1, .cons h a => by simp; exact .cons h (dps_take n a)
theorem dps_drop : ∀ {vs : List V} {xs : List D} (n : Nat), Rps K S vs xs → Rps K S (vs.drop n) (xs.drop n)
  | _, _, 0, h => by simpa using h
  | _, _, n + 1, .nil => by simp; exact .nil
  | _, _, n + 1, .cons h a => by simpa using dps_drop n a
theorem dps_set : ∀ {vs : List V} {xs : List D} {v : V} {x : D} (n : Nat), Rps K S vs xs → Rp K S v x → Rps K S (vs.set n v) (xs.set n x)
  | _, _, _, _, _, .nil, _ => by simp; exact .nil
  | _, _, _, _, 0, .cons h a, k => by simp; exact .cons k a
  | _, _, _, _, n + 1, .cons h a, k => by simp; exact .cons h (dps_set n a k)
theorem dps_cut {vs : List V} {xs : List D} (lo hi : Option Int) (h : Rps K S vs xs) : Rps K S (cutV vs lo hi) (cut xs lo hi) := by
  unfold cutV cut
  rw [dps_len h]
  exact dps_take _ (dps_drop _ h)

/-! what a slot's value is in the heap: S what stays, H all -/
/-- a list that nobody changes -/
def SqZ (K : PySem.W.Frag) (H : Hp) (a : Addr) (xs : List V) : Prop :=
  (∃ o, H a = some (.frz o (.lst xs))) ∨
    ∃ (o : Obj) (its : Array Value) (n : Nat), K.lookup a = some o ∧ o.cls = .type "list" ∧ o.dict = none ∧ o.data = .seq its n ∧ its.size ≤ sizeLine ∧ Vals xs its.toList
def RepV (K : PySem.W.Frag) (S H : Hp) (v : V) : Val → Prop
  | .d x => Rp K S v x
  | .own xs => ∃ a vs, v = .ref a ∧ S a = none ∧ H a = some (.lst vs) ∧ Rps K S vs xs
  | .st i cs => ∃ a c, v = .ref a ∧ S a = none ∧ S c = none ∧ H a = some (.lst [.int i, .ref c]) ∧ H c = some (.lst (cs.map V.int))
  | .dk kvs => ∃ a ws, v = .ref a ∧ S a = none ∧ H a = some (.dK ws) ∧ Paired (fun (p : Key × V) (q : Key × D) => p.1 = q.1 ∧ Rp K S p.2 q.2) ws kvs
  | .scr ns => ∃ a, v = .ref a ∧ SqZ K S a (ns.map V.int)
def Root (H : Hp) (v : V) : Val → Addr → Prop
  | .d _, _ => False
  | .own _, b => v = .ref b
  | .dk _, b => v = .ref b
  | .scr _, _ => False
  | .st _ _, b => v = .ref b ∨ ∃ a x, v = .ref a ∧ H a = some (.lst [x, .ref b])
def slotV (σ : St) (i : Nat) : Option V := (σ[i]?).getD none
structure RepEnv (K : PySem.W.Frag) (S H : Hp) (σ : St) (env : Env) : Prop where
  same : Same S H
  len : σ.length = env.length
  get : ∀ i w, rd env i = some w → ∃ v, slotV σ i = some v ∧ RepV K S H v w
  dis : ∀ i j w w' v v' b, i ≠ j → rd env i = some w → slotV σ i = some v → rd env j = some w' → slotV σ j = some v' → Root H v w b → Root H v' w' b → False
def Roots (H : Hp) (σ : St) (env : Env) (b : Addr) : Prop := ∃ i w v, rd env i = some w ∧ slotV σ i = some v ∧ Root H v w b
structure Step (R : Addr → Prop) (S H S' H' : Hp) : Prop where
  st : Same S S'
  same : Same S' H'
  kp : ∀ b o, H b = some o → ¬ R b → H' b = some o
  nw : ∀ b, S' b ≠ none → S b ≠ none ∨ H b = none ∨ R b
  dm : ∀ b, H b ≠ none → H' b ≠ none
def RepR (K : PySem.W.Frag) (S H : Hp) (σ : St) (env : Env) (v : V) : Rv → Prop
  | .v w => RepV K S H v w ∧ ∀ b, Root H v w b → ¬ Roots H σ env b
  | .ali i => slotV σ i = some v

theorem Step.refl {R : Addr → Prop} (h : Same S H) : Step R S H S H := ⟨Same.refl S, h, fun _ _ e _ => e, fun _ e => .inl e, fun _ e => e⟩
theorem Step.trans {R R1 : Addr → Prop} (a : Step R S H S1 H1) (b : Step R1 S1 H1 S2 H2) (hR : ∀ c, R1 c → R c ∨ H c = none) : Step R S H S2 H2 := by
  refine ⟨a.st.trans b.st, b.same, fun c o e n => ?_, fun c e => ?_, fun c e => b.dm c (a.dm c e)⟩
  · refine b.kp c o (a.kp c o e n) fun r => ?_
    rcases hR c r with h | h
    · exact n h
    · rw [e] at h; cases h
  · rcases b.nw c e with h | h | h
    · exact a.nw c h
    · by_cases hr : R c
      · exact .inr (.inr hr)
      · cases q : H c with
        | none => exact .inr (.inl rfl)
        | some o => rw [a.kp c o q hr] at h; cases h
    · rcases hR c h with h | h
      · exact .inr (.inr h)
      · exact .inr (.inl h)
theorem Step.mono {R R1 : Addr → Prop} (a : Step R S H S' H') (h : ∀ b, R b → R1 b) : Step R1 S H S' H' :=
  ⟨a.st, a.same, fun b o e n => a.kp b o e fun r => n (h b r), fun b e => (a.nw b e).imp id (Or.imp id (h b)), a.dm⟩
/-- nothing that was there has changed -/
theorem Step.grow {R : Addr → Prop} (h1 : Same S S') (h2 : Same S' H') (h3 : Same H H') (h4 : ∀ b, S' b ≠ none → S b ≠ none ∨ H b = none) : Step R S H S' H' :=
  ⟨h1, h2, fun b o e _ => h3 b o e, fun b e => (h4 b e).imp id .inl, fun b e => by
    cases q : H b with
    | none => exact absurd q e
    | some o => rw [h3 b o q]; simp⟩

theorem root_free {v : V} {w : Val} {b : Addr} (r : RepV K S H v w) (h : Root H v w b) : S b = none ∧ ∃ o, H b = some o := by
  cases w with
  | d x => exact h.elim
  | scr x => exact h.elim
  | own xs =>
    obtain ⟨a, vs, rfl, h1, h2, _⟩ := r
    have : a = b := by simpa [Root] using h
    subst this
    exact ⟨h1, _, h2⟩
  | dk kvs =>
    obtain ⟨a, vs, rfl, h1, h2, _⟩ := r
    have : a = b := by simpa [Root] using h
    subst this
    exact ⟨h1, _, h2⟩
  | st i cs =>
    obtain ⟨a, c, rfl, h1, h2, h3, h4⟩ := r
    rcases h with h | ⟨a', x, h, h'⟩
    · cases h; exact ⟨h1, _, h3⟩
    · cases h
      rw [h3] at h'
      cases h'
      exact ⟨h2, _, h4⟩
/-- the roots of one value, by what stands there -/
theorem root_iff {v : V} {w : Val} {b : Addr} (r : RepV K S H v w) (hk : ∀ c, Root H v w c → ∀ o, H c = some o → H' c = some o) : Root H' v w b ↔ Root H v w b := by
  cases w with
  | d x => exact Iff.rfl
  | scr x => exact Iff.rfl
  | own xs => exact Iff.rfl
  | dk kvs => exact Iff.rfl
  | st i cs =>
    obtain ⟨a, c, rfl, h1, h2, h3, h4⟩ := r
    have e : H' a = some (.lst [.int i, .ref c]) := hk a (.inl rfl) _ h3
    constructor
    · rintro (h | ⟨a', x, h, h'⟩)
      · exact .inl h
      · cases h
        rw [e] at h'
        cases h'
        exact .inr ⟨a, _, rfl, h3⟩
    · rintro (h | ⟨a', x, h, h'⟩)
      · exact .inl h
      · cases h
        rw [h3] at h'
        cases h'
        exact .inr ⟨a, _, rfl, e⟩
theorem sqZ_mono {a : Addr} {xs : List V} (h1 : ∀ b o, S b = some o → (∀ xs, o ≠ .lst xs) → S' b = some o) (h : SqZ K S a xs) : SqZ K S' a xs := by
  rcases h with ⟨o, h⟩ | h
  · exact .inl ⟨o, h1 _ _ h fun _ z => nomatch z⟩
  · exact .inr h
theorem SqZ.sq {a : Addr} {xs : List V} (h : SqZ K S a xs) : SqL K S a xs := by
  rcases h with ⟨o, h⟩ | h
  · exact .inl (.inr ⟨o, h⟩)
  · exact .inr h
theorem repV_step {v : V} {w : Val} (r : RepV K S H v w) (h1 : Same S S') (hk : ∀ c, Root H v w c → S' c = none ∧ ∀ o, H c = some o → H' c = some o) : RepV K S' H' v w := by
  cases w with
  | d x => exact dpMono h1 r
  | scr ns =>
    obtain ⟨a, e1, e2⟩ := r
    exact ⟨a, e1, sqZ_mono (fun b o z _ => h1 b o z) e2⟩
  | own xs =>
    obtain ⟨a, vs, rfl, e1, e2, e3⟩ := r
    obtain ⟨k1, k2⟩ := hk a rfl
    exact ⟨a, vs, rfl, k1, k2 _ e2, dpsMono h1 e3⟩
  | dk kvs =>
    obtain ⟨a, vs, rfl, e1, e2, e3⟩ := r
    obtain ⟨k1, k2⟩ := hk a rfl
    exact ⟨a, vs, rfl, k1, k2 _ e2, Paired.mapP e3 fun p q z => ⟨z.1, dpMono h1 z.2⟩⟩
  | st i cs =>
    obtain ⟨a, c, rfl, e1, e2, e3, e4⟩ := r
    obtain ⟨k1, k2⟩ := hk a (.inl rfl)
    obtain ⟨k3, k4⟩ := hk c (.inr ⟨a, _, rfl, e3⟩)
    exact ⟨a, c, rfl, k1, k3, k2 _ e3, k4 _ e4⟩
/-- a step that keeps what a value leans on -/
theorem repV_keep {R : Addr → Prop} {v : V} {w : Val} (r : RepV K S H v w) (st : Step R S H S' H') (hR : ∀ b, Root H v w b → ¬ R b) : RepV K S' H' v w ∧ ∀ b, Root H' v w b ↔ Root H v w b := by
  have hk : ∀ c, Root H v w c → S' c = none ∧ ∀ o, H c = some o → H' c = some o := fun c h => by
    obtain ⟨f, o, e⟩ := root_free r h
    refine ⟨?_, fun o e => st.kp c o e (hR c h)⟩
    cases q : S' c with
    | none => rfl
    | some u =>
      rcases st.nw c (by rw [q]; simp) with z | z | z
      · exact absurd f z
      · rw [e] at z; cases z
      · exact absurd z (hR c h)
  exact ⟨repV_step r st.st hk, fun b => root_iff r fun c h => (hk c h).2⟩

theorem Roots.free (e : RepEnv K S H σ env) {b : Addr} (h : Roots H σ env b) : S b = none ∧ ∃ o, H b = some o := by
  obtain ⟨i, w, v, h1, h2, h3⟩ := h
  obtain ⟨v', e1, e2⟩ := e.get i w h1
  rw [h2] at e1; cases e1
  exact root_free e2 h3
/-- the environment behind a step that changes none of its roots -/
theorem RepEnv.keep {R : Addr → Prop} (e : RepEnv K S H σ env) (st : Step R S H S' H') (hR : ∀ b, Roots H σ env b → ¬ R b) : RepEnv K S' H' σ env ∧ ∀ b, Roots H' σ env b ↔ Roots H σ env b := by
  have one : ∀ i w v, rd env i = some w → slotV σ i = some v → RepV K S' H' v w ∧ ∀ b, Root H' v w b ↔ Root H v w b := fun i w v h1 h2 => by
    obtain ⟨v', e1, e2⟩ := e.get i w h1
    rw [h2] at e1; cases e1
    exact repV_keep e2 st fun b hb => hR b ⟨i, w, v, h1, h2, hb⟩
  refine ⟨⟨st.same, e.len, fun i w h => ?_, fun i j w w' v v' b n h1 h2 h3 h4 h5 h6 => ?_⟩, fun b => ⟨?_, ?_⟩⟩
  · obtain ⟨v, e1, _⟩ := e.get i w h
    exact ⟨v, e1, (one i w v h e1).1⟩
  · exact e.dis i j w w' v v' b n h1 h2 h3 h4 (((one i w v h1 h2).2 b).mp h5) (((one j w' v' h3 h4).2 b).mp h6)
  · rintro ⟨i, w, v, h1, h2, h3⟩
    exact ⟨i, w, v, h1, h2, ((one i w v h1 h2).2 b).mp h3⟩
  · rintro ⟨i, w, v, h1, h2, h3⟩
    exact ⟨i, w, v, h1, h2, ((one i w v h1 h2).2 b).mpr h3⟩
theorem RepEnv.grow (e : RepEnv K S H σ env) (h1 : Same S S') (h2 : Same S' H') (h3 : Same H H') (h4 : ∀ b, S' b ≠ none → S b ≠ none ∨ H b = none) : RepEnv K S' H' σ env ∧ ∀ b, Roots H' σ env b ↔ Roots H σ env b :=
  e.keep (R := fun _ => False) (Step.grow h1 h2 h3 h4) fun _ _ h => h
/-- the state behind an expression -/
theorem none_bk {R : Addr → Prop} {b : Addr} (st : Step R S H S' H') (h : H' b = none) : H b = none := by
  cases q : H b with
  | none => rfl
  | some o => exact absurd h (st.dm b (by rw [q]; simp))
structure Pst (K : PySem.W.Frag) (S H : Hp) (σ : St) (env : Env) (S' H' : Hp) (env' : Env) : Prop where
  step : Step (Roots H σ env) S H S' H'
  rep : RepEnv K S' H' σ env'
  sub : ∀ b, Roots H' σ env' b → Roots H σ env b ∨ H b = none
  slots : env'.length = env.length
theorem Pst.refl (e : RepEnv K S H σ env) : Pst K S H σ env S H env := ⟨Step.refl e.same, e, fun _ h => .inl h, rfl⟩
theorem Pst.trans (a : Pst K S H σ env S1 H1 env1) (b : Pst K S1 H1 σ env1 S2 H2 env2) : Pst K S H σ env S2 H2 env2 :=
  ⟨a.step.trans b.step fun c h => a.sub c h, b.rep, fun c h => (b.sub c h).elim (a.sub c) fun z => .inr (none_bk a.step z), b.slots.trans a.slots⟩
/-- .. with its value -/
structure Psv (K : PySem.W.Frag) (S H : Hp) (σ : St) (env : Env) (S' H' : Hp) (env' : Env) (v : V) (r : Rv) : Prop extends Pst K S H σ env S' H' env' where
  res : RepR K S' H' σ env' v r
  new : ∀ w, r = .v w → ∀ b, Root H' v w b → H b = none
/-- an earlier value behind a further step -/
theorem RepR.step {v : V} {r : Rv} (res : RepR K S1 H1 σ env1 v r) (p : Pst K S1 H1 σ env1 S2 H2 env2) : RepR K S2 H2 σ env2 v r := by
  cases r with
  | ali i => exact res
  | v w =>
    obtain ⟨k1, k2⟩ := repV_keep res.1 p.step res.2
    exact ⟨k1, fun b hb hr => (p.sub b hr).elim (res.2 b ((k2 b).mp hb)) fun z => by
      obtain ⟨_, o, e⟩ := root_free res.1 ((k2 b).mp hb)
      rw [z] at e; cases e⟩
theorem Root_new {v : V} {w : Val} (res : RepR K S1 H1 σ env1 v (.v w)) (p : Pst K S1 H1 σ env1 S2 H2 env2) (b : Addr) : Root H2 v w b ↔ Root H1 v w b := (repV_keep res.1 p.step res.2).2 b
/-- what a value is just now -/
def RepC (K : PySem.W.Frag) (S H : Hp) (v : V) (x : D) : Prop := Rp K S v x ∨ ∃ a vs xs, v = .ref a ∧ x = .list xs ∧ H a = some (.lst vs) ∧ Rps K S vs xs
theorem RepC.dp {v : V} {x : D} (h : RepC K S H v x) (s : Same S H) : Rp K H v x := by
  rcases h with h | ⟨a, vs, xs, rfl, rfl, h1, h2⟩
  · exact dpMono s h
  · exact .lst h1 (dpsMono s h2)
theorem RepC.list {v : V} {xs : List D} (h : RepC K S H v (.list xs)) (s : Same S H) : ∃ a vs, v = .ref a ∧ H a = some (.lst vs) ∧ Rps K S vs xs := by
  rcases h with h | ⟨a, vs, xs', rfl, e, h1, h2⟩
  · cases h with
    | lst h1 h2 => exact ⟨_, _, rfl, s _ _ h1, h2⟩
  · cases e
    exact ⟨a, vs, rfl, h1, h2⟩
theorem RepC.tuple {v : V} {xs : List D} (h : RepC K S H v (.tuple xs)) : ∃ a vs, v = .ref a ∧ SqT K S a vs ∧ Rps K S vs xs := by
  rcases h with h | ⟨a, vs, xs', rfl, e, h1, h2⟩
  · cases h with
    | tup h1 h2 => exact ⟨_, _, rfl, h1, h2⟩
  · cases e
theorem RepC.int {v : V} {i : Int} (h : RepC K S H v (.int i)) : v = .int i := by
  rcases h with h | ⟨a, vs, xs', rfl, e, h1, h2⟩
  · cases h; rfl
  · cases e
theorem RepC.str {v : V} {i : Str} (h : RepC K S H v (.str i)) : v = .str i := by
  rcases h with h | ⟨a, vs, xs', rfl, e, h1, h2⟩
  · cases h; rfl
  · cases e
theorem RepC.bool {v : V} {i : Bool} (h : RepC K S H v (.bool i)) : v = .bl i := by
  rcases h with h | ⟨a, vs, xs', rfl, e, h1, h2⟩
  · cases h; rfl
  · cases e
theorem RepC.none {v : V} (h : RepC K S H v .none) : v = .non := by
  rcases h with h | ⟨a, vs, xs', rfl, e, h1, h2⟩
  · cases h; rfl
  · cases e
theorem repC_val {v : V} {w : Val} {x : D} (r : RepV K S H v w) (e : valD w = some x) : RepC K S H v x := by
  cases w with
  | d y => cases e; exact .inl r
  | own xs =>
    cases e
    obtain ⟨a, vs, h1, h2, h3, h4⟩ := r
    exact .inr ⟨a, vs, xs, h1, rfl, h3, h4⟩
  | dk _ => cases e
  | st _ _ => cases e
  | scr _ => cases e
theorem repC_of {v : V} {r : Rv} {x : D} (p : RepEnv K S H σ env) (res : RepR K S H σ env v r) (e : cur env r = some x) : RepC K S H v x := by
  cases r with
  | v w => exact repC_val res.1 e
  | ali i =>
    have h1 : slotV σ i = some v := res
    obtain ⟨w, h2, e⟩ := Option.bind_eq_some_iff.mp (show (rd env i).bind valD = some x from e)
    obtain ⟨v', e1, e2⟩ := p.get i w h2
    rw [h1] at e1; cases e1
    exact repC_val e2 e
theorem cur_ali {i : Nat} {x : D} (e : cur env (.ali i) = some x) : ∃ w, rd env i = some w := by
  have e : (rd env i).bind valD = some x := e
  cases q : rd env i with
  | none => rw [q] at e; cases e
  | some w => exact ⟨w, rfl⟩
end Ev

namespace Ev
open PySem L2
variable {K : PySem.W.Frag} {S S' S1 S2 H H' H1 H2 H0 S0 : Hp} {σ : St} {env env' env0 env1 env2 : Env}

theorem rd_some {i : Nat} {w : Val} (h : rd env i = some w) : i < env.length := by
  unfold rd at h
  by_cases hi : i < env.length
  · exact hi
  · rw [List.getElem?_eq_none (by omega)] at h
    cases h
theorem rd_set (env : Env) (i j : Nat) (w : Option Val) : rd (env.set i w) j = if i = j ∧ i < env.length then w else rd env j := by
  unfold rd
  by_cases h : i = j
  · subst h
    by_cases hi : i < env.length
    · rw [List.getElem?_set_self hi, if_pos ⟨rfl, hi⟩]; rfl
    · rw [if_neg (by omega), List.getElem?_eq_none (by rw [List.length_set]; omega), List.getElem?_eq_none (by omega)]
  · rw [List.getElem?_set_ne h, if_neg (by omega)]
theorem slotV_set (σ : St) (i j : Nat) (w : Option V) : slotV (σ.set i w) j = if i = j ∧ i < σ.length then w else slotV σ j := by
  unfold slotV
  by_cases h : i = j
  · subst h
    by_cases hi : i < σ.length
    · rw [List.getElem?_set_self hi, if_pos ⟨rfl, hi⟩]; rfl
    · rw [if_neg (by omega), List.getElem?_eq_none (by rw [List.length_set]; omega), List.getElem?_eq_none (by omega)]
  · rw [List.getElem?_set_ne h, if_neg (by omega)]
theorem slotV_get {i : Nat} {v : V} (h : slotV σ i = some v) : σ[i]? = some (some v) := by
  unfold slotV at h
  cases q : σ[i]? with
  | none => rw [q] at h; cases h
  | some o => rw [q] at h; simp at h; rw [h]
theorem slotV_of {i : Nat} {v : V} (h : σ[i]? = some (some v)) : slotV σ i = some v := by unfold slotV; rw [h]; rfl

open Classical in
noncomputable def frzS (S H : Hp) (B : Addr → Prop) : Hp := fun b => if B b then H b else S b
theorem frzS_pos {B : Addr → Prop} {b : Addr} (h : B b) : frzS S H B b = H b := if_pos h
theorem frzS_neg {B : Addr → Prop} {b : Addr} (h : ¬ B b) : frzS S H B b = S b := if_neg h
theorem frzS_at {a : Addr} : frzS S H (fun b => b = a) a = H a := frzS_pos (B := fun b => b = a) rfl
theorem frzS_same {B : Addr → Prop} (s : Same S H) : Same S (frzS S H B) ∧ Same (frzS S H B) H := by
  refine ⟨fun b o e => ?_, fun b o e => ?_⟩
  · by_cases h : B b
    · rw [frzS_pos h]; exact s b o e
    · rw [frzS_neg h]; exact e
  · by_cases h : B b
    · rw [frzS_pos h] at e; exact e
    · rw [frzS_neg h] at e; exact s b o e
theorem RepEnv.frz {R B : Addr → Prop} (st : Step R S0 H0 S H) (e : RepEnv K S H σ env) (hB : ∀ b, B b → R b ∨ H0 b = none) (hl : env2.length = env.length)
    (h : ∀ i w', rd env2 i = some w' → (rd env i = some w' ∧ ∀ v b, slotV σ i = some v → Root H v w' b → ¬ B b) ∨ ∃ xs a, rd env i = some (.own xs) ∧ w' = .d (.list xs) ∧ slotV σ i = some (.ref a) ∧ B a) :
    Step R S0 H0 (frzS S H B) H ∧ RepEnv K (frzS S H B) H σ env2 ∧ ∀ b, Roots H σ env2 b → Roots H σ env b ∧ ¬ B b := by
  obtain ⟨s1, s2⟩ := frzS_same (B := B) e.same
  refine ⟨⟨st.st.trans s1, s2, st.kp, fun b hb => ?_, st.dm⟩, ⟨s2, e.len.trans hl.symm, fun i w' hw => ?_, fun i j w w' v v' b n h1 h2 h3 h4 h5 h6 => ?_⟩, ?_⟩
  · by_cases q : B b
    · rcases hB b q with z | z
      · exact .inr (.inr z)
      · exact .inr (.inl z)
    · rw [frzS_neg q] at hb; exact st.nw b hb
  · rcases h i w' hw with ⟨h1, h2⟩ | ⟨xs, a, h1, rfl, h2, h3⟩
    · obtain ⟨v, e1, e2⟩ := e.get i w' h1
      refine ⟨v, e1, repV_step e2 s1 fun c hc => ⟨?_, fun o q => q⟩⟩
      rw [frzS_neg (h2 v c e1 hc)]
      exact (root_free e2 hc).1
    · obtain ⟨v, e1, a', vs, e2, e3, e4, e5⟩ := e.get i _ h1
      rw [h2] at e1; cases e1; cases e2
      exact ⟨_, h2, .lst (by rw [frzS_pos h3]; exact e4) (dpsMono s1 e5)⟩
  · rcases h i w h1 with ⟨k1, _⟩ | ⟨xs, a, k1, rfl, _⟩
    · rcases h j w' h3 with ⟨k2, _⟩ | ⟨xs, a, k2, rfl, _⟩
      · exact e.dis i j w w' v v' b n k1 h2 k2 h4 h5 h6
      · exact h6.elim
    · exact h5.elim
  · rintro b ⟨i, w, v, h1, h2, h3⟩
    rcases h i w h1 with ⟨k1, k2⟩ | ⟨xs, a, k1, rfl, _⟩
    · exact ⟨⟨i, w, v, k1, h2, h3⟩, k2 v b h2 h3⟩
    · exact h3.elim
/-- a value is frozen -/
theorem fz_ok {v : V} {r : Rv} {x : D} (p : Psv K S0 H0 σ env0 S H env v r) (e : fz env r = some (x, env2)) : ∃ S2, Pst K S0 H0 σ env0 S2 H env2 ∧ Rp K S2 v x ∧ Same S S2 := by
  cases r with
  | v w =>
    simp only [fz, Option.map_eq_some_iff] at e
    obtain ⟨y, e1, e2⟩ := e
    cases e2
    cases w with
    | d z => cases e1; exact ⟨S, p.toPst, p.res.1, Same.refl _⟩
    | own xs =>
      cases e1
      obtain ⟨⟨a, vs, rfl, h1, h2, h3⟩, hn⟩ := p.res
      have hnew : H0 a = none := p.new _ rfl a rfl
      obtain ⟨k1, k2, k3⟩ := RepEnv.frz (B := fun b => b = a) p.step p.rep (fun b hb => .inr (by rw [hb]; exact hnew)) rfl (fun i w' hw => .inl ⟨hw, fun v b hv hr hb => hn a rfl ⟨i, w', v, hw, hv, by rw [← hb]; exact hr⟩⟩)
      exact ⟨_, ⟨k1, k2, fun b hb => p.sub b (k3 b hb).1, p.slots⟩, .lst (frzS_at.trans h2) (dpsMono (frzS_same p.rep.same).1 h3), (frzS_same p.rep.same).1⟩
    | dk _ => cases e1
    | st _ _ => cases e1
    | scr _ => cases e1
  | ali i =>
    simp only [fz, Option.map_eq_some_iff] at e
    obtain ⟨y, e1, e2⟩ := e
    cases e2
    have hs : slotV σ i = some v := p.res
    obtain ⟨w, hw, e1⟩ := Option.bind_eq_some_iff.mp e1
    have hi := rd_some hw
    obtain ⟨v', g1, g2⟩ := p.rep.get i w hw
    rw [hs] at g1; cases g1
    cases w with
    | d z =>
      have ez : z = x := by simpa [valD] using e1
      rw [ez] at hw g2
      have side : ∀ j w', rd (env.set i (some (.d x))) j = some w' → rd env j = some w' := fun j w' hj => by
        rw [rd_set] at hj
        split at hj
        · rename_i c; obtain ⟨rfl, _⟩ := c; rw [hw]; exact hj
        · exact hj
      obtain ⟨k1, k2, k3⟩ := RepEnv.frz (B := fun _ => False) (env2 := env.set i (some (.d x))) p.step p.rep (fun b hb => hb.elim) (by simp) (fun j w' hj => .inl ⟨side j w' hj, fun _ _ _ _ h => h⟩)
      exact ⟨_, ⟨k1, k2, fun b hb => p.sub b (k3 b hb).1, by simpa using p.slots⟩, dpMono (frzS_same p.rep.same).1 g2, (frzS_same p.rep.same).1⟩
    | own xs =>
      cases e1
      obtain ⟨a, vs, rfl, h1, h2, h3⟩ := g2
      have side : ∀ j w', rd (env.set i (some (.d (.list xs)))) j = some w' → (rd env j = some w' ∧ ∀ v b, slotV σ j = some v → Root H v w' b → ¬ b = a) ∨ ∃ xs a', rd env j = some (.own xs) ∧ w' = .d (.list xs) ∧ slotV σ j = some (.ref a') ∧ a' = a := fun j w' hj => by
        rw [rd_set] at hj
        split at hj
        · rename_i c; obtain ⟨rfl, _⟩ := c; cases hj
          exact .inr ⟨xs, a, hw, rfl, hs, rfl⟩
        · rename_i c
          have hij : i ≠ j := fun q => c ⟨q, hi⟩
          refine .inl ⟨hj, fun v b hv hr hb => ?_⟩
          exact p.rep.dis i j _ _ _ _ b hij hw hs hj hv (by rw [hb]; rfl) hr
      obtain ⟨k1, k2, k3⟩ := RepEnv.frz (B := fun b => b = a) (env2 := env.set i (some (.d (.list xs)))) p.step p.rep (fun b hb => p.sub b ⟨i, _, _, hw, hs, by rw [hb]; rfl⟩) (by simp) side
      exact ⟨_, ⟨k1, k2, fun b hb => p.sub b (k3 b hb).1, by simpa using p.slots⟩, .lst (frzS_at.trans h2) (dpsMono (frzS_same p.rep.same).1 h3), (frzS_same p.rep.same).1⟩
    | dk _ => cases e1
    | st _ _ => cases e1
    | scr _ => cases e1
/-- a slot is stored -/
theorem RepEnv.put {i : Nat} {v : V} {w : Val} (e : RepEnv K S H σ env) (hi : i < env.length) (r : RepV K S H v w) (n : ∀ b, Root H v w b → ¬ Roots H σ env b) :
    RepEnv K S H (σ.set i (some v)) (env.set i (some w)) ∧ ∀ b, Roots H (σ.set i (some v)) (env.set i (some w)) b → Roots H σ env b ∨ Root H v w b := by
  have hσ : i < σ.length := by rw [e.len]; exact hi
  have one : ∀ j u x, rd (env.set i (some w)) j = some u → slotV (σ.set i (some v)) j = some x → (j = i ∧ u = w ∧ x = v) ∨ (j ≠ i ∧ rd env j = some u ∧ slotV σ j = some x) := fun j u x h1 h2 => by
    rw [rd_set] at h1
    rw [slotV_set] at h2
    by_cases hj : i = j
    · subst hj
      rw [if_pos ⟨rfl, hi⟩] at h1
      rw [if_pos ⟨rfl, hσ⟩] at h2
      cases h1; cases h2
      exact .inl ⟨rfl, rfl, rfl⟩
    · rw [if_neg (by omega)] at h1
      rw [if_neg (by omega)] at h2
      exact .inr ⟨Ne.symm hj, h1, h2⟩
  refine ⟨⟨e.same, by simpa using e.len, fun j u h => ?_, fun j k u u' x x' b hne h1 h2 h3 h4 h5 h6 => ?_⟩, ?_⟩
  · rw [rd_set] at h
    rw [slotV_set]
    by_cases hj : i = j
    · subst hj
      rw [if_pos ⟨rfl, hi⟩] at h
      cases h
      exact ⟨v, by rw [if_pos ⟨rfl, hσ⟩], r⟩
    · rw [if_neg (by omega)] at h
      rw [if_neg (by omega)]
      exact e.get j u h
  · rcases one j u x h1 h2 with ⟨rfl, rfl, rfl⟩ | ⟨q1, q2, q3⟩
    · rcases one k u' x' h3 h4 with ⟨rfl, rfl, rfl⟩ | ⟨q4, q5, q6⟩
      · exact hne rfl
      · exact n b h5 ⟨k, u', x', q5, q6, h6⟩
    · rcases one k u' x' h3 h4 with ⟨rfl, rfl, rfl⟩ | ⟨q4, q5, q6⟩
      · exact n b h6 ⟨j, u, x, q2, q3, h5⟩
      · exact e.dis j k u u' x x' b hne q2 q3 q5 q6 h5 h6
  · rintro b ⟨j, u, x, h1, h2, h3⟩
    rcases one j u x h1 h2 with ⟨rfl, rfl, rfl⟩ | ⟨q1, q2, q3⟩
    · exact .inr h3
    · exact .inl ⟨j, u, x, q2, q3, h3⟩
/-- an owned object is changed in place -/
theorem RepEnv.mut {i : Nat} {a : Addr} {w0 w : Val} {o : HO} (e : RepEnv K S H σ env) (h0 : rd env i = some w0) (hs : slotV σ i = some (.ref a)) (hr : ∀ b, Root H (.ref a) w0 b ↔ b = a)
    (r : RepV K S (upd H a o) (.ref a) w) (hw : ∀ b, Root (upd H a o) (.ref a) w b → b = a) :
    Pst K S H σ env S (upd H a o) (env.set i (some w)) := by
  have hi := rd_some h0
  have hσ : i < σ.length := by rw [e.len]; exact hi
  obtain ⟨v0, g1, g2⟩ := e.get i w0 h0
  rw [hs] at g1; cases g1
  obtain ⟨fr, _⟩ := root_free g2 ((hr a).mpr rfl)
  have sm : Same S (upd H a o) := fun b u q => by
    have : b ≠ a := fun z => by rw [z, fr] at q; cases q
    rw [upd_ne this]; exact e.same b u q
  have st : Step (fun b => b = a) S H S (upd H a o) := ⟨Same.refl _, sm, fun b u q n => by rw [upd_ne n]; exact q, fun b q => .inl q, fun b q => by
    by_cases z : b = a
    · rw [z, upd_same]; simp
    · rw [upd_ne z]; exact q⟩
  have oth : ∀ j u x, j ≠ i → rd env j = some u → slotV σ j = some x → RepV K S (upd H a o) x u ∧ (∀ b, Root (upd H a o) x u b ↔ Root H x u b) ∧ ∀ b, Root H x u b → b ≠ a := fun j u x hne h1 h2 => by
    obtain ⟨x', q1, q2⟩ := e.get j u h1
    rw [h2] at q1; cases q1
    have nr : ∀ b, Root H x u b → ¬ (b = a) := fun b hb z => e.dis j i u w0 x _ b hne h1 h2 h0 hs hb ((hr b).mpr z)
    obtain ⟨k1, k2⟩ := repV_keep q2 st nr
    exact ⟨k1, k2, nr⟩
  have one : ∀ j u x, rd (env.set i (some w)) j = some u → slotV σ j = some x → (j = i ∧ u = w ∧ x = .ref a) ∨ (j ≠ i ∧ rd env j = some u) := fun j u x h1 h2 => by
    rw [rd_set] at h1
    by_cases hj : i = j
    · subst hj
      rw [if_pos ⟨rfl, hi⟩] at h1
      cases h1
      rw [hs] at h2; cases h2
      exact .inl ⟨rfl, rfl, rfl⟩
    · rw [if_neg (by omega)] at h1
      exact .inr ⟨Ne.symm hj, h1⟩
  refine ⟨st.mono fun b hb => ⟨i, w0, _, h0, hs, (hr b).mpr hb⟩, ⟨sm, by simpa using e.len, fun j u h => ?_, fun j k u u' x x' b hne h1 h2 h3 h4 h5 h6 => ?_⟩, ?_, by simp⟩
  · rw [rd_set] at h
    by_cases hj : i = j
    · subst hj
      rw [if_pos ⟨rfl, hi⟩] at h
      cases h
      exact ⟨_, hs, r⟩
    · rw [if_neg (by omega)] at h
      obtain ⟨x, q1, q2⟩ := e.get j u h
      exact ⟨x, q1, (oth j u x (Ne.symm hj) h q1).1⟩
  · rcases one j u x h1 h2 with ⟨rfl, rfl, rfl⟩ | ⟨q1, q2⟩
    · rcases one k u' x' h3 h4 with ⟨rfl, rfl, rfl⟩ | ⟨q4, q5⟩
      · exact hne rfl
      · obtain ⟨_, z1, z2⟩ := oth k u' x' q4 q5 h4
        exact z2 b ((z1 b).mp h6) (hw b h5)
    · obtain ⟨_, y1, y2⟩ := oth j u x q1 q2 h2
      rcases one k u' x' h3 h4 with ⟨rfl, rfl, rfl⟩ | ⟨q4, q5⟩
      · exact y2 b ((y1 b).mp h5) (hw b h6)
      · obtain ⟨_, z1, z2⟩ := oth k u' x' q4 q5 h4
        exact e.dis j k u u' x x' b hne q2 h2 q5 h4 ((y1 b).mp h5) ((z1 b).mp h6)
  · rintro b ⟨j, u, x, h1, h2, h3⟩
    rcases one j u x h1 h2 with ⟨rfl, rfl, rfl⟩ | ⟨q1, q2⟩
    · exact .inl ⟨_, w0, _, h0, hs, (hr b).mpr (hw b h3)⟩
    · exact .inl ⟨j, u, x, q2, h2, ((oth j u x q1 q2 h2).2.1 b).mp h3⟩
theorem rd_wipe (env : Env) (i : Nat) : ∀ own : List Nat, rd (wipeE env own) i = if i ∈ own then none else rd env i
  | [] => by simp [wipeE]
  | j :: r => by
    rw [wipeE, rd_set, rd_wipe env i r]
    have hl : ∀ r : List Nat, (wipeE env r).length = env.length := fun r => by induction r with
      | nil => rfl
      | cons a r ih => rw [wipeE, List.length_set, ih]
    rw [hl]
    by_cases h : j = i
    · subst h
      by_cases hj : j < env.length
      · simp [hj]
      · have : rd env j = none := by
          cases q : rd env j with
          | none => rfl
          | some w => exact absurd (rd_some q) hj
        simp [hj, this]
    · have h' : ¬ i = j := fun z => h z.symm
      simp [h, h', List.mem_cons]
theorem wipeE_length (env : Env) : ∀ own : List Nat, (wipeE env own).length = env.length
  | [] => rfl
  | j :: r => by rw [wipeE, List.length_set, wipeE_length env r]
theorem slotV_wipe (σ : St) (i : Nat) : ∀ own : List Nat, slotV (wipe σ own) i = if i ∈ own then none else slotV σ i
  | [] => by simp [wipe]
  | j :: r => by
    rw [wipe, slotV_set, slotV_wipe σ i r, wipe_length]
    by_cases h : j = i
    · subst h
      by_cases hj : j < σ.length
      · simp [hj]
      · have : slotV σ j = none := by
          unfold slotV
          rw [List.getElem?_eq_none (by omega)]; rfl
        simp [hj, this]
    · have h' : ¬ i = j := fun z => h z.symm
      simp [h, h', List.mem_cons]
theorem RepEnv.wipe (e : RepEnv K S H σ env) (own : List Nat) : RepEnv K S H (wipe σ own) (wipeE env own) ∧ ∀ b, Roots H (L2.wipe σ own) (wipeE env own) b → Roots H σ env b := by
  have one : ∀ j u x, rd (wipeE env own) j = some u → slotV (L2.wipe σ own) j = some x → rd env j = some u ∧ slotV σ j = some x := fun j u x h1 h2 => by
    rw [rd_wipe] at h1
    rw [slotV_wipe] at h2
    by_cases hj : j ∈ own
    · rw [if_pos hj] at h1; cases h1
    · rw [if_neg hj] at h1 h2
      exact ⟨h1, h2⟩
  refine ⟨⟨e.same, by rw [wipe_length, wipeE_length]; exact e.len, fun j u h => ?_, fun j k u u' x x' b hne h1 h2 h3 h4 h5 h6 => ?_⟩, ?_⟩
  · rw [rd_wipe] at h
    rw [slotV_wipe]
    by_cases hj : j ∈ own
    · rw [if_pos hj] at h; cases h
    · rw [if_neg hj] at h ⊢
      exact e.get j u h
  · obtain ⟨q1, q2⟩ := one j u x h1 h2
    obtain ⟨q3, q4⟩ := one k u' x' h3 h4
    exact e.dis j k u u' x x' b hne q1 q2 q3 q4 h5 h6
  · rintro b ⟨j, u, x, h1, h2, h3⟩
    obtain ⟨q1, q2⟩ := one j u x h1 h2
    exact ⟨j, u, x, q1, q2, h3⟩
theorem rd_back (env0 env : Env) (hl : env0.length = env.length) (i : Nat) : ∀ own : List Nat, rd (backOwn env0 env own) i = if i ∈ own then (match rd env0 i with | some (.d x) => some (.d x) | _ => none) else rd env i
  | [] => by simp [backOwn]
  | j :: r => by
    have hb : ∀ r : List Nat, (backOwn env0 env r).length = env.length := fun r => by induction r with
      | nil => rfl
      | cons a r ih => rw [backOwn, List.length_set, ih]
    rw [backOwn, rd_set, rd_back env0 env hl i r, hb]
    by_cases h : j = i
    · subst h
      by_cases hj : j < env.length
      · simp only [hj, and_self, if_true, List.mem_cons, true_or]
        all_goals (rcases rd env0 j with _ | (_ | _ | _ | _ | _) <;> rfl)
      · have : rd env0 j = none := by
          cases q : rd env0 j with
          | none => rfl
          | some w => exact absurd (rd_some q) (by omega)
        have h2 : rd env j = none := by
          cases q : rd env j with
          | none => rfl
          | some w => exact absurd (rd_some q) hj
        simp [hj, this, h2]
    · have h' : ¬ i = j := fun z => h z.symm
      simp [h, h', List.mem_cons]
theorem backOwn_length (env0 env : Env) : ∀ own : List Nat, (backOwn env0 env own).length = env.length
  | [] => rfl
  | j :: r => by rw [backOwn, List.length_set, backOwn_length env0 env r]
/-- behind a comprehension's block -/
theorem RepEnv.back (own : List Nat) (e0 : RepEnv K S1 H1 σ env1) (s : Same S1 S2) (e : RepEnv K S2 H2 (L2.wipe σ own) env2) : RepEnv K S2 H2 σ (backOwn env1 env2 own) ∧ ∀ b, Roots H2 σ (backOwn env1 env2 own) b → Roots H2 (L2.wipe σ own) env2 b := by
  have hl : env1.length = env2.length := by rw [← e0.len, ← e.len, wipe_length]
  have one : ∀ j u x, rd (backOwn env1 env2 own) j = some u → slotV σ j = some x → (∃ z, u = .d z ∧ rd env1 j = some u) ∨ (rd env2 j = some u ∧ slotV (L2.wipe σ own) j = some x) := fun j u x h1 h2 => by
    rw [rd_back _ _ hl] at h1
    rw [slotV_wipe]
    by_cases hj : j ∈ own
    · rw [if_pos hj] at h1
      split at h1
      · rename_i z hz
        cases h1
        exact .inl ⟨z, rfl, hz⟩
      · cases h1
    · rw [if_neg hj] at h1 ⊢
      exact .inr ⟨h1, h2⟩
  refine ⟨⟨e.same, by rw [backOwn_length, e0.len, hl], fun j u h => ?_, fun j k u u' x x' b hne h1 h2 h3 h4 h5 h6 => ?_⟩, ?_⟩
  · have h' := h
    rw [rd_back _ _ hl] at h
    by_cases hj : j ∈ own
    · rw [if_pos hj] at h
      split at h
      · rename_i z hz
        cases h
        obtain ⟨x, q1, q2⟩ := e0.get j _ hz
        exact ⟨x, q1, dpMono s q2⟩
      · cases h
    · rw [if_neg hj] at h
      obtain ⟨x, q1, q2⟩ := e.get j u h
      rw [slotV_wipe, if_neg hj] at q1
      exact ⟨x, q1, q2⟩
  · rcases one j u x h1 h2 with ⟨z, rfl, _⟩ | ⟨q1, q2⟩
    · exact h5.elim
    · rcases one k u' x' h3 h4 with ⟨z, rfl, _⟩ | ⟨q3, q4⟩
      · exact h6.elim
      · exact e.dis j k u u' x x' b hne q1 q2 q3 q4 h5 h6
  · rintro b ⟨j, u, x, h1, h2, h3⟩
    rcases one j u x h1 h2 with ⟨z, rfl, _⟩ | ⟨q1, q2⟩
    · exact h3.elim
    · exact ⟨j, u, x, q1, q2, h3⟩
end Ev

namespace Ev
open PySem L2

/-! ### forms of expressions -/
def simpleE : Expr → Bool
  | .Name .. => true
  | .Constant .. => true
  | .BinOp .. => true
  | .UnaryOp .. => true
  | .BoolOp .. => true
  | .Compare .. => true
  | .Call .. => true
  | .Subscript .. => true
  | .List .. => true
  | .Tuple .. => true
  | .IfExp .. => true
  | .Attribute .. => true
  | _ => false
def isLC : Expr → Bool
  | .ListComp .. => true
  | _ => false
def fineE (e : Expr) : Bool := simpleE e || isLC e
theorem star_fine {e : Expr} {es : List Expr} {env : PySem.Env} (h : fineE e = true) : starEach (e :: es) env = (false, eval e env) :: starEach es env := by
  cases e <;> first | rfl | (simp [fineE, simpleE, isLC] at h)
theorem noswap {e : Expr} {t : Option Expr} {l : Nat} {env : PySem.Env} (h : simpleE e = true) : swapsWith e t l env = pure false := by
  cases e <;> first | rfl | (simp [simpleE] at h)
theorem plainIx {e : Expr} (h : fineE e = true) : PlainIx e := by
  intro o i
  cases e <;> first | rfl | (simp [fineE, simpleE, isLC] at h)
theorem nofold {e : Expr} {env : PySem.Env} (h : fineE e = true) : ∀ x, foldedSetIterable e env x = pure x := by
  intro x
  cases e <;> first | rfl | (simp [fineE, simpleE, isLC] at h)
theorem nomarkE {e : Expr} {op : CmpOp} (h : fineE e = true) : behindInMarks op e = false := by
  cases e <;> first | rfl | (simp [fineE, simpleE, isLC] at h)

/-! ### what an operation hands back -/
structure Gr (S H S' H' : Hp) : Prop where
  st : Same S S'
  same : Same S' H'
  hh : Same H H'
  nw : ∀ b, S' b ≠ none → S b ≠ none ∨ H b = none
def RB (K : PySem.W.Frag) (S H : Hp) (w : Val) (Q : VK) : Prop := ∀ v S' H', Gr S H S' H' → RepV K S' H' v w → (∀ b, Root H' v w b → H b = none) → Q v H'
section
variable {K : PySem.W.Frag} {S S' S1 S2 H H' H1 H2 H0 S0 : Hp} {σ : St} {env env' env0 env1 env2 : Env} {Q : VK}
theorem Gr.refl (h : Same S H) : Gr S H S H := ⟨Same.refl _, h, Same.refl _, fun _ e => .inl e⟩
theorem Gr.trans (a : Gr S H S1 H1) (b : Gr S1 H1 S2 H2) : Gr S H S2 H2 := ⟨a.st.trans b.st, b.same, a.hh.trans b.hh, fun c e => by
  rcases b.nw c e with h | h
  · exact a.nw c h
  · exact .inr (a.hh.free h)⟩
theorem upd_same_of {p : Addr} {o : HO} (hp : H p = none) : Same H (upd H p o) := fun b u e => by
  rw [upd_ne (ne_of_none e hp)]; exact e
theorem Gr.newS {p : Addr} {o : HO} (h : Same S H) (hp : H p = none) : Gr S H (upd S p o) (upd H p o) := by
  have hs : S p = none := h.free hp
  refine ⟨upd_same_of hs, fun b u e => ?_, upd_same_of hp, fun b e => ?_⟩
  · by_cases q : b = p
    · subst q; rw [upd_same] at e ⊢; exact e
    · rw [upd_ne q] at e ⊢; exact h b u e
  · by_cases q : b = p
    · subst q; exact .inr hp
    · rw [upd_ne q] at e; exact .inl e
theorem Gr.newH {p : Addr} {o : HO} (h : Same S H) (hp : H p = none) : Gr S H S (upd H p o) :=
  ⟨Same.refl _, h.trans (upd_same_of hp), upd_same_of hp, fun _ e => .inl e⟩
theorem Gr.step {R : Addr → Prop} (g : Gr S H S' H') : Step R S H S' H' := Step.grow g.st g.same g.hh g.nw
theorem RB.dat {v : V} {x : D} (q : RB K S H (.d x) Q) (h : Same S H) (r : Rp K S v x) : Q v H := q v S H (Gr.refl h) r fun _ z => z.elim
theorem RB.tup {vs : List V} {xs : List D} {p : Addr} (q : RB K S H (.d (.tuple xs)) Q) (h : Same S H) (r : Rps K S vs xs) (hp : H p = none) : Q (.ref p) (upd H p (.tup vs)) := by
  refine q _ _ _ (Gr.newS h hp) (.tup (SqT.of upd_same) (dpsMono (Gr.newS h hp).st r)) fun _ z => z.elim
theorem RB.lst {vs : List V} {xs : List D} {p : Addr} (q : RB K S H (.own xs) Q) (h : Same S H) (r : Rps K S vs xs) (hp : H p = none) : Q (.ref p) (upd H p (.lst vs)) := by
  refine q _ _ _ (Gr.newH h hp) ⟨p, vs, rfl, h.free hp, upd_same, r⟩ fun b z => ?_
  cases z
  exact hp
theorem psv_gr {v : V} {w : Val} (p : Pst K S0 H0 σ env0 S H env) (g : Gr S H S' H') (r : RepV K S' H' v w) (n : ∀ b, Root H' v w b → H b = none) : Psv K S0 H0 σ env0 S' H' env v (.v w) := by
  obtain ⟨k1, k2⟩ := p.rep.grow g.st g.same g.hh g.nw
  refine ⟨⟨p.step.trans (g.step (R := fun _ => False)) fun _ z => z.elim, k1, fun b hb => p.sub b ((k2 b).mp hb), p.slots⟩, ⟨r, fun b hb hr => ?_⟩, fun w' e b hb => ?_⟩
  · obtain ⟨_, o, e⟩ := Roots.free p.rep ((k2 b).mp hr)
    rw [n b hb] at e; cases e
  · cases e
    cases q : H0 b with
    | none => rfl
    | some o => exact absurd (n b hb) (p.step.dm b (by rw [q]; simp))
end

/-! ### operations -/
section
variable {X : Cx}
theorem OpR.imp {f : Value → Value → Sem Value} {r r' : R2} (h : OpR X f r) (k : ∀ x y H Q, r' x y H Q → r x y H Q) : OpR X f r' :=
  fun pins s σ H x y v u Q I rx ry q => h pins s σ H x y v u Q I rx ry (k x y H Q q)
def bopO : BOp → Operator
  | .add => .Add
  | .sub => .Sub
  | .mul => .Mult
  | .fdiv => .FloorDiv
  | .md => .Mod
  | .pow => .Pow
def rBin (K : PySem.W.Frag) (op : BOp) : R2 := fun x y H Q => ∃ S dx dy w, Same S H ∧ RepC K S H x dx ∧ RepC K S H y dy ∧ binD op dx dy = some w ∧ RB K S H w Q
theorem r_bin (op : BOp) : OpR X (binaryOp (bopO op)) (rBin X.K op) := by
  cases op with
  | add =>
    refine OpR.imp (OpR.or op_add (OpR.or op_add_str (OpR.or op_cat op_catA))) fun x y H Q h => ?_
    obtain ⟨S, dx, dy, w, hs, hx, hy, e, k⟩ := h
    cases dx <;> cases dy <;> simp only [binD, Option.some.injEq, reduceCtorEq, Option.ite_none_right_eq_some] at e
    · subst e
      exact .inl ⟨_, _, hx.int, hy.int, k.dat hs (.int _)⟩
    · obtain ⟨e1, e2⟩ := e
      subst e2
      exact .inr (.inl ⟨_, _, hx.str, hy.str, e1, k.dat hs (.str _)⟩)
    · obtain ⟨e1, e2⟩ := e
      subst e2
      obtain ⟨a, vs, q1, q2, q3⟩ := hx.list hs
      obtain ⟨b, ws, q4, q5, q6⟩ := hy.list hs
      exact .inr (.inr (.inl ⟨a, b, vs, ws, q1, q4, q2, q5, by rw [dps_len q3, dps_len q6]; exact e1, fun p hp => k.lst hs (dps_app q3 q6) hp⟩))
    · obtain ⟨e1, e2⟩ := e
      subst e2
      obtain ⟨a, vs, q1, q2, q3⟩ := hx.tuple
      obtain ⟨b, ws, q4, q5, q6⟩ := hy.tuple
      refine .inr (.inr (.inr ⟨a, b, vs, ws, q1, q4, sameT hs q2, sameT hs q5, by rw [dps_len q3, dps_len q6]; exact e1, fun z => ?_, fun z1 z2 => ?_, fun _ _ p hp => k.tup hs (dps_app q3 q6) hp⟩))
      · subst z
        cases q3
        exact k.dat hs (.tup q5 q6)
      · subst z2
        cases q6
        rw [List.append_nil] at k
        exact k.dat hs (.tup q2 q3)
  | sub =>
    refine OpR.imp op_sub fun x y H Q h => ?_
    obtain ⟨S, dx, dy, w, hs, hx, hy, e, k⟩ := h
    cases dx <;> cases dy <;> simp only [binD, Option.some.injEq, reduceCtorEq, Option.ite_none_right_eq_some] at e
    subst e
    exact ⟨_, _, hx.int, hy.int, k.dat hs (.int _)⟩
  | mul =>
    refine OpR.imp op_mulW fun x y H Q h => ?_
    obtain ⟨S, dx, dy, w, hs, hx, hy, e, k⟩ := h
    cases dx <;> cases dy <;> simp only [binD, Option.some.injEq, reduceCtorEq, Option.ite_none_right_eq_some] at e
    obtain ⟨e1, e2⟩ := e
    subst e2
    exact ⟨_, _, hx.int, hy.int, e1, k.dat hs (.int _)⟩
  | fdiv =>
    refine OpR.imp op_fdivW fun x y H Q h => ?_
    obtain ⟨S, dx, dy, w, hs, hx, hy, e, k⟩ := h
    cases dx <;> cases dy <;> simp only [binD, Option.some.injEq, reduceCtorEq, Option.ite_none_right_eq_some] at e
    obtain ⟨e1, e2⟩ := e
    subst e2
    exact ⟨_, _, hx.int, hy.int, e1, k.dat hs (.int _)⟩
  | md =>
    refine OpR.imp op_mod fun x y H Q h => ?_
    obtain ⟨S, dx, dy, w, hs, hx, hy, e, k⟩ := h
    cases dx <;> cases dy <;> simp only [binD, Option.some.injEq, reduceCtorEq, Option.ite_none_right_eq_some] at e
    obtain ⟨e1, e2⟩ := e
    subst e2
    exact ⟨_, _, hx.int, hy.int, e1, k.dat hs (.int _)⟩
  | pow =>
    refine OpR.imp op_pow fun x y H Q h => ?_
    obtain ⟨S, dx, dy, w, hs, hx, hy, e, k⟩ := h
    cases dx <;> cases dy <;> simp only [binD, Option.some.injEq, reduceCtorEq, Option.ite_none_right_eq_some] at e
    obtain ⟨e1, e2⟩ := e
    subst e2
    exact ⟨_, _, hx.int, hy.int, e1, k.dat hs (.int _)⟩

def copO : COp → CmpOp
  | .lt => .Lt
  | .le => .LtE
  | .gt => .Gt
  | .ge => .GtE
  | .eq => .Eq
  | .ne => .NotEq
  | .mem => .In
  | .nmem => .NotIn
  | .isN => .Is
  | .notN => .IsNot
def rCmp (K : PySem.W.Frag) (op : COp) : R2 := fun x y H Q => ∃ S dx dy c, Same S H ∧ RepC K S H x dx ∧ RepC K S H y dy ∧ cmpD op dx dy = some c ∧ Q (.bl c) H
theorem okD_p {x : D} (h : okD x = true) : x.plain = true ∧ x.depth ≤ 60 := by
  unfold okD at h
  rw [Bool.and_eq_true] at h
  exact ⟨h.1, of_decide_eq_true h.2⟩
theorem reads_of {pins : List (Addr × Obj)} {s : Shared} {σ : St} {H S : Hp} {v : V} {u : Value} {x : D} (I : Inv X pins σ H s) (hs : Same S H) (r : RepC X.K S H v x) (rv : RelV v u) : ∃ as, PySem.Reads s.heap u x as :=
  Dp.reads I x v u (rp_dp (r.dp hs)) rv
/-- comparisons over any data -/
def rEqD (K : PySem.W.Frag) (neg : Bool) : R2 := fun x y H Q => ∃ S dx dy, Same S H ∧ RepC K S H x dx ∧ RepC K S H y dy ∧ okD dx = true ∧ okD dy = true ∧ Q (.bl (if neg then !dx.eqv dy else dx.eqv dy)) H
theorem op_eqA (hu : X.A.units + 64 < cLine) : OpR X (compareOp .Eq) (rEqD X.K false) := by
  intro pins s σ H x y v u Q I rx ry h
  obtain ⟨S, dx, dy, hs, hx, hy, ox, oy, q⟩ := h
  obtain ⟨as, r1⟩ := reads_of I hs hx rx
  obtain ⟨bs, r2⟩ := reads_of I hs hy ry
  have := (okD_p ox).2
  exact SeqAt.eq_plain r1 r2 (okD_p ox).1 (okD_p oy).1 (by omega) ⟨.bl _, H, I, rfl, q⟩
theorem op_neA (hu : X.A.units + 64 < cLine) : OpR X (compareOp .NotEq) (rEqD X.K true) := by
  intro pins s σ H x y v u Q I rx ry h
  obtain ⟨S, dx, dy, hs, hx, hy, ox, oy, q⟩ := h
  obtain ⟨as, r1⟩ := reads_of I hs hx rx
  obtain ⟨bs, r2⟩ := reads_of I hs hy ry
  have := (okD_p ox).2
  exact SeqAt.ne_plain r1 r2 (okD_p ox).1 (okD_p oy).1 (by omega) ⟨.bl _, H, I, rfl, q⟩
def rOrdD (K : PySem.W.Frag) (g : D → D → Bool) : R2 := fun x y H Q => ∃ S dx dy, Same S H ∧ RepC K S H x dx ∧ RepC K S H y dy ∧ cmpOk dx dy = true ∧ Q (.bl (g dx dy)) H
theorem cmpOk_p {x y : D} (h : cmpOk x y = true) : W.alike x y = true ∧ x ≠ .none ∧ x.depth ≤ 60 := by
  unfold cmpOk at h
  simp only [Bool.and_eq_true, decide_eq_true_eq] at h
  obtain ⟨⟨h1, h2⟩, h3⟩ := h
  exact ⟨h1, fun e => by subst e; simp [isNon] at h2, h3⟩
theorem op_ordA {op : CmpOp} {g : D → D → Bool} (hu : X.A.units + 64 < cLine)
    (rule : ∀ (s : Shared) (a b : Value) (da db : D) (as bs : List Addr) (Q : Value → Shared → Prop), PySem.Reads s.heap a da as → PySem.Reads s.heap b db bs → W.alike da db = true → da ≠ .none → X.A.units + min da.depth db.depth < cLine → Q (.bool (g da db)) s → wpAny (model X.prog X.w) X.A (compareOp op a b) Q X.xe s) :
    OpR X (compareOp op) (rOrdD X.K g) := by
  intro pins s σ H x y v u Q I rx ry h
  obtain ⟨S, dx, dy, hs, hx, hy, ok, q⟩ := h
  obtain ⟨as, r1⟩ := reads_of I hs hx rx
  obtain ⟨bs, r2⟩ := reads_of I hs hy ry
  obtain ⟨k1, k2, k3⟩ := cmpOk_p ok
  exact rule s v u dx dy as bs _ r1 r2 k1 k2 (by omega) ⟨.bl _, H, I, rfl, q⟩
end
end Ev

namespace Ev
open PySem L2
section
variable {X : Cx}
theorem op_memA (hu : X.A.units + 66 < cLine) : OpR X (compareOp .In) (fun x y H Q => ∃ S dx dy c, Same S H ∧ RepC X.K S H x dx ∧ RepC X.K S H y dy ∧ memD dx dy = some c ∧ Q (.bl c) H) := by
  intro pins s σ H x y v u Q I rx ry h
  obtain ⟨S, dx, dy, c, hs, hx, hy, e, q⟩ := h
  obtain ⟨as, r1⟩ := reads_of I hs hx rx
  obtain ⟨bs, r2⟩ := reads_of I hs hy ry
  cases dy with
  | list ys =>
    simp only [memD, Option.ite_none_right_eq_some, Bool.and_eq_true, Option.some.injEq] at e
    obtain ⟨⟨e1, e2⟩, e3⟩ := e
    subst e3
    obtain ⟨p1, p2⟩ := okD_p e1
    obtain ⟨p3, p4⟩ := okD_p e2
    simp only [PyData.plain] at p3
    exact SeqAt.in_list_data r2 r1 p3 p1 (by have := Nat.min_le_right (PyData.depthAll ys) dx.depth; omega) ⟨.bl _, H, I, rfl, q⟩
  | tuple ys =>
    simp only [memD, Option.ite_none_right_eq_some, Bool.and_eq_true, Option.some.injEq] at e
    obtain ⟨⟨e1, e2⟩, e3⟩ := e
    subst e3
    obtain ⟨p1, p2⟩ := okD_p e1
    obtain ⟨p3, p4⟩ := okD_p e2
    simp only [PyData.plain] at p3
    exact SeqAt.in_tuple_data r2 r1 p3 p1 (by have := Nat.min_le_right (PyData.depthAll ys) dx.depth; omega) ⟨.bl _, H, I, rfl, q⟩
  | str z =>
    cases dx <;> simp only [memD, reduceCtorEq, Option.some.injEq] at e
    subst e
    exact op_in_str pins s σ H x y v u Q I rx ry ⟨_, _, hx.str, hy.str, q⟩
  | _ => simp [memD] at e
theorem op_nmemA (hu : X.A.units + 66 < cLine) : OpR X (compareOp .NotIn) (fun x y H Q => ∃ S dx dy c, Same S H ∧ RepC X.K S H x dx ∧ RepC X.K S H y dy ∧ memD dx dy = some c ∧ Q (.bl (!c)) H) := by
  intro pins s σ H x y v u Q I rx ry h
  obtain ⟨S, dx, dy, c, hs, hx, hy, e, q⟩ := h
  obtain ⟨as, r1⟩ := reads_of I hs hx rx
  obtain ⟨bs, r2⟩ := reads_of I hs hy ry
  cases dy with
  | list ys =>
    simp only [memD, Option.ite_none_right_eq_some, Bool.and_eq_true, Option.some.injEq] at e
    obtain ⟨⟨e1, e2⟩, e3⟩ := e
    subst e3
    obtain ⟨p1, p2⟩ := okD_p e1
    obtain ⟨p3, p4⟩ := okD_p e2
    simp only [PyData.plain] at p3
    exact SeqAt.notIn_list_data r2 r1 p3 p1 (by have := Nat.min_le_right (PyData.depthAll ys) dx.depth; omega) ⟨.bl _, H, I, rfl, q⟩
  | tuple ys =>
    simp only [memD, Option.ite_none_right_eq_some, Bool.and_eq_true, Option.some.injEq] at e
    obtain ⟨⟨e1, e2⟩, e3⟩ := e
    subst e3
    obtain ⟨p1, p2⟩ := okD_p e1
    obtain ⟨p3, p4⟩ := okD_p e2
    simp only [PyData.plain] at p3
    exact SeqAt.notIn_tuple_data r2 r1 p3 p1 (by have := Nat.min_le_right (PyData.depthAll ys) dx.depth; omega) ⟨.bl _, H, I, rfl, q⟩
  | str z =>
    cases dx <;> simp only [memD, reduceCtorEq, Option.some.injEq] at e
    subst e
    exact op_notin_str pins s σ H x y v u Q I rx ry ⟨_, _, hx.str, hy.str, q⟩
  | _ => simp [memD] at e
theorem isNon_rep {K : PySem.W.Frag} {S H : Hp} {x : V} {dx : D} (h : RepC K S H x dx) : decide (x = .non) = isNon dx := by
  rcases h with h | ⟨a, vs, xs, rfl, rfl, _, _⟩
  · cases h <;> rfl
  · rfl
theorem r_cmp (op : COp) (hu : X.A.units + 66 < cLine) : OpR X (compareOp (copO op)) (rCmp X.K op) := by
  have big : ∀ {op : CmpOp} {g : D → D → Bool} {pI : Int → Int → Bool} (cop : COp)
      (r1 : OpR X (compareOp op) (rI0 fun i j => .bl (pI i j))) (r2 : OpR X (compareOp op) (rOrdD X.K g))
      (hc : ∀ x y, cmpD cop x y = match x, y with | .int i, .int j => some (pI i j) | x, y => if cmpOk x y then some (g x y) else none), OpR X (compareOp op) (rCmp X.K cop) := by
    intro op g pI cop r1 r2 hc
    refine OpR.imp (OpR.or r1 r2) fun x y H Q h => ?_
    obtain ⟨S, dx, dy, c, hs, hx, hy, e, q⟩ := h
    rw [hc] at e
    split at e
    · cases e
      exact .inl ⟨_, _, hx.int, hy.int, q⟩
    · simp only [Option.ite_none_right_eq_some, Option.some.injEq] at e
      obtain ⟨e1, e2⟩ := e
      subst e2
      exact .inr ⟨S, _, _, hs, hx, hy, e1, q⟩
  cases op with
  | lt => exact big .lt op_lt (op_ordA (by omega) fun s a b da db as bs Q h1 h2 h3 h4 h5 h6 => W.lt_data h1 h2 h3 h4 h5 h6) fun x y => by cases x <;> cases y <;> rfl
  | le => exact big .le op_le (op_ordA (by omega) fun s a b da db as bs Q h1 h2 h3 h4 h5 h6 => W.le_data h1 h2 h3 h4 h5 h6) fun x y => by cases x <;> cases y <;> rfl
  | gt => exact big .gt op_gt (op_ordA (by omega) fun s a b da db as bs Q h1 h2 h3 h4 h5 h6 => W.gt_data h1 h2 h3 h4 h5 h6) fun x y => by cases x <;> cases y <;> rfl
  | ge => exact big .ge op_ge (op_ordA (by omega) fun s a b da db as bs Q h1 h2 h3 h4 h5 h6 => W.ge_data h1 h2 h3 h4 h5 h6) fun x y => by cases x <;> cases y <;> rfl
  | eq =>
    refine OpR.imp (op_eqA (by omega)) fun x y H Q h => ?_
    obtain ⟨S, dx, dy, c, hs, hx, hy, e, q⟩ := h
    simp only [cmpD, Option.ite_none_right_eq_some, Bool.and_eq_true, Option.some.injEq] at e
    obtain ⟨⟨e1, e2⟩, e3⟩ := e
    subst e3
    exact ⟨S, dx, dy, hs, hx, hy, e1, e2, q⟩
  | ne =>
    refine OpR.imp (op_neA (by omega)) fun x y H Q h => ?_
    obtain ⟨S, dx, dy, c, hs, hx, hy, e, q⟩ := h
    simp only [cmpD, Option.ite_none_right_eq_some, Bool.and_eq_true, Option.some.injEq] at e
    obtain ⟨⟨e1, e2⟩, e3⟩ := e
    subst e3
    exact ⟨S, dx, dy, hs, hx, hy, e1, e2, q⟩
  | mem => exact OpR.imp (op_memA hu) fun x y H Q h => h
  | nmem =>
    refine OpR.imp (op_nmemA hu) fun x y H Q h => ?_
    obtain ⟨S, dx, dy, c, hs, hx, hy, e, q⟩ := h
    simp only [cmpD, Option.map_eq_some_iff] at e
    obtain ⟨k, e1, e2⟩ := e
    subst e2
    exact ⟨S, dx, dy, k, hs, hx, hy, e1, q⟩
  | isN =>
    refine OpR.imp op_isN fun x y H Q h => ?_
    obtain ⟨S, dx, dy, c, hs, hx, hy, e, q⟩ := h
    cases dy <;> simp only [cmpD, reduceCtorEq, Option.some.injEq] at e
    subst e
    exact ⟨hy.none, by rw [isNon_rep hx]; exact q⟩
  | notN =>
    refine OpR.imp op_notN fun x y H Q h => ?_
    obtain ⟨S, dx, dy, c, hs, hx, hy, e, q⟩ := h
    cases dy <;> simp only [cmpD, reduceCtorEq, Option.some.injEq] at e
    subst e
    exact ⟨hy.none, by rw [isNon_rep hx]; exact q⟩
/-- truth -/
theorem tru_rep {K : PySem.W.Frag} {S H : Hp} {x : V} {dx : D} {k : Bool} (hs : Same S H) (h : RepC K S H x dx) (e : truD dx = some k) : TruV K x H k := by
  cases dx with
  | none => rw [h.none]; simpa [truD, TruV] using e.symm
  | bool b => rw [h.bool]; simpa [truD, TruV] using e.symm
  | int i => rw [h.int]; simpa [truD, TruV] using e.symm
  | str z =>
    rw [h.str]
    simp only [truD, Option.ite_none_right_eq_some, Option.some.injEq] at e
    exact ⟨e.1, e.2.symm⟩
  | list xs =>
    obtain ⟨a, vs, rfl, h1, h2⟩ := h.list hs
    have el := dps_len h2
    have e : (!xs.isEmpty) = k := by simpa [truD] using e
    refine .inl ⟨vs, SqL.of h1, ?_⟩
    rw [← e]
    cases vs <;> cases xs <;> simp_all
  | tuple xs =>
    obtain ⟨a, vs, rfl, h1, h2⟩ := h.tuple
    have el := dps_len h2
    have e : (!xs.isEmpty) = k := by simpa [truD] using e
    refine .inr (.inl ⟨vs, sameT hs h1, ?_⟩)
    rw [← e]
    cases vs <;> cases xs <;> simp_all
  | dict _ => simp [truD] at e
/-- subscripts -/
theorem atI_rps {K : PySem.W.Frag} {S : Hp} {vs : List V} {xs : List D} {i : Int} {x : D} (h : Rps K S vs xs) (e : atI xs i = some x) : ∃ v, atI vs i = some v ∧ Rp K S v x := by
  unfold atI at e ⊢
  rw [dps_len h]
  cases q : ixN xs.length i with
  | none => rw [q] at e; cases e
  | some j =>
    rw [q] at e
    obtain ⟨v, h1, h2⟩ := dps_at h (show xs[j]? = some x from e)
    exact ⟨v, h1, h2⟩
def rIdx (K : PySem.W.Frag) : R2 := fun x y H Q => ∃ S dx dy z, Same S H ∧ RepC K S H x dx ∧ RepC K S H y dy ∧ idxD dx dy = some z ∧ RB K S H (.d z) Q
theorem IxR.imp {r r' : R2} (h : IxR X r) (k : ∀ x y H Q, r' x y H Q → r x y H Q) : IxR X r' :=
  fun v sl pins s σ H x y u w Q I rx ry q => h v sl pins s σ H x y u w Q I rx ry (k x y H Q q)
theorem r_idx : IxR X (rIdx X.K) := by
  refine IxR.imp ix_seq fun x y H Q h => ?_
  obtain ⟨S, dx, dy, z, hs, hx, hy, e, k⟩ := h
  cases dx <;> cases dy <;> simp only [idxD, reduceCtorEq] at e
  · obtain ⟨e1, e2⟩ := (Option.ite_none_right_eq_some ..).mp e
    obtain ⟨c, e3, e4⟩ := Option.map_eq_some_iff.mp e2
    subst e4
    exact .inr (.inr ⟨_, _, c, hx.str, hy.int, e1, e3, k.dat hs (.str _)⟩)
  · obtain ⟨a, vs, h0, h1, h2⟩ := hx.list hs
    obtain ⟨v, q1, q2⟩ := atI_rps h2 e
    exact .inl ⟨a, vs, _, v, h0, hy.int, SqL.of h1, q1, k.dat hs q2⟩
  · obtain ⟨a, vs, h0, h1, h2⟩ := hx.tuple
    obtain ⟨v, q1, q2⟩ := atI_rps h2 e
    exact .inr (.inl ⟨a, vs, _, v, h0, hy.int, sameT hs h1, q1, k.dat hs q2⟩)
def rSli (K : PySem.W.Frag) : V → Option Int → Option Int → Hp → VK → Prop := fun x lo hi H Q => ∃ S dx w, Same S H ∧ RepC K S H x dx ∧ sliD dx lo hi = some w ∧ RB K S H w Q
theorem SlR.imp {r r' : V → Option Int → Option Int → Hp → VK → Prop} (h : SlR X r) (k : ∀ x lo hi H Q, r' x lo hi H Q → r x lo hi H Q) : SlR X r' :=
  fun pins s σ H x v vl vu lo hi sl Q I rx hs pl pu q => h pins s σ H x v vl vu lo hi sl Q I rx hs pl pu (k x lo hi H Q q)
theorem sIx_whole {n : Nat} {lo hi : Option Int} {α : Type} {xs : List α} (hn : xs.length = n) (h : HT.sIx n 0 lo = 0 ∧ HT.sIx n n hi = n) : cut xs lo hi = xs := by
  unfold cut
  rw [hn, h.1, h.2, List.drop_zero, Nat.sub_zero, ← hn, List.take_length]
theorem r_sli : SlR X (rSli X.K) := by
  refine SlR.imp (SlR.or sl_list sl_tupA) fun x lo hi H Q h => ?_
  obtain ⟨S, dx, w, hs, hx, e, k⟩ := h
  cases dx <;> simp only [sliD, reduceCtorEq, Option.some.injEq] at e
  · subst e
    obtain ⟨a, vs, h0, h1, h2⟩ := hx.list hs
    exact .inl ⟨a, vs, h0, SqL.of h1, fun p hp => k.lst hs (dps_cut lo hi h2) hp⟩
  · subst e
    obtain ⟨a, vs, h0, h1, h2⟩ := hx.tuple
    refine .inr ⟨a, vs, h0, sameT hs h1, fun z => ?_, fun _ p hp => k.tup hs (dps_cut lo hi h2) hp⟩
    rw [sIx_whole (dps_len h2).symm z] at k
    rw [h0] at hx
    exact k.dat hs (.tup h1 h2)

/-! ### built-in functions -/
inductive RepCs (K : PySem.W.Frag) (S H : Hp) : List V → List D → Prop
  | nil : RepCs K S H [] []
  | cons {v : V} {x : D} {vs : List V} {xs : List D} : RepC K S H v x → RepCs K S H vs xs → RepCs K S H (v :: vs) (x :: xs)
theorem RepCs.one {K : PySem.W.Frag} {S H : Hp} {vs : List V} {x : D} (h : RepCs K S H vs [x]) : ∃ v, vs = [v] ∧ RepC K S H v x := by
  cases h with
  | cons h t => cases t; exact ⟨_, rfl, h⟩
theorem RepCs.two {K : PySem.W.Frag} {S H : Hp} {vs : List V} {x y : D} (h : RepCs K S H vs [x, y]) : ∃ v w, vs = [v, w] ∧ RepC K S H v x ∧ RepC K S H w y := by
  cases h with
  | cons h t =>
    obtain ⟨w, rfl, k⟩ := t.one
    exact ⟨_, _, rfl, h, k⟩
def rBi (K : PySem.W.Frag) (b : Bi) : List V → Hp → VK → Prop := fun vs H Q => ∃ S xs w, Same S H ∧ RepCs K S H vs xs ∧ biD b xs = some w ∧ RB K S H w Q
theorem CallR.imp {f : Value} {r r' : List V → Hp → VK → Prop} (h : CallR X f r) (k : ∀ vs H Q, r' vs H Q → r vs H Q) : CallR X f r' :=
  fun pins s σ H xs us Q I rs q => h pins s σ H xs us Q I rs (k xs H Q q)
theorem ints_rps {K : PySem.W.Frag} {S : Hp} : ∀ {vs : List V} {xs : List D} {ns : List Int}, Rps K S vs xs → intsOf xs = some ns → vs = ns.map V.int
  | _, _, _, .nil, e => by cases e; rfl
  | _, _, _, .cons h a, e => by
    cases h with
    | int i =>
      obtain ⟨m, e1, e2⟩ := Option.map_eq_some_iff.mp (show (intsOf _).map (i :: ·) = some _ from e)
      subst e2
      rw [ints_rps a e1]; rfl
    | _ => cases e
theorem bools_rps {K : PySem.W.Frag} {S : Hp} : ∀ {vs : List V} {xs : List D} {ns : List Bool}, Rps K S vs xs → boolsOf xs = some ns → vs = ns.map V.bl
  | _, _, _, .nil, e => by cases e; rfl
  | _, _, _, .cons h a, e => by
    cases h with
    | bl i =>
      obtain ⟨m, e1, e2⟩ := Option.map_eq_some_iff.mp (show (boolsOf _).map (i :: ·) = some _ from e)
      subst e2
      rw [bools_rps a e1]; rfl
    | _ => cases e
theorem alikeB_p {xs : List D} (h : alikeB xs = true) : (∀ x ∈ xs, ∀ y ∈ xs, W.alike x y = true) ∧ ∀ x ∈ xs, x.plain = true ∧ x.depth ≤ 60 := by
  unfold alikeB at h
  rw [List.all_eq_true] at h
  refine ⟨fun x hx y hy => ?_, fun x hx => ?_⟩
  · have := h x hx
    rw [Bool.and_eq_true, List.all_eq_true] at this
    exact this.1 y hy
  · have := h x hx
    rw [Bool.and_eq_true] at this
    exact okD_p this.2
theorem depthAll_le {n : Nat} : ∀ {xs : List D}, (∀ x ∈ xs, x.depth ≤ n) → PyData.depthAll xs ≤ n
  | [], _ => by simp [PyData.depthAll]
  | x :: xs, h => by
    rw [PyData.depthAll]
    exact Nat.max_le.mpr ⟨h x (by simp), depthAll_le fun y hy => h y (by simp [hy])⟩
theorem isNon_p {x : D} (h : (!isNon x) = true) : x ≠ .none := fun e => by subst e; simp [isNon] at h
theorem getD_of {xs : List D} {i : Nat} {v : D} (h : xs[i]? = some v) : v ∈ xs := List.mem_of_getElem? h
theorem best_run {K : PySem.W.Frag} {pins : List (Addr × Obj)} {s : Shared} {σ : St} {H S : Hp} {a : Addr} {vs : List V} {xs : List D} {best : D} {Q : VK} {b : String} (hK : X.K = K) (I : Inv X pins σ H s) (hs : Same S H) (h1 : H a = some (.lst vs)) (h2 : Rps X.K S vs xs) (hb : alikeB xs = true)
    (k : RB X.K S H (.d best) Q)
    (rule : ∀ (vs : Array Value) (as : List Addr), s.heap.IsList a vs → PySem.ReadsAll s.heap vs.toList xs as → (∀ (P : Value → Shared → Prop), (∀ (i : Nat) v h' tk bs, vs[i]? = some v → PySem.Reads h' v best bs → (∀ b o, s.heap.get? b = some o → h'.get? b = some o) → P v { s with heap := h', toks := tk }) → wpAny (model X.prog X.w) X.A (call (.builtin b) [.ref a]) P X.xe s)) :
    wpAny (model X.prog X.w) X.A (call (.builtin b) [.ref a]) (EP X pins σ Q) X.xe s := by
  obtain ⟨its, rv, pl, hz⟩ := I.list (SqL.of h1)
  obtain ⟨as, hr⟩ := Dp.readsAll I xs vs its (rps_dps (dpsMono hs h2)) rv
  refine rule its.toArray as pl.isList hr _ fun i v h' tk bs hi rb kp => ?_
  have hi' : its[i]? = some v := by simpa using hi
  have hil : i < its.length := (List.getElem?_eq_some_iff.mp hi').1
  have hvl : i < vs.length := by rw [rv.length]; exact hil
  have hvi : vs[i]? = some vs[i] := List.getElem?_eq_getElem hvl
  obtain ⟨u, q1, q2⟩ := rv.get hvi
  rw [hi'] at q1; cases q1
  obtain ⟨x, q3, q4⟩ := dps_get h2 hvi
  obtain ⟨cs, rx⟩ := Dp.reads I x _ v (rp_dp (dpMono hs q4)) q2
  have hp := ((alikeB_p hb).2 x (getD_of q3)).1
  have e : x = best := SeqAt.plain_unique x best v cs bs hp (PyProof.Rows.Reads.keeps kp rx) rb
  subst e
  exact ⟨_, H, I.kept kp, q2, k.dat hs q4⟩
end
end Ev

namespace Ev
open PySem L2
section
variable {X : Cx}
def biV : Bi → Value
  | .len => .builtin "len"
  | .abs => .builtin "abs"
  | .int => .type "int"
  | .min1 => .builtin "min"
  | .min2 => .builtin "min"
  | .max1 => .builtin "max"
  | .max2 => .builtin "max"
  | .sum => .builtin "sum"
  | .sorted => .builtin "sorted"
  | .list => .type "list"
  | .tuple => .type "tuple"
  | .any => .builtin "any"
  | .all => .builtin "all"
  | .repr => .builtin "repr"
theorem vals_of_each {K : PySem.W.Frag} {S : Hp} : ∀ {us : List Value} {ds : List D}, W.EachIs (fun (u : Value) (d : D) => ∃ v, RelV v u ∧ Rp K S v d) us ds → ∃ vs, Vals vs us ∧ Rps K S vs ds
  | _, _, .nil => ⟨[], .nil, .nil⟩
  | _, _, .cons ⟨v, h1, h2⟩ t => by
    obtain ⟨vs, k1, k2⟩ := vals_of_each t
    exact ⟨v :: vs, .cons h1 k1, .cons h2 k2⟩
theorem each_of_vals {K : PySem.W.Frag} {S : Hp} : ∀ {vs : List V} {us : List Value} {ds : List D}, Vals vs us → Rps K S vs ds → W.EachIs (fun (u : Value) (d : D) => ∃ v, RelV v u ∧ Rp K S v d) us ds
  | _, _, _, .nil, .nil => .nil
  | _, _, _, .cons h1 t1, .cons h2 t2 => .cons ⟨_, h1, h2⟩ (each_of_vals t1 t2)
theorem isTup1_p {x : D} (h : isTup1 x = true) : ∃ y r, x = .tuple (y :: r) := by
  cases x with
  | tuple xs =>
    cases xs with
    | nil => simp [isTup1] at h
    | cons y r => exact ⟨y, r, rfl⟩
  | _ => simp [isTup1] at h
theorem isOther_p {x : D} (h : isOther x = true) : x ≠ .none ∧ ∀ xs, x ≠ .tuple xs := by
  cases x <;> simp [isOther] at h ⊢
theorem r_sorted (hu : X.A.units + 66 < cLine) : CallR X (.builtin "sorted") (rBi X.K .sorted) := by
  intro pins s σ H xs us Q I rs h
  obtain ⟨S, ds, w, hs, hx, e, k⟩ := h
  change biSorted ds = some w at e; unfold biSorted at e
  split at e
  · rename_i ds
    obtain ⟨v, rfl, hv⟩ := hx.one
    obtain ⟨e1, e2⟩ := (Option.ite_none_right_eq_some ..).mp e
    cases e2
    obtain ⟨a, vs, rfl, h1, h2⟩ := hv.list hs
    rw [Vals.ref1 rs]
    obtain ⟨its, rv, pl, hz⟩ := I.list (SqL.of h1)
    unfold sortB at e1
    rw [Bool.and_eq_true, Bool.or_eq_true, List.all_eq_true, List.all_eq_true] at e1
    obtain ⟨b1, b2⟩ := e1
    obtain ⟨b3, b4⟩ := alikeB_p b1
    have er : W.EachIs (fun u (d : D) => ∃ as, PySem.Reads s.heap u (id d) as) its ds := by
      have := each_of_vals rv (dpsMono hs h2)
      exact this.mono fun u d ⟨v, q1, q2⟩ => Dp.reads I d v u (rp_dp q2) q1
    refine W.sorted_data (enc := id) pl.isList (each_of_vals rv h2) er (by rw [List.map_id]; exact fun d hd d' hd' => b3 d hd d' hd') (by
      rw [List.map_id]
      rcases b2 with b2 | b2
      · exact .inl fun d hd => isTup1_p (b2 d hd)
      · exact .inr fun d hd => isOther_p (b2 d hd)) (by rw [← dps_len h2]; exact hz) (fun d hd => by have := (b4 d hd).2; show X.A.units + 2 + d.depth < cLine; omega) fun out ho eo => ?_
    obtain ⟨ys, k1, k2⟩ := vals_of_each eo
    obtain ⟨ep, he'⟩ := PyProof.Rows.sortedAll_at s.heap its out.toArray
    have hf : H (s.heap.objs.size + 1) = none := I.hok.fresh (Nat.le_succ _)
    exact ⟨.ref _, _, I.laid (t' := s.toks) (fun _ _ => PyProof.Rows.sortedAll_old) (Nat.le_succ _) (show ObjOk X.prog X.w _ _ _ (.lst ys) from ⟨by rw [k1.length, ho, ← dps_len h2]; exact hz, out, ep, k1, he'⟩), rfl, k.lst hs k2 hf⟩
  · cases e
theorem minB_p {xs : List D} (h : minB xs = true) : alikeB xs = true ∧ W.AlikeAll xs := by
  unfold minB at h
  rw [Bool.and_eq_true, List.all_eq_true] at h
  exact ⟨h.1, (alikeB_p h.1).1, fun x hx => isNon_p (h.2 x hx)⟩
theorem r_min1 (hc : X.calm = true) (hu : X.A.units + 66 < cLine) : CallR X (.builtin "min") (rBi X.K .min1) := by
  intro pins s σ H xs us Q I rs h
  obtain ⟨S, ds, w, hs, hx, e, k⟩ := h
  change biMin1 ds = some w at e; unfold biMin1 at e
  split at e
  · rename_i x ds
    obtain ⟨v, rfl, hv⟩ := hx.one
    obtain ⟨e1, e2⟩ := (Option.ite_none_right_eq_some ..).mp e
    cases e2
    obtain ⟨a, vs, rfl, h1, h2⟩ := hv.list hs
    rw [Vals.ref1 rs]
    obtain ⟨m1, m2⟩ := minB_p e1
    have dl := depthAll_le fun y hy => ((alikeB_p m1).2 y hy).2
    exact best_run rfl I hs h1 h2 m1 k fun vs as hl hr P hP => W.min_list_data (I.ok.hd hc) hl hr m2 (by omega) hP
  · cases e
theorem r_max1 (hc : X.calm = true) (hu : X.A.units + 66 < cLine) : CallR X (.builtin "max") (rBi X.K .max1) := by
  intro pins s σ H xs us Q I rs h
  obtain ⟨S, ds, w, hs, hx, e, k⟩ := h
  change biMax1 ds = some w at e; unfold biMax1 at e
  split at e
  · rename_i x ds
    obtain ⟨v, rfl, hv⟩ := hx.one
    obtain ⟨e1, e2⟩ := (Option.ite_none_right_eq_some ..).mp e
    cases e2
    obtain ⟨a, vs, rfl, h1, h2⟩ := hv.list hs
    rw [Vals.ref1 rs]
    obtain ⟨m1, m2⟩ := minB_p e1
    have dl := depthAll_le fun y hy => ((alikeB_p m1).2 y hy).2
    exact best_run rfl I hs h1 h2 m1 k fun vs as hl hr P hP => W.max_list_data (I.ok.hd hc) hl hr m2 (by omega) hP
  · cases e
theorem shB_p {x : D} (h : shB x = true) : x.showable = true ∧ x.hasDict = false ∧ x.depth ≤ 60 ∧ x.shown.length ≤ sizeLine := by
  unfold shB at h
  simpa [Bool.and_eq_true, and_assoc] using h
theorem r_repr (hg : X.A.guards = some []) (hu : X.A.units + 66 < cLine) : CallR X (.builtin "repr") (rBi X.K .repr) := by
  intro pins s σ H xs us Q I rs h
  obtain ⟨S, ds, w, hs, hx, e, k⟩ := h
  have one : ∀ (x : D) (v : V) (a : Addr), v = .ref a → RepC X.K S H v x → shB x = true → RB X.K S H (.d (.str x.shown)) Q → wpAny (model X.prog X.w) X.A (call (.builtin "repr") [.ref a]) (EP X pins σ Q) X.xe s := fun x v a hv r b k => by
    subst hv
    obtain ⟨b1, b2, b3, b4⟩ := shB_p b
    obtain ⟨as, rd⟩ := reads_of I hs r (show RelV (V.ref a) (Value.ref a) from rfl)
    exact repr_of_reads' rd b1 (PyData.noDict_hsm b2) hg (by omega) (fun _ _ q => q) (fun h' u tk kp => ⟨.str x.shown, H, I.kept kp, ⟨_, rfl⟩, k.dat hs (.str _)⟩) b4
  change biRepr ds = some w at e; unfold biRepr at e
  split at e
  · obtain ⟨v, rfl, hv⟩ := hx.one
    obtain ⟨e1, e2⟩ := (Option.ite_none_right_eq_some ..).mp e
    cases e2
    obtain ⟨a, vs, rfl, h1, h2⟩ := hv.list hs
    rw [Vals.ref1 rs]
    exact one _ _ a rfl hv e1 k
  · obtain ⟨v, rfl, hv⟩ := hx.one
    obtain ⟨e1, e2⟩ := (Option.ite_none_right_eq_some ..).mp e
    cases e2
    obtain ⟨a, vs, rfl, h1, h2⟩ := hv.tuple
    rw [Vals.ref1 rs]
    exact one _ _ a rfl hv e1 k
  · cases e
theorem r_bi (b : Bi) (hg : b = .repr → X.A.guards = some []) (hc : X.calm = true) (hu : X.A.units + 66 < cLine) : CallR X (biV b) (rBi X.K b) := by
  cases b with
  | sorted => exact r_sorted hu
  | repr => exact r_repr (hg rfl) hu
  | min1 => exact r_min1 hc hu
  | max1 => exact r_max1 hc hu
  | len =>
    refine CallR.imp (CallR.or call_len_seq call_len_str) fun vs H Q h => ?_
    obtain ⟨S, ds, w, hs, hx, e, k⟩ := h
    change biLen ds = some w at e; unfold biLen at e
    split at e
    · cases e
      obtain ⟨v, rfl, hv⟩ := hx.one
      obtain ⟨a, vs, rfl, h1, h2⟩ := hv.list hs
      exact .inl ⟨a, vs, rfl, .inl (SqL.of h1), by rw [dps_len h2]; exact k.dat hs (.int _)⟩
    · cases e
      obtain ⟨v, rfl, hv⟩ := hx.one
      obtain ⟨a, vs, rfl, h1, h2⟩ := hv.tuple
      exact .inl ⟨a, vs, rfl, .inr (sameT hs h1), by rw [dps_len h2]; exact k.dat hs (.int _)⟩
    · obtain ⟨e1, e2⟩ := (Option.ite_none_right_eq_some ..).mp e
      cases e2
      obtain ⟨v, rfl, hv⟩ := hx.one
      exact .inr ⟨_, by rw [hv.str], e1, k.dat hs (.int _)⟩
    · cases e
  | abs =>
    refine CallR.imp call_abs fun vs H Q h => ?_
    obtain ⟨S, ds, w, hs, hx, e, k⟩ := h
    change biAbs ds = some w at e; unfold biAbs at e
    split at e
    · cases e
      obtain ⟨v, rfl, hv⟩ := hx.one
      exact ⟨_, by rw [hv.int], k.dat hs (.int _)⟩
    · cases e
  | int =>
    refine CallR.imp call_int1 fun vs H Q h => ?_
    obtain ⟨S, ds, w, hs, hx, e, k⟩ := h
    change biInt ds = some w at e; unfold biInt at e
    split at e
    · cases e
      obtain ⟨v, rfl, hv⟩ := hx.one
      exact .inl ⟨_, by rw [hv.int], k.dat hs (.int _)⟩
    · cases e
      obtain ⟨v, rfl, hv⟩ := hx.one
      exact .inr ⟨_, by rw [hv.bool], k.dat hs (.int _)⟩
    · cases e
  | min2 =>
    refine CallR.imp (call_min2 hc) fun vs H Q h => ?_
    obtain ⟨S, ds, w, hs, hx, e, k⟩ := h
    change biMin2 ds = some w at e; unfold biMin2 at e
    split at e
    · cases e
      obtain ⟨v, w, rfl, hv, hw⟩ := hx.two
      exact ⟨_, _, by rw [hv.int, hw.int], k.dat hs (.int _)⟩
    · cases e
  | max2 =>
    refine CallR.imp (call_max2 hc) fun vs H Q h => ?_
    obtain ⟨S, ds, w, hs, hx, e, k⟩ := h
    change biMax2 ds = some w at e; unfold biMax2 at e
    split at e
    · cases e
      obtain ⟨v, w, rfl, hv, hw⟩ := hx.two
      exact ⟨_, _, by rw [hv.int, hw.int], k.dat hs (.int _)⟩
    · cases e
  | sum =>
    refine CallR.imp (cr_sum hc) fun vs H Q h => ?_
    obtain ⟨S, ds, w, hs, hx, e, k⟩ := h
    change biSum ds = some w at e; unfold biSum at e
    split at e
    · obtain ⟨ns, e1, e2⟩ := Option.map_eq_some_iff.mp e
      subst e2
      obtain ⟨v, rfl, hv⟩ := hx.one
      obtain ⟨a, vs, rfl, h1, h2⟩ := hv.list hs
      exact ⟨a, ns, rfl, by rw [← ints_rps h2 e1]; exact SqL.of h1, k.dat hs (.int _)⟩
    · cases e
  | list =>
    refine CallR.imp call_list_of fun vs H Q h => ?_
    obtain ⟨S, ds, w, hs, hx, e, k⟩ := h
    change biList ds = some w at e; unfold biList at e
    split at e
    · cases e
      obtain ⟨v, rfl, hv⟩ := hx.one
      obtain ⟨a, vs, rfl, h1, h2⟩ := hv.list hs
      exact ⟨a, vs, rfl, .inl (SqL.of h1), fun p hp => k.lst hs h2 hp⟩
    · cases e
      obtain ⟨v, rfl, hv⟩ := hx.one
      obtain ⟨a, vs, rfl, h1, h2⟩ := hv.tuple
      exact ⟨a, vs, rfl, .inr (sameT hs h1), fun p hp => k.lst hs h2 hp⟩
    · cases e
  | tuple =>
    refine CallR.imp call_tuple_of fun vs H Q h => ?_
    obtain ⟨S, ds, w, hs, hx, e, k⟩ := h
    change biTuple ds = some w at e; unfold biTuple at e
    split at e
    · cases e
      obtain ⟨v, rfl, hv⟩ := hx.one
      obtain ⟨a, vs, rfl, h1, h2⟩ := hv.list hs
      exact ⟨a, vs, rfl, .inl ⟨SqL.of h1, fun p hp => k.tup hs h2 hp⟩⟩
    · cases e
      obtain ⟨v, rfl, hv⟩ := hx.one
      obtain ⟨a, vs, rfl, h1, h2⟩ := hv.tuple
      exact ⟨a, vs, rfl, .inr ⟨sameT hs h1, k.dat hs (.tup h1 h2)⟩⟩
    · cases e
  | any =>
    refine CallR.imp (cr_any hc) fun vs H Q h => ?_
    obtain ⟨S, ds, w, hs, hx, e, k⟩ := h
    change biAny ds = some w at e; unfold biAny at e
    split at e
    · obtain ⟨ns, e1, e2⟩ := Option.map_eq_some_iff.mp e
      subst e2
      obtain ⟨v, rfl, hv⟩ := hx.one
      obtain ⟨a, vs, rfl, h1, h2⟩ := hv.list hs
      exact ⟨a, ns, rfl, by rw [← bools_rps h2 e1]; exact SqL.of h1, k.dat hs (.bl _)⟩
    · cases e
  | all =>
    refine CallR.imp (cr_all hc) fun vs H Q h => ?_
    obtain ⟨S, ds, w, hs, hx, e, k⟩ := h
    change biAll ds = some w at e; unfold biAll at e
    split at e
    · obtain ⟨ns, e1, e2⟩ := Option.map_eq_some_iff.mp e
      subst e2
      obtain ⟨v, rfl, hv⟩ := hx.one
      obtain ⟨a, vs, rfl, h1, h2⟩ := hv.list hs
      exact ⟨a, ns, rfl, by rw [← bools_rps h2 e1]; exact SqL.of h1, k.dat hs (.bl _)⟩
    · cases e
end
end Ev

namespace Ev
open PySem L2
variable {K : PySem.W.Frag} {S S' S1 S2 Sc H H' H1 H2 H0 S0 : Hp} {σ : St} {env env' env0 env1 env2 : Env}

/-! ### several values -/
def TRoot (H : Hp) : List V → List Rv → Addr → Prop
  | v :: vs, .v w :: rs, b => Root H v w b ∨ TRoot H vs rs b
  | _ :: vs, .ali _ :: rs, b => TRoot H vs rs b
  | _, _, _ => False
inductive RepRs (K : PySem.W.Frag) (S H : Hp) (σ : St) (env : Env) (H0 : Hp) : List V → List Rv → Prop
  | nil : RepRs K S H σ env H0 [] []
  | cons {v : V} {r : Rv} {vs : List V} {rs : List Rv} : RepR K S H σ env v r → (∀ w, r = .v w → ∀ b, Root H v w b → H0 b = none ∧ ¬ TRoot H vs rs b) → RepRs K S H σ env H0 vs rs → RepRs K S H σ env H0 (v :: vs) (r :: rs)
theorem RepRs.len {vs : List V} {rs : List Rv} (h : RepRs K S H σ env H0 vs rs) : vs.length = rs.length := by
  induction h with
  | nil => rfl
  | cons _ _ _ ih => simp [ih]
theorem RepRs.get {vs : List V} {rs : List Rv} (h : RepRs K S H σ env H0 vs rs) : ∀ {j : Nat} {v : V} {r : Rv}, vs[j]? = some v → rs[j]? = some r → RepR K S H σ env v r ∧ ∀ w, r = .v w → ∀ b, Root H v w b → H0 b = none := by
  induction h with
  | nil => intro j v r h1; simp at h1
  | cons h1 h2 _ ih =>
    intro j v r g1 g2
    cases j with
    | zero =>
      simp at g1 g2
      subst g1 g2
      exact ⟨h1, fun w e b hb => (h2 w e b hb).1⟩
    | succ j => exact ih (by simpa using g1) (by simpa using g2)
theorem TRoot.get {vs : List V} {rs : List Rv} {b : Addr} : ∀ {j : Nat} {v : V} {w : Val}, vs[j]? = some v → rs[j]? = some (.v w) → Root H v w b → TRoot H vs rs b := by
  induction vs generalizing rs with
  | nil => intro j v w h; simp at h
  | cons v0 vs ih =>
    intro j v w h1 h2 h3
    cases rs with
    | nil => simp at h2
    | cons r rs =>
      cases j with
      | zero =>
        simp at h1 h2
        subst h1 h2
        exact .inl h3
      | succ j =>
        have := ih (rs := rs) (j := j) (by simpa using h1) (by simpa using h2) h3
        cases r with
        | v w => exact .inr this
        | ali i => exact this
theorem RepRs.sep {vs : List V} {rs : List Rv} (h : RepRs K S H σ env H0 vs rs) : ∀ {i j : Nat} {v v' : V} {w w' : Val} {b : Addr}, i < j → vs[i]? = some v → rs[i]? = some (.v w) → vs[j]? = some v' → rs[j]? = some (.v w') → Root H v w b → Root H v' w' b → False := by
  induction h with
  | nil => intro i j v v' w w' b _ h1; simp at h1
  | cons h1 h2 _ ih =>
    intro i j v v' w w' b hij g1 g2 g3 g4 g5 g6
    cases j with
    | zero => omega
    | succ j =>
      cases i with
      | zero =>
        simp at g1 g2
        subst g1 g2
        exact (h2 w rfl b g5).2 (TRoot.get (by simpa using g3) (by simpa using g4) g6)
      | succ i => exact ih (i := i) (j := j) (by omega) (by simpa using g1) (by simpa using g2) (by simpa using g3) (by simpa using g4) g5 g6
structure Psl (K : PySem.W.Frag) (S H : Hp) (σ : St) (env : Env) (S' H' : Hp) (env' : Env) (vs : List V) (rs : List Rv) : Prop extends Pst K S H σ env S' H' env' where
  res : RepRs K S' H' σ env' H vs rs
theorem Psl.nil (e : RepEnv K S H σ env) : Psl K S H σ env S H env [] [] := ⟨Pst.refl e, .nil⟩
theorem Psl.cons {v : V} {r : Rv} {vs : List V} {rs : List Rv} (a : Psv K S H σ env S1 H1 env1 v r) (b : Psl K S1 H1 σ env1 S2 H2 env2 vs rs) : Psl K S H σ env S2 H2 env2 (v :: vs) (r :: rs) := by
  refine ⟨a.toPst.trans b.toPst, .cons (a.res.step b.toPst) (fun w e c hc => ?_) ?_⟩
  · subst e
    have hc1 : Root H1 v w c := (Root_new a.res b.toPst c).mp hc
    refine ⟨a.new w rfl c hc1, fun ht => ?_⟩
    obtain ⟨_, o, ho⟩ := root_free a.res.1 hc1
    have : ∀ {vs : List V} {rs : List Rv}, RepRs K S2 H2 σ env2 H1 vs rs → TRoot H2 vs rs c → H1 c = none := by
      intro vs rs h
      induction h with
      | nil => intro z; exact z.elim
      | @cons v r vs rs h1 h2 _ ih =>
        intro z
        cases r with
        | v w => exact z.elim (fun z => (h2 w rfl c z).1) ih
        | ali i => exact ih z
    rw [this b.res ht] at ho; cases ho
  · have : ∀ {vs : List V} {rs : List Rv}, RepRs K S2 H2 σ env2 H1 vs rs → RepRs K S2 H2 σ env2 H vs rs := by
      intro vs rs h
      induction h with
      | nil => exact .nil
      | cons h1 h2 _ ih =>
        refine .cons h1 (fun w e c hc => ⟨?_, (h2 w e c hc).2⟩) ih
        have hn := (h2 w e c hc).1
        cases q : H c with
        | none => rfl
        | some o => exact absurd hn (a.step.dm c (by rw [q]; simp))
    exact this b.res

/-! ### the arguments of a call -/
theorem argVals_len {io : List Nat} : ∀ {rs : List Rv} {p : Nat} {ws : List Val}, argVals env io p rs = some ws → ws.length = rs.length
  | [], _, _, e => by cases e; rfl
  | r :: rs, p, ws, e => by
    unfold argVals at e
    obtain ⟨w, _, e2⟩ := Option.bind_eq_some_iff.mp e
    obtain ⟨ws', e3, e4⟩ := Option.map_eq_some_iff.mp e2
    subst e4
    simp [argVals_len e3]
theorem argVals_get {io : List Nat} : ∀ {rs : List Rv} {p : Nat} {ws : List Val}, argVals env io p rs = some ws → ∀ {j : Nat} {r : Rv} {w : Val}, rs[j]? = some r → ws[j]? = some w →
    (p + j ∈ io ∧ ∃ i, r = .ali i ∧ rd env i = some w ∧ (∀ x, w ≠ .d x) ∧ ∀ ns, w ≠ .scr ns) ∨ (p + j ∉ io ∧ nonIo env r = some w)
  | [], _, _, _, _, _, _, h, _ => by simp at h
  | r0 :: rs, p, ws, e, j, r, w, h1, h2 => by
    unfold argVals at e
    obtain ⟨w0, e1, e2⟩ := Option.bind_eq_some_iff.mp e
    obtain ⟨ws', e3, e4⟩ := Option.map_eq_some_iff.mp e2
    subst e4
    cases j with
    | zero =>
      simp at h1 h2
      subst h1 h2
      by_cases hp : p ∈ io
      · rw [if_pos hp] at e1
        refine .inl ⟨by simpa using hp, ?_⟩
        cases r0 with
        | v _ => cases e1
        | ali i =>
          obtain ⟨u, q1, q2⟩ := Option.bind_eq_some_iff.mp e1
          cases u with
          | d _ => cases q2
          | scr _ => cases q2
          | own xs => cases q2; exact ⟨i, rfl, q1, (fun _ z => by cases z), (fun _ z => by cases z)⟩
          | st _ _ => cases q2; exact ⟨i, rfl, q1, (fun _ z => by cases z), (fun _ z => by cases z)⟩
          | dk _ => cases q2; exact ⟨i, rfl, q1, (fun _ z => by cases z), (fun _ z => by cases z)⟩
      · rw [if_neg hp] at e1
        exact .inr ⟨by simpa using hp, e1⟩
    | succ j =>
      have := argVals_get e3 (j := j) (r := r) (w := w) (by simpa using h1) (by simpa using h2)
      rwa [show p + 1 + j = p + (j + 1) by omega] at this
theorem nonIo_p {r : Rv} {w : Val} (e : nonIo env r = some w) : (∃ x, w = .d x ∧ cur env r = some x) ∨ ∃ ns i, w = .scr ns ∧ r = .ali i ∧ rd env i = some (.scr ns) := by
  cases r with
  | v u =>
    obtain ⟨x, e1, e2⟩ := Option.map_eq_some_iff.mp (show (valD u).map Val.d = some w from e)
    exact .inl ⟨x, e2.symm, e1⟩
  | ali i =>
    unfold nonIo at e
    simp only at e
    split at e
    · rename_i ns h
      cases e
      exact .inr ⟨ns, i, rfl, rfl, h⟩
    · obtain ⟨x, e1, e2⟩ := Option.map_eq_some_iff.mp e
      exact .inl ⟨x, e2.symm, e1⟩
theorem mem_alis {rs : List Rv} {i : Nat} : i ∈ alis rs ↔ ∃ j : Nat, rs[j]? = some (Rv.ali i) := by
  induction rs with
  | nil => simp [alis]
  | cons r rs ih =>
    have tail : (∃ j : Nat, rs[j]? = some (Rv.ali i)) → ∃ j : Nat, (r :: rs)[j]? = some (Rv.ali i) := fun ⟨j, h⟩ => ⟨j + 1, by simpa using h⟩
    cases r with
    | v w =>
      show i ∈ alis rs ↔ _
      rw [ih]
      refine ⟨tail, fun ⟨j, h⟩ => ?_⟩
      cases j with
      | zero => simp at h
      | succ j => exact ⟨j, by simpa using h⟩
    | ali k =>
      show i ∈ k :: alis rs ↔ _
      rw [List.mem_cons, ih]
      constructor
      · rintro (h | h)
        · subst h; exact ⟨0, rfl⟩
        · exact tail h
      · rintro ⟨j, h⟩
        cases j with
        | zero => simp at h; exact .inl h.symm
        | succ j => exact .inr ⟨j, by simpa using h⟩
theorem alis_inj {rs : List Rv} : ∀ {i j k : Nat}, (alis rs).Nodup → rs[j]? = some (Rv.ali i) → rs[k]? = some (Rv.ali i) → j = k := by
  induction rs with
  | nil => intro i j k _ h; simp at h
  | cons r rs ih =>
    intro i j k hn h1 h2
    cases r with
    | v w =>
      cases j with
      | zero => simp at h1
      | succ j =>
        cases k with
        | zero => simp at h2
        | succ k => exact congrArg (· + 1) (ih (i := i) (show (alis rs).Nodup from hn) (by simpa using h1) (by simpa using h2))
    | ali m =>
      have hn' : m ∉ alis rs ∧ (alis rs).Nodup := List.nodup_cons.mp hn
      cases j with
      | zero =>
        simp at h1
        subst h1
        cases k with
        | zero => rfl
        | succ k => exact absurd (mem_alis.mpr ⟨k, by simpa using h2⟩) hn'.1
      | succ j =>
        cases k with
        | zero =>
          simp at h2
          subst h2
          exact absurd (mem_alis.mpr ⟨j, by simpa using h1⟩) hn'.1
        | succ k => exact congrArg (· + 1) (ih (i := i) hn'.2 (by simpa using h1) (by simpa using h2))
theorem back_len {io : List Nat} {keep : Bool} : ∀ (rs : List Rv) (p : Nat) (ws : List Val) (env : Env), (backArgs io keep p rs ws env).length = env.length
  | [], _, _, _ => by simp [backArgs]
  | .v _ :: rs, p, [], env => by simp [backArgs]
  | .v _ :: rs, p, _ :: ws, env => by rw [backArgs, back_len rs]
  | .ali i :: rs, p, [], env => by simp [backArgs]
  | .ali i :: rs, p, w :: ws, env => by
    rw [backArgs, back_len rs]
    split
    · simp
    · split <;> simp
theorem back_out {io : List Nat} {keep : Bool} : ∀ (rs : List Rv) (p : Nat) (ws : List Val) (env : Env) {i : Nat}, i ∉ alis rs → rd (backArgs io keep p rs ws env) i = rd env i
  | [], _, _, _, _, _ => by simp [backArgs]
  | .v _ :: rs, p, [], env, _, _ => by simp [backArgs]
  | .v _ :: rs, p, _ :: ws, env, i, h => by rw [backArgs]; exact back_out rs _ _ _ h
  | .ali k :: rs, p, [], env, _, _ => by simp [backArgs]
  | .ali k :: rs, p, w :: ws, env, i, h => by
    have hk : i ≠ k ∧ i ∉ alis rs := by simpa [alis] using h
    rw [backArgs, back_out rs _ _ _ hk.2]
    split
    · rw [rd_set, if_neg (fun z => hk.1 z.1.symm)]
    · split
      · rfl
      · rw [rd_set, if_neg (fun z => hk.1 z.1.symm)]
theorem back_in {io : List Nat} {keep : Bool} : ∀ (rs : List Rv) (p : Nat) (ws : List Val) (env : Env), (alis rs).Nodup → ∀ {i j : Nat} {w : Val}, i < env.length → rs[j]? = some (.ali i) → ws[j]? = some w →
    rd (backArgs io keep p rs ws env) i = if p + j ∈ io then some w else if keep then rd env i else some w
  | [], _, _, _, _, _, _, _, _, h, _ => by simp at h
  | .v _ :: rs, p, [], env, _, _, _, _, _, _, h => by simp at h
  | .v _ :: rs, p, _ :: ws, env, hn, i, j, w, hi, h1, h2 => by
    cases j with
    | zero => simp at h1
    | succ j =>
      rw [backArgs, back_in rs (p + 1) ws env hn hi (by simpa using h1) (by simpa using h2)]
      rw [show p + 1 + j = p + (j + 1) by omega]
  | .ali k :: rs, p, [], env, _, _, _, _, _, _, h => by simp at h
  | .ali k :: rs, p, w0 :: ws, env, hn, i, j, w, hi, h1, h2 => by
    have hn' : k ∉ alis rs ∧ (alis rs).Nodup := List.nodup_cons.mp hn
    cases j with
    | zero =>
      simp at h1 h2
      subst h1 h2
      rw [backArgs, back_out rs _ _ _ hn'.1]
      simp only [Nat.add_zero]
      split
      · rw [rd_set, if_pos ⟨rfl, hi⟩]
      · split
        · rfl
        · rw [rd_set, if_pos ⟨rfl, hi⟩]
    | succ j =>
      have hne : k ≠ i := fun z => hn'.1 (mem_alis.mpr ⟨j, by rw [z]; simpa using h1⟩)
      rw [backArgs, back_in rs (p + 1) ws _ hn'.2 (by split; simpa using hi; split; exact hi; simpa using hi) (by simpa using h1) (by simpa using h2)]
      rw [show p + 1 + j = p + (j + 1) by omega]
      have e : rd (if p ∈ io then env.set k (some w0) else if keep = true then env else env.set k (some w0)) i = rd env i := by
        split
        · rw [rd_set, if_neg (fun z => hne z.1)]
        · split
          · rfl
          · rw [rd_set, if_neg (fun z => hne z.1)]
      rw [e]
end Ev

namespace Ev
open PySem L2
variable {K : PySem.W.Frag} {S S' S1 S2 Sc H H' H1 H2 H0 S0 : Hp} {σ : St} {env env' env0 e1 : Env}

/-- a def's promise by what it is worth -/
def spC (K : PySem.W.Frag) (g : List Val → Option (Val × List Val)) : Sp := fun vs H Q _ => ∃ S ws w ws', RepEnv K S H (vs.map some) (ws.map some) ∧ g ws = some (w, ws') ∧
  ∀ v S' H', Step (Roots H (vs.map some) (ws.map some)) S H S' H' → RepEnv K S' H' (vs.map some) (ws'.map some) → (∀ b, Roots H' (vs.map some) (ws'.map some) b → Roots H (vs.map some) (ws.map some) b ∨ H b = none) →
    RepV K S' H' v w → (∀ b, Root H' v w b → H b = none ∧ ¬ Roots H' (vs.map some) (ws'.map some) b) → Q v H'

theorem rd_map {ws : List Val} {j : Nat} : rd (ws.map some) j = ws[j]? := by
  unfold rd
  rw [List.getElem?_map]
  cases ws[j]? <;> rfl
theorem slotV_map {vs : List V} {j : Nat} : slotV (vs.map some) j = vs[j]? := by
  unfold slotV
  rw [List.getElem?_map]
  cases vs[j]? <;> rfl
mutual
theorem rp_flat {S2 : Hp} (h : ∀ b o, S b = some o → (∀ xs, o ≠ .lst xs) → S2 b = some o) : ∀ {v : V} {x : D}, Rp K S v x → noList x = true → Rp K S2 v x
  | _, _, .non, _ => .non
  | _, _, .bl b, _ => .bl b
  | _, _, .int i, _ => .int i
  | _, _, .str x, _ => .str x
  | _, _, .lst _ _, e => by simp [noList] at e
  | _, _, .tup (a := a) (xs := xs) h1 h2, e => by
    refine .tup ?_ (rps_flat h h2 (by simpa [noList] using e))
    rcases h1 with (h1 | ⟨o, h1⟩) | h1
    · exact .inl (.inl (h a _ h1 fun _ z => nomatch z))
    · exact .inl (.inr ⟨o, h a _ h1 fun _ z => nomatch z⟩)
    · exact .inr h1
theorem rps_flat {S2 : Hp} (h : ∀ b o, S b = some o → (∀ xs, o ≠ .lst xs) → S2 b = some o) : ∀ {v : List V} {x : List D}, Rps K S v x → noListL x = true → Rps K S2 v x
  | _, _, .nil, _ => .nil
  | _, _, .cons h1 h2, e => by
    rw [noListL, Bool.and_eq_true] at e
    exact .cons (rp_flat h h1 e.1) (rps_flat h h2 e.2)
end
theorem flatAll_get {io : List Nat} : ∀ {ws : List Val} {p j : Nat} {w : Val}, flatAll io p ws = true → ws[j]? = some w → p + j ∈ io → flatV w = true
  | [], _, _, _, _, h, _ => by simp at h
  | u :: ws, p, j, w, e, h, hj => by
    have e : ((if p ∈ io then flatV u else true) && flatAll io (p + 1) ws) = true := e
    rw [Bool.and_eq_true] at e
    cases j with
    | zero =>
      simp at h hj
      subst h
      rw [if_pos hj] at e
      exact e.1
    | succ j => exact flatAll_get e.2 (by simpa using h) (by rw [show p + 1 + j = p + (j + 1) by omega]; exact hj)
open Classical in
theorem call_ok {io : List Nat} {vs : List V} {rs : List Rv} {ws ws' : List Val} {w : Val} (p : Psl K S0 H0 σ env0 S1 H1 e1 vs rs) (hn : (alis rs).Nodup) (ha : argVals e1 io 0 rs = some ws) :
    ∃ Sc, RepEnv K Sc H1 (vs.map some) (ws.map some) ∧ ∀ v S' H', Step (Roots H1 (vs.map some) (ws.map some)) Sc H1 S' H' → RepEnv K S' H' (vs.map some) (ws'.map some) →
      (∀ b, Roots H' (vs.map some) (ws'.map some) b → Roots H1 (vs.map some) (ws.map some) b ∨ H1 b = none) → RepV K S' H' v w → (∀ b, Root H' v w b → H1 b = none ∧ ¬ Roots H' (vs.map some) (ws'.map some) b) →
      ∃ S2, Psv K S0 H0 σ env0 S2 H' (backArgs io (flatV w && flatAll io 0 ws') 0 rs ws' e1) v (.v w) := by
  have hl1 : vs.length = rs.length := p.res.len
  have hl2 : ws.length = rs.length := argVals_len ha
  have at_ : ∀ {j : Nat} {u : Val}, ws[j]? = some u → ∃ v r, vs[j]? = some v ∧ rs[j]? = some r ∧ RepR K S1 H1 σ e1 v r := fun {j u} h => by
    have hj : j < ws.length := (List.getElem?_eq_some_iff.mp h).1
    have h1 : vs[j]? = some (vs[j]'(by omega)) := List.getElem?_eq_getElem _
    have h2 : rs[j]? = some (rs[j]'(by omega)) := List.getElem?_eq_getElem _
    exact ⟨_, _, h1, h2, (p.res.get h1 h2).1⟩
  -- the lists that are frozen for the call
  let B : Addr → Prop := fun b => ∃ (j : Nat) (xs : List D), vs[j]? = some (.ref b) ∧ ws[j]? = some (.d (.list xs)) ∧ S1 b = none
  have hB : ∀ b, B b → (∃ (j : Nat) (u : Val), rs[j]? = some (.v u) ∧ vs[j]? = some (.ref b) ∧ Root H1 (.ref b) u b) ∨ ∃ (i j : Nat) (xs : List D), rs[j]? = some (.ali i) ∧ rd e1 i = some (.own xs) ∧ slotV σ i = some (.ref b) ∧ j ∉ io := fun b ⟨j, xs, h1, h2, h3⟩ => by
    obtain ⟨v, r, q1, q2, q3⟩ := at_ h2
    rw [h1] at q1; cases q1
    rcases argVals_get ha q2 h2 with ⟨_, i, _, _, z, _⟩ | ⟨hio, z⟩
    · exact absurd rfl (z _)
    · rcases nonIo_p z with ⟨x, e, hc⟩ | ⟨ns, i, e, _⟩
      · cases e
        have notd : ∀ {v : V} {xs : List D}, v = .ref b → Rp K S1 v (.list xs) → False := fun {v xs} e r => by
          cases r with
          | lst g _ => cases e; rw [h3] at g; cases g
        cases r with
        | v u =>
          cases u with
          | d y => cases (show some y = some _ from hc); exact (notd rfl q3.1).elim
          | own ys => exact .inl ⟨j, _, q2, h1, rfl⟩
          | st _ _ => cases hc
          | dk _ => cases hc
          | scr _ => cases hc
        | ali i =>
          obtain ⟨u, g1, g2⟩ := Option.bind_eq_some_iff.mp (show (rd e1 i).bind valD = some _ from hc)
          have hsl : slotV σ i = some (.ref b) := q3
          cases u with
          | d y =>
            cases (show some y = some _ from g2)
            obtain ⟨v', k1, k2⟩ := p.rep.get i _ g1
            rw [hsl] at k1; cases k1
            exact (notd rfl k2).elim
          | own ys => exact .inr ⟨i, j, ys, q2, g1, hsl, by simpa using hio⟩
          | st _ _ => cases g2
          | dk _ => cases g2
          | scr _ => cases g2
      · cases e
  have hB0 : ∀ b, B b → Roots H0 σ env0 b ∨ H0 b = none := fun b hb => by
    rcases hB b hb with ⟨j, u, h1, h2, h3⟩ | ⟨i, j, xs, h1, h2, h3, _⟩
    · exact .inr ((p.res.get h2 h1).2 u rfl b h3)
    · exact p.sub b ⟨i, _, _, h2, h3, rfl⟩
  -- a root of a slot that is frozen: the slot is handed in, not to be changed
  have hBs : ∀ {b : Addr} {i : Nat} {w0 : Val} {v0 : V}, B b → rd e1 i = some w0 → slotV σ i = some v0 → Root H1 v0 w0 b → ∃ j : Nat, rs[j]? = some (.ali i) ∧ j ∉ io := fun {b i w0 v0} hb h1 h2 h3 => by
    rcases hB b hb with ⟨j, u, g1, g2, g3⟩ | ⟨i', j, xs, g1, g2, g3, g4⟩
    · exact absurd ⟨i, w0, v0, h1, h2, h3⟩ ((p.res.get g2 g1).1.2 b g3)
    · by_cases hi : i' = i
      · subst hi; exact ⟨j, g1, g4⟩
      · exact (p.rep.dis i' i _ _ _ _ b hi g2 g3 h1 h2 rfl h3).elim
  obtain ⟨s1, s2⟩ := frzS_same (B := B) p.rep.same
  have hBl : ∀ b, B b → ∃ xs, H1 b = some (.lst xs) := fun b hb => by
    rcases hB b hb with ⟨j, u, h1, h2, h3⟩ | ⟨i, j, xs, h1, h2, h3, _⟩
    · obtain ⟨j', xs', k1, k2, k3⟩ := hb
      obtain ⟨v, r, q1, q2, q3⟩ := at_ k2
      rw [k1] at q1; cases q1
      rcases argVals_get ha q2 k2 with ⟨_, i, _, _, z, _⟩ | ⟨hio, z⟩
      · exact absurd rfl (z _)
      · rcases nonIo_p z with ⟨x, e, hc⟩ | ⟨ns, i, e, _⟩
        · cases e
          obtain ⟨a, vs', e1', e2', _⟩ := (repC_of p.rep q3 hc).list p.rep.same
          cases e1'
          exact ⟨_, e2'⟩
        · cases e
    · obtain ⟨v, k1, a, vs', k2, k3, k4, _⟩ := p.rep.get i _ h2
      rw [h3] at k1; cases k1; cases k2
      exact ⟨_, k4⟩
  -- the roots of the arguments
  have hR : ∀ b, Roots H1 (vs.map some) (ws.map some) b → ∃ (j i : Nat) (w0 : Val) (v0 : V), j ∈ io ∧ rs[j]? = some (.ali i) ∧ rd e1 i = some w0 ∧ slotV σ i = some v0 ∧ Root H1 v0 w0 b := fun b ⟨j, u, v, h1, h2, h3⟩ => by
    rw [rd_map] at h1
    rw [slotV_map] at h2
    obtain ⟨v', r, q1, q2, q3⟩ := at_ h1
    rw [h2] at q1; cases q1
    rcases argVals_get ha q2 h1 with ⟨hio, i, rfl, g1, _, _⟩ | ⟨_, z⟩
    · exact ⟨j, i, u, v, by simpa using hio, q2, g1, q3, h3⟩
    · rcases nonIo_p z with ⟨x, rfl, _⟩ | ⟨ns, i, rfl, _⟩
      · exact h3.elim
      · exact h3.elim
  have hR1 : ∀ b, Roots H1 (vs.map some) (ws.map some) b → Roots H1 σ e1 b := fun b hb => by
    obtain ⟨j, i, w0, v0, _, _, h1, h2, h3⟩ := hR b hb
    exact ⟨i, w0, v0, h1, h2, h3⟩
  have hstep : Step (Roots H0 σ env0) S0 H0 (frzS S1 H1 B) H1 := ⟨p.step.st.trans s1, s2, p.step.kp, fun b hb => by
    by_cases q : B b
    · rcases hB0 b q with z | z
      · exact .inr (.inr z)
      · exact .inr (.inl z)
    · rw [frzS_neg q] at hb; exact p.step.nw b hb, p.step.dm⟩
  refine ⟨frzS S1 H1 B, ⟨s2, by simp [hl1, hl2], fun j u h => ?_, fun j k u u' v v' b hne h1 h2 h3 h4 h5 h6 => ?_⟩, ?_⟩
  · rw [rd_map] at h
    obtain ⟨v, r, q1, q2, q3⟩ := at_ h
    refine ⟨v, by rw [slotV_map]; exact q1, ?_⟩
    rcases argVals_get ha q2 h with ⟨hio, i, rfl, g1, _, _⟩ | ⟨_, z⟩
    · have hsl : slotV σ i = some v := q3
      obtain ⟨v', k1, k2⟩ := p.rep.get i u g1
      rw [hsl] at k1; cases k1
      refine repV_step k2 s1 fun c hc => ⟨?_, fun o q => q⟩
      rw [frzS_neg fun hb => ?_]
      · exact (root_free k2 hc).1
      · obtain ⟨j', g2, g3⟩ := hBs hb g1 hsl hc
        have := alis_inj hn q2 g2
        subst this
        exact g3 (by simpa using hio)
    · rcases nonIo_p z with ⟨x, rfl, hc⟩ | ⟨ns, i, rfl, rfl, g1⟩
      · rcases repC_of p.rep q3 hc with r | ⟨a, vs', xs, rfl, rfl, k1, k2⟩
        · exact dpMono s1 r
        · refine .lst ?_ (dpsMono s1 k2)
          by_cases hs : S1 a = none
          · rw [frzS_pos (show B a from ⟨j, xs, q1, h, hs⟩)]; exact k1
          · cases q : S1 a with
            | none => exact absurd q hs
            | some o =>
              have := p.rep.same a o q
              rw [k1] at this; cases this
              exact s1 a _ q
      · obtain ⟨v', k1, k2⟩ := p.rep.get i _ g1
        rw [show slotV σ i = some v from q3] at k1; cases k1
        obtain ⟨a, k3, k4⟩ := k2
        exact ⟨a, k3, sqZ_mono (fun b o z _ => s1 b o z) k4⟩
  · rw [rd_map] at h1 h3
    rw [slotV_map] at h2 h4
    obtain ⟨v1, r1, q1, q2, q3⟩ := at_ h1
    rw [h2] at q1; cases q1
    obtain ⟨v2, r2, q4, q5, q6⟩ := at_ h3
    rw [h4] at q4; cases q4
    rcases argVals_get ha q2 h1 with ⟨_, i, rfl, g1, _, _⟩ | ⟨_, z⟩
    · rcases argVals_get ha q5 h3 with ⟨_, i', rfl, g2, _, _⟩ | ⟨_, z⟩
      · have hi : i ≠ i' := fun e => hne (alis_inj hn q2 (by rw [e]; exact q5))
        exact p.rep.dis i i' u u' v v' b hi g1 q3 g2 q6 h5 h6
      · rcases nonIo_p z with ⟨x, rfl, _⟩ | ⟨ns, i, rfl, _⟩
        · exact h6.elim
        · exact h6.elim
    · rcases nonIo_p z with ⟨x, rfl, _⟩ | ⟨ns, i, rfl, _⟩
      · exact h5.elim
      · exact h5.elim
  · intro v S' H' st rep' sub' rv fresh
    generalize hkeep : (flatV w && flatAll io 0 ws') = keep
    let S2 : Hp := fun b => if keep = true ∧ B b then none else S' b
    have hl3 : ws'.length = rs.length := by
      have := rep'.len
      simp only [List.length_map] at this
      omega
    have hSB : ∀ b, B b → ∃ xs, S' b = some (.lst xs) := fun b hb => by
      obtain ⟨xs, e⟩ := hBl b hb
      exact ⟨xs, st.st b _ (by rw [frzS_pos hb]; exact e)⟩
    have s12 : Same S1 S2 := fun b o e => by
      have hb : ¬ B b := fun ⟨_, _, _, _, z⟩ => by rw [z] at e; cases e
      show (if keep = true ∧ B b then none else S' b) = some o
      rw [if_neg fun z => hb z.2]
      exact st.st b o (by rw [frzS_neg hb]; exact e)
    have s2h : Same S2 H' := fun b o e => by
      have e : (if keep = true ∧ B b then none else S' b) = some o := e
      split at e
      · cases e
      · exact st.same b o e
    -- what is not changed
    have same_ : ∀ {i : Nat} {w0 : Val} {v0 : V} {c : Addr}, (∀ j : Nat, rs[j]? = some (.ali i) → j ∉ io ∧ keep = true) → rd e1 i = some w0 → slotV σ i = some v0 → Root H1 v0 w0 c → S2 c = none ∧ ∀ o, H1 c = some o → H' c = some o := fun {i w0 v0 c} hi h1 h2 h3 => by
      have nr : ¬ Roots H1 (vs.map some) (ws.map some) c := fun hr => by
        obtain ⟨j, i', w', v', g1, g2, g3, g4, g5⟩ := hR c hr
        by_cases e : i' = i
        · subst e; exact (hi j g2).1 g1
        · exact p.rep.dis i' i _ _ _ _ c e g3 g4 h1 h2 g5 h3
      obtain ⟨v', k1, k2⟩ := p.rep.get i w0 h1
      rw [h2] at k1; cases k1
      obtain ⟨f1, o, f2⟩ := root_free k2 h3
      refine ⟨?_, fun o e => st.kp c o e nr⟩
      show (if keep = true ∧ B c then none else S' c) = none
      by_cases hb : B c
      · obtain ⟨j, g1, g2⟩ := hBs hb h1 h2 h3
        rw [if_pos ⟨(hi j g1).2, hb⟩]
      · rw [if_neg fun z => hb z.2]
        cases q : S' c with
        | none => rfl
        | some u =>
          rcases st.nw c (by rw [q]; simp) with z | z | z
          · rw [frzS_neg hb] at z; exact absurd f1 z
          · rw [f2] at z; cases z
          · exact absurd z nr
    have stepK : Step (Roots H0 σ env0) S0 H0 S2 H' := by
      by_cases hk : keep = true
      · refine p.step.trans (R1 := Roots H1 (vs.map some) (ws.map some)) ⟨s12, s2h, st.kp, fun b hb => ?_, st.dm⟩ fun c hc => p.sub c (hR1 c hc)
        have hb : (if keep = true ∧ B b then none else S' b) ≠ none := hb
        by_cases q : B b
        · rw [if_pos ⟨hk, q⟩] at hb; exact absurd rfl hb
        · rw [if_neg fun z => q z.2] at hb
          rcases st.nw b hb with z | z
          · rw [frzS_neg q] at z; exact .inl z
          · exact .inr z
      · have e : S2 = S' := funext fun b => if_neg fun z => hk z.1
        rw [e]
        exact hstep.trans st fun c hc => p.sub c (hR1 c hc)
    -- each slot: changed, or as it was
    have cases_ : ∀ (i : Nat) (u : Val), rd (backArgs io keep 0 rs ws' e1) i = some u → (∃ j : Nat, rs[j]? = some (.ali i) ∧ (j ∈ io ∨ keep = false) ∧ ws'[j]? = some u) ∨ ((∀ j : Nat, rs[j]? = some (.ali i) → j ∉ io ∧ keep = true) ∧ rd e1 i = some u) := fun i u h => by
      by_cases hi : i ∈ alis rs
      · obtain ⟨j, hj⟩ := mem_alis.mp hi
        have hjl : j < ws'.length := by rw [hl3]; exact (List.getElem?_eq_some_iff.mp hj).1
        have hw : ws'[j]? = some ws'[j] := List.getElem?_eq_getElem hjl
        have hil : i < e1.length := by
          by_cases q : i < e1.length
          · exact q
          · exfalso
            have : rd (backArgs io keep 0 rs ws' e1) i = none := by
              unfold rd
              rw [List.getElem?_eq_none (by rw [back_len]; omega)]; rfl
            rw [this] at h; cases h
        rw [back_in rs 0 ws' e1 hn hil hj hw] at h
        simp only [Nat.zero_add] at h
        by_cases h1 : j ∈ io
        · rw [if_pos h1] at h; cases h
          exact .inl ⟨j, hj, .inl h1, hw⟩
        · rw [if_neg h1] at h
          cases hk : keep with
          | true =>
            rw [hk, if_pos rfl] at h
            refine .inr ⟨fun j' hj' => ⟨?_, rfl⟩, h⟩
            rw [alis_inj hn hj' hj]; exact h1
          | false =>
            rw [hk, if_neg (by decide)] at h; cases h
            exact .inl ⟨j, hj, .inr rfl, hw⟩
      · rw [back_out _ _ _ _ hi] at h
        exact .inr ⟨fun j hj => absurd (mem_alis.mpr ⟨j, hj⟩) hi, h⟩
    have sl_ : ∀ {i j : Nat}, rs[j]? = some (.ali i) → slotV σ i = vs[j]? := fun {i j} h => by
      have hj : j < vs.length := by rw [hl1]; exact (List.getElem?_eq_some_iff.mp h).1
      have h1 : vs[j]? = some vs[j] := List.getElem?_eq_getElem hj
      rw [h1]; exact (p.res.get h1 h).1
    have repU : ∀ {i : Nat} {u : Val} {x : V}, (∀ j : Nat, rs[j]? = some (.ali i) → j ∉ io ∧ keep = true) → rd e1 i = some u → slotV σ i = some x → RepV K S2 H' x u ∧ ∀ b, Root H' x u b ↔ Root H1 x u b := fun {i u x} hi h1 h2 => by
      obtain ⟨x', k1, k2⟩ := p.rep.get i u h1
      rw [h2] at k1; cases k1
      exact ⟨repV_step k2 s12 fun c hc => same_ hi h1 h2 hc, fun b => root_iff k2 fun c hc => (same_ hi h1 h2 hc).2⟩
    have repC : ∀ {j : Nat} {u : Val} {x : V}, (j ∈ io ∨ keep = false) → ws'[j]? = some u → vs[j]? = some x → RepV K S2 H' x u := fun {j u x} hj h1 h2 => by
      obtain ⟨x', k1, k2⟩ := rep'.get j u (by rw [rd_map]; exact h1)
      rw [slotV_map, h2] at k1; cases k1
      by_cases hk : keep = true
      · have hj : j ∈ io := hj.elim id fun z => by rw [hk] at z; cases z
        rw [hk] at hkeep
        rw [Bool.and_eq_true] at hkeep
        have fl := flatAll_get hkeep.2 h1 (by simpa using hj)
        have keepS : ∀ b o, S' b = some o → (∀ xs, o ≠ .lst xs) → S2 b = some o := fun b o e hno => by
          show (if keep = true ∧ B b then none else S' b) = some o
          rw [if_neg fun z => ?_]
          · exact e
          · obtain ⟨xs, e'⟩ := hSB b z.2
            rw [e] at e'; cases e'
            exact hno _ rfl
        have keepN : ∀ b, S' b = none → S2 b = none := fun b e => by
          show (if keep = true ∧ B b then none else S' b) = none
          split
          · rfl
          · exact e
        cases u with
        | d y => exact rp_flat keepS k2 fl
        | own ys =>
          obtain ⟨a, vs2, m1, m2, m3, m4⟩ := k2
          exact ⟨a, vs2, m1, keepN _ m2, m3, rps_flat keepS m4 fl⟩
        | st i cs =>
          obtain ⟨a, c, m1, m2, m3, m4⟩ := k2
          exact ⟨a, c, m1, keepN _ m2, keepN _ m3, m4⟩
        | dk _ => cases fl
        | scr ns =>
          obtain ⟨a, m1, m2⟩ := k2
          exact ⟨a, m1, sqZ_mono keepS m2⟩
      · have e : S2 = S' := funext fun b => if_neg fun z => hk z.1
        rw [e]; exact k2
    have rootC : ∀ {i j : Nat} {u : Val} {x : V} {b : Addr}, rs[j]? = some (.ali i) → ws'[j]? = some u → vs[j]? = some x → Root H' x u b → Roots H1 (vs.map some) (ws.map some) b ∨ H1 b = none := fun {i j u x b} h1 h2 h3 h4 =>
      sub' b ⟨j, u, x, by rw [rd_map]; exact h2, by rw [slotV_map]; exact h3, h4⟩
    have there : ∀ {i : Nat} {u : Val} {x : V} {b : Addr}, rd e1 i = some u → slotV σ i = some x → Root H1 x u b → ¬ H1 b = none := fun {i u x b} h1 h2 h3 z => by
      obtain ⟨_, o, e⟩ := Roots.free p.rep ⟨i, u, x, h1, h2, h3⟩
      rw [z] at e; cases e
    have rootAll : ∀ b, Roots H' σ (backArgs io keep 0 rs ws' e1) b → Roots H1 σ e1 b ∨ H1 b = none := by
      rintro b ⟨i, u, x, h1, h2, h3⟩
      rcases cases_ i u h1 with ⟨j, g1, g2, g3⟩ | ⟨g1, g2⟩
      · exact (rootC g1 g3 (by rw [← sl_ g1]; exact h2) h3).imp (hR1 b) id
      · exact .inl ⟨i, u, x, g2, h2, ((repU g1 g2 h2).2 b).mp h3⟩
    refine ⟨S2, ⟨⟨stepK, ⟨s2h, by rw [back_len]; exact p.rep.len, fun i u h => ?_, fun i i' u u' x x' b hne h1 h2 h3 h4 h5 h6 => ?_⟩, fun b hb => (rootAll b hb).elim (p.sub b) fun z => .inr (none_bk p.step z), by rw [back_len]; exact p.slots⟩, ⟨?_, fun b hb hr => ?_⟩, fun u e b hb => ?_⟩⟩
    · rcases cases_ i u h with ⟨j, g1, g2, g3⟩ | ⟨g1, g2⟩
      · have hj : j < vs.length := by rw [hl1]; exact (List.getElem?_eq_some_iff.mp g1).1
        have hv : vs[j]? = some vs[j] := List.getElem?_eq_getElem hj
        exact ⟨_, (sl_ g1).trans hv, repC g2 g3 hv⟩
      · obtain ⟨x, k1, _⟩ := p.rep.get i u g2
        exact ⟨x, k1, (repU g1 g2 k1).1⟩
    · rcases cases_ i u h1 with ⟨j, g1, g2, g3⟩ | ⟨g1, g2⟩
      · have hv : vs[j]? = some x := by rw [← sl_ g1]; exact h2
        rcases cases_ i' u' h3 with ⟨j', g4, g5, g6⟩ | ⟨g4, g5⟩
        · have hv' : vs[j']? = some x' := by rw [← sl_ g4]; exact h4
          have hj : j ≠ j' := fun e => hne (by rw [e, g4] at g1; cases g1; rfl)
          exact rep'.dis j j' u u' x x' b hj (by rw [rd_map]; exact g3) (by rw [slotV_map]; exact hv) (by rw [rd_map]; exact g6) (by rw [slotV_map]; exact hv') h5 h6
        · obtain ⟨j0, i0, w0, v0, m1, m2, m3, m4, m5⟩ := hR b ((rootC g1 g3 hv h5).resolve_right (there g5 h4 (((repU g4 g5 h4).2 b).mp h6)))
          have hi : i0 ≠ i' := fun e => by subst e; exact (g4 j0 m2).1 m1
          exact p.rep.dis i0 i' _ _ _ _ b hi m3 m4 g5 h4 m5 (((repU g4 g5 h4).2 b).mp h6)
      · rcases cases_ i' u' h3 with ⟨j', g4, g5, g6⟩ | ⟨g4, g5⟩
        · have hv' : vs[j']? = some x' := by rw [← sl_ g4]; exact h4
          obtain ⟨j0, i0, w0, v0, m1, m2, m3, m4, m5⟩ := hR b ((rootC g4 g6 hv' h6).resolve_right (there g2 h2 (((repU g1 g2 h2).2 b).mp h5)))
          have hi : i0 ≠ i := fun e => by subst e; exact (g1 j0 m2).1 m1
          exact p.rep.dis i0 i _ _ _ _ b hi m3 m4 g2 h2 m5 (((repU g1 g2 h2).2 b).mp h5)
        · exact p.rep.dis i i' _ _ _ _ b hne g2 h2 g5 h4 (((repU g1 g2 h2).2 b).mp h5) (((repU g4 g5 h4).2 b).mp h6)
    · by_cases hk : keep = true
      · rw [hk] at hkeep
        rw [Bool.and_eq_true] at hkeep
        have fl := hkeep.1
        have keepS : ∀ b o, S' b = some o → (∀ xs, o ≠ .lst xs) → S2 b = some o := fun b o e hno => by
          show (if keep = true ∧ B b then none else S' b) = some o
          rw [if_neg fun z => ?_]
          · exact e
          · obtain ⟨xs, e'⟩ := hSB b z.2
            rw [e] at e'; cases e'
            exact hno _ rfl
        have keepN : ∀ b, S' b = none → S2 b = none := fun b e => by
          show (if keep = true ∧ B b then none else S' b) = none
          split
          · rfl
          · exact e
        cases w with
        | d y => exact rp_flat keepS rv fl
        | own ys =>
          obtain ⟨a, vs2, m1, m2, m3, m4⟩ := rv
          exact ⟨a, vs2, m1, keepN _ m2, m3, rps_flat keepS m4 fl⟩
        | st i cs =>
          obtain ⟨a, c, m1, m2, m3, m4⟩ := rv
          exact ⟨a, c, m1, keepN _ m2, keepN _ m3, m4⟩
        | dk _ => cases fl
        | scr ns =>
          obtain ⟨a, m1, m2⟩ := rv
          exact ⟨a, m1, sqZ_mono keepS m2⟩
      · have e : S2 = S' := funext fun b => if_neg fun z => hk z.1
        rw [e]; exact rv
    · obtain ⟨i, u, x, h1, h2, h3⟩ := hr
      rcases cases_ i u h1 with ⟨j, g1, g2, g3⟩ | ⟨g1, g2⟩
      · exact (fresh b hb).2 ⟨j, u, x, by rw [rd_map]; exact g3, by rw [slotV_map, ← sl_ g1]; exact h2, h3⟩
      · exact there g2 h2 (((repU g1 g2 h2).2 b).mp h3) (fresh b hb).1
    · cases e
      cases q : H0 b with
      | none => rfl
      | some o => exact absurd (fresh b hb).1 (p.step.dm b (by rw [q]; simp))
end Ev

namespace Ev
open PySem L2

/-! ### the text is what the mini text says -/
structure Tab where
  fns : List Str
  gls : List Str
  bl : List Str
  rp : Bool := false
def isRp : Bi → Bool
  | .repr => true
  | _ => false
def nmB (x : Str) : Bool := !(x == ("__debug__" : Str)) && !(x == ("__classdict__" : Str)) && !(x == ("__name__" : Str))
def visB (sc : Scope) (x : Str) : Bool := match sc.names.lookup x with
  | some .local => true
  | some .cell => true
  | some .free => true
  | _ => false
def locB (sc : Scope) (x : Str) : Bool := match sc.names.lookup x with
  | some .local => true
  | some .cell => true
  | _ => false
def glB (sc : Scope) (x : Str) : Bool := match sc.names.lookup x with
  | some .globalImplicit => true
  | _ => false
def conB : D → Const → Bool
  | .none, .none => true
  | .bool b, .bool c => b == c
  | .int i, .int j => i == j
  | .str x, .str y => decide (x = y)
  | _, _ => false
def biN : Bi → Str
  | .len => "len"
  | .abs => "abs"
  | .int => "int"
  | .min1 => "min"
  | .min2 => "min"
  | .max1 => "max"
  | .max2 => "max"
  | .sum => "sum"
  | .sorted => "sorted"
  | .list => "list"
  | .tuple => "tuple"
  | .any => "any"
  | .all => "all"
  | .repr => "repr"
def isTrueC : ME → Bool
  | .con (.bool true) => true
  | _ => false
mutual
def okT (N : List Str) (scT : Scope) : Tg → Expr → Bool
  | .nm i, e => match e with
    | .Name x _ => decide (N[i]? = some x) && locB scT x
    | _ => false
  | .tup ts, e => match e with
    | .Tuple es _ _ => okTs N scT ts es
    | _ => false
def okTs (N : List Str) (scT : Scope) : List Tg → List Expr → Bool
  | [], es => match es with
    | [] => true
    | _ => false
  | t :: ts, es => match es with
    | e :: es => okT N scT t e && okTs N scT ts es
    | _ => false
end
def isTupE : Expr → Bool
  | .Tuple .. => true
  | _ => false
def ownP (N : List Str) (own : List Nat) : List (Str × Nat) := own.map fun i => (N.getD i "", i)
mutual
def okE (T : Tab) (N : List Str) : ME → Scope → Expr → Bool
  | .var i, sc, e => match e with
    | .Name x _ => decide (N[i]? = some x) && visB sc x && nmB x
    | _ => false
  | .con c, sc, e => match e with
    | .Constant k _ _ => conB c k
    | _ => false
  | .glb j, sc, e => match e with
    | .Name x _ => decide (T.gls[j]? = some x) && glB sc x && nmB x
    | _ => false
  | .bin op a b, sc, e => match e with
    | .BinOp x o y _ => decide (o = bopO op) && okE T N a sc x && okE T N b sc y
    | _ => false
  | .neg a, sc, e => match e with
    | .UnaryOp o x _ => decide (o = .USub) && okE T N a sc x
    | _ => false
  | .cmp op a b, sc, e => match e with
    | .Compare x [o] [y] _ => decide (o = copO op) && fineE y && okE T N a sc x && okE T N b sc y
    | _ => false
  | .chain op op' a b c, sc, e => match e with
    | .Compare x [o, o'] [y, z] _ => decide (o = copO op) && decide (o' = copO op') && fineE z && okE T N a sc x && okE T N b sc y && okE T N c sc z
    | _ => false
  | .andE a b, sc, e => match e with
    | .BoolOp .And [x, y] _ => okE T N a sc x && okE T N b sc y
    | .BoolOp .And (x :: y :: z :: r) p => okE T N a sc x && okE T N b sc (.BoolOp .And (y :: z :: r) p)
    | _ => false
  | .orE a b, sc, e => match e with
    | .BoolOp .Or [x, y] _ => okE T N a sc x && okE T N b sc y
    | .BoolOp .Or (x :: y :: z :: r) p => okE T N a sc x && okE T N b sc (.BoolOp .Or (y :: z :: r) p)
    | _ => false
  | .notE a, sc, e => match e with
    | .UnaryOp o x _ => decide (o = .Not) && okE T N a sc x
    | _ => false
  | .ite c a b, sc, e => match e with
    | .IfExp z x y _ => okE T N c sc z && okE T N a sc x && okE T N b sc y
    | _ => false
  | .tup es, sc, e => match e with
    | .Tuple xs _ _ => okL T N es sc xs && decide (xs.length ≤ 1000)
    | _ => false
  | .lst es, sc, e => match e with
    | .List xs _ => okL T N es sc xs && decide (xs.length ≤ 1000)
    | _ => false
  | .idx a b, sc, e => match e with
    | .Subscript x y _ => fineE y && okE T N a sc x && okE T N b sc y
    | _ => false
  | .sli a lo hi, sc, e => match e with
    | .Subscript x (.Slice l h none _) _ => okE T N a sc x && (match l with
        | none => isNoneC lo
        | some l => !isNoneC lo && okE T N lo sc l) && (match h with
        | none => isNoneC hi
        | some h => !isNoneC hi && okE T N hi sc h)
    | _ => false
  | .call f es, sc, e => match e with
    | .Call (.Name x _) xs [] _ => decide (T.fns[f]? = some x) && glB sc x && nmB x && okL T N es sc xs
    | _ => false
  | .bi b es, sc, e => match e with
    | .Call (.Name x _) xs [] _ => decide (x = biN b) && decide (x ∈ T.bl) && glB sc x && !xs.isEmpty && okL T N es sc xs && (!isRp b || T.rp)
    | _ => false
  | .lc elt tg it cond own, sc, e => match e with
    | .ListComp y [⟨t, i, cs, 0⟩] scope _ => blkC N sc scope (ownP N own) && (slotsT tg).all (fun i => decide (i ∈ own)) && okT N scope tg t && fineE i && okI T N it sc t i && okE T N elt (relS scope sc) y &&
        (match cs with
        | [] => isTrueC cond
        | [c] => okE T N cond (relS scope sc) c
        | _ => false)
    | _ => false
  | .lrg1 a, sc, e => match e with
    | .Call (.Name x _) [.Call (.Name y _) [z] [] _] [] _ => decide (x = "list") && decide (x ∈ T.bl) && glB sc x && decide (y = "range") && decide (y ∈ T.bl) && glB sc y && fineE z && okE T N a sc z
    | _ => false
  | .lrg2 a b, sc, e => match e with
    | .Call (.Name x _) [.Call (.Name y _) [z, u] [] _] [] _ => decide (x = "list") && decide (x ∈ T.bl) && glB sc x && decide (y = "range") && decide (y ∈ T.bl) && glB sc y && fineE z && fineE u && okE T N a sc z && okE T N b sc u
    | _ => false
  | .sset a, sc, e => match e with
    | .Call (.Name x _) [.Call (.Name y _) [z] [] _] [] _ => decide (x = "sorted") && decide (x ∈ T.bl) && glB sc x && decide (y = "set") && decide (y ∈ T.bl) && glB sc y && fineE z && okE T N a sc z
    | _ => false
  | .lset a, sc, e => match e with
    | .Call (.Name x _) [.Call (.Name y _) [z] [] _] [] _ => decide (x = "len") && decide (x ∈ T.bl) && glB sc x && decide (y = "set") && decide (y ∈ T.bl) && glB sc y && fineE z && okE T N a sc z
    | _ => false
  | .rev a, sc, e => match e with
    | .Subscript z (.Slice none none (some (.UnaryOp .USub (.Constant (.int i) _ _) _)) _) _ => decide (i = 1) && okE T N a sc z
    | _ => false
def okI (T : Tab) (N : List Str) : MI → Scope → Expr → Expr → Bool
  | .seq a, sc, t, e => okE T N a sc e
  | .rng es, sc, t, e => match e with
    | .Call (.Name x _) xs [] _ => decide (x = "range") && decide (x ∈ T.bl) && glB sc x && okL T N es sc xs
    | _ => false
  | .enum a, sc, t, e => match e with
    | .Call (.Name x _) [y] [] _ => decide (x = "enumerate") && decide (x ∈ T.bl) && glB sc x && isTupE t && fineE y && okE T N a sc y
    | _ => false
  | .zip a b, sc, t, e => match e with
    | .Call (.Name x _) [y, z] [] _ => decide (x = "zip") && decide (x ∈ T.bl) && glB sc x && isTupE t && fineE y && fineE z && okE T N a sc y && okE T N b sc z
    | _ => false
def okL (T : Tab) (N : List Str) : List ME → Scope → List Expr → Bool
  | [], sc, xs => match xs with
    | [] => true
    | _ => false
  | m :: ms, sc, xs => match xs with
    | x :: xs => fineE x && okE T N m sc x && okL T N ms sc xs
    | _ => false
end

/-! ### the context of a body -/
structure XOk (Γ : Ctx) (T : Tab) (N : List Str) (sc scT : Scope) (k : Nat) (X : Cx) : Prop where
  hN : X.N = N
  hsc : X.env.scope = sc
  calm : X.calm = true
  nd : N.Nodup
  room : Room k X.A
  loc : ∀ x, locB scT x = true → Loc X.env.scope x ∧ (X.fn x = true ∨ X.env.scope.names.lookup x = some .local)
  fn : ∀ (f : Nat) (x : Str), T.fns[f]? = some x → ∃ fa fd ps, X.mg x = some (.ref fa) ∧ PySem.W.keepIn X.K (.ref fa) = true ∧ Binds X.K fd ps [] ∧ FnOk X.prog X.w X.K X.mg X.base CX0 k fa fd ps (spC X.K (Γ.C f))
  gl : ∀ (j : Nat) (x : Str) (d : D), T.gls[j]? = some x → Γ.G[j]? = some d → ∃ u v, X.mg x = some u ∧ RelV v u ∧ ∀ S, Rp X.K S v d
  bl : ∀ x ∈ T.bl, X.mg x = none
  gd : T.rp = true → X.A.guards = some []
section
variable {Γ : Ctx} {T : Tab} {N : List Str} {sc scT : Scope} {k : Nat} {X : Cx}
theorem locB_p {sc : Scope} {x : Str} (h : locB sc x = true) : sc.names.lookup x = some .local ∨ sc.names.lookup x = some .cell := by
  unfold locB at h
  split at h
  · exact .inl (by assumption)
  · exact .inr (by assumption)
  · cases h
theorem XOk.vis (h : XOk Γ T N sc scT k X) {x : Str} (hx : visB sc x = true) : Vis X.env.scope x := by
  rw [h.hsc]
  unfold visB at hx
  split at hx
  · exact .inl (by assumption)
  · exact .inr (.inl (by assumption))
  · exact .inr (.inr (by assumption))
  · cases hx
theorem XOk.glo (h : XOk Γ T N sc scT k X) {x : Str} (hx : glB sc x = true) : Gl X x := by
  show X.env.scope.names.lookup x = _
  rw [h.hsc]
  unfold glB at hx
  split at hx
  · assumption
  · cases hx
theorem nmB_p {x : Str} (h : nmB x = true) : (x == ("__debug__" : Str)) = false ∧ (x == ("__classdict__" : Str)) = false ∧ x ≠ "__name__" := by
  unfold nmB at h
  simp only [Bool.and_eq_true, Bool.not_eq_true'] at h
  exact ⟨h.1.1, h.1.2, fun e => by subst e; exact absurd h.2 (by decide)⟩
theorem XOk.hu (h : XOk Γ T N sc scT k X) : X.A.units + 66 < cLine := by have := h.room.un; omega
theorem XOk.blk (h : XOk Γ T N sc scT k X) {scope : Scope} (s : Shared) (H : Hp) (C : Addr) (cl : List (Str × Addr)) (fp : List Addr) : XOk Γ T N (relS scope sc) scope k (X.blk s H scope (compEnvC scope cl C X.env) fp) := by
  refine ⟨h.hN, ?_, h.calm, h.nd, h.room, fun x hx => ?_, h.fn, h.gl, h.bl, h.gd⟩
  · show relS scope X.env.scope = _
    rw [h.hsc]
  · have e : (X.blk s H scope (compEnvC scope cl C X.env) fp).env.scope = relS scope X.env.scope := rfl
    rcases locB_p hx with q | q
    · have := lookup_relS_keep (sc := X.env.scope) (k := .local) (by decide) q
      exact ⟨.inl this, .inr this⟩
    · have := lookup_relS_keep (sc := X.env.scope) (k := .cell) (by decide) q
      exact ⟨.inr this, .inl (by show (scope.names.lookup x == some .cell) = true; rw [q]; rfl)⟩

/-! ### readings -/
def tE (K : PySem.W.Frag) (Γ : Ctx) (m : ME) : TE := fun σ H Q => ∃ S env r env', RepEnv K S H σ env ∧ ev Γ m env = some (r, env') ∧ ∀ v S' H', Psv K S H σ env S' H' env' v r → Q v H'
def tT (K : PySem.W.Frag) (Γ : Ctx) (m : ME) : TT := fun σ H Q => ∃ S env c env', RepEnv K S H σ env ∧ evC Γ m env = some (c, env') ∧ ∀ S' H', Pst K S H σ env S' H' env' → Q c H'
def tL (K : PySem.W.Frag) (Γ : Ctx) (ms : List ME) : TA := fun σ H Q => ∃ S env rs env', RepEnv K S H σ env ∧ evL Γ ms env = some (rs, env') ∧ ∀ vs S' H', Psl K S H σ env S' H' env' vs rs → Q vs H'
/-- a display's items, frozen one by one -/
def tF (K : PySem.W.Frag) (Γ : Ctx) (ms : List ME) : TA := fun σ H Q => ∃ S env xs env', RepEnv K S H σ env ∧ evF Γ ms env = some (xs, env') ∧ ∀ vs S' H', Pst K S H σ env S' H' env' → Rps K S' vs xs → Q vs H'
theorem PE.imp {e : Expr} {t t' : TE} (h : PE X e t) (w : ∀ σ H Q, t' σ H Q → t σ H Q) : PE X e t' := ⟨fun pins s σ H Q I q => h.run pins s σ H Q I (w σ H Q q)⟩
theorem PT.imp {e : Expr} {t t' : TT} (h : PT X e t) (w : ∀ σ H Q, t' σ H Q → t σ H Q) : PT X e t' := ⟨fun pins s σ H Q I q => h.run pins s σ H Q I (w σ H Q q)⟩
theorem PW.imp {e : Expr} {t t' : TT} (h : PW X e t) (w : ∀ σ H Q, t' σ H Q → t σ H Q) : PW X e t' := ⟨fun wh pins s σ H Q I q => h.run wh pins s σ H Q I (w σ H Q q)⟩
theorem PA.imp {e : List Expr} {t t' : TA} (h : PA X e t) (w : ∀ σ H Q, t' σ H Q → t σ H Q) : PA X e t' := ⟨fun pos pins s σ H Q I q => h.run pos pins s σ H Q I (w σ H Q q)⟩
theorem PI.imp {tg e : Expr} {t t' : TI} (h : PI X tg e t) (w : ∀ σ H Q, t' σ H Q → t σ H Q) : PI X tg e t' := ⟨fun pins s σ H Q I q => h.run pins s σ H Q I (w σ H Q q)⟩
theorem PS.imp {e : Stmt} {t t' : TS} (h : PS X e t) (w : ∀ D σ H, t' D σ H → t D σ H) : PS X e t' := ⟨fun pins s σ H D I q => h.run pins s σ H D I (w D σ H q)⟩
theorem PSs.imp {e : List Stmt} {t t' : TS} (h : PSs X e t) (w : ∀ D σ H, t' D σ H → t D σ H) : PSs X e t' := ⟨fun pins s σ H D I q => h.run pins s σ H D I (w D σ H q)⟩
theorem PG.imp {e : Expr} {t t' : TG} (h : PG X e t) (w : ∀ v σ H Q, t' v σ H Q → t v σ H Q) : PG X e t' := ⟨fun pins s σ H v u Q I r q => h.run pins s σ H v u Q I r (w v σ H Q q)⟩

/-- what may hang on a mini expression -/
structure SndE (Γ : Ctx) (T : Tab) (N : List Str) (m : ME) : Prop where
  e : ∀ {sc scT k X e}, XOk Γ T N sc scT k X → okE T N m sc e = true → PE X e (tE X.K Γ m)
  t : ∀ {sc scT k X e}, XOk Γ T N sc scT k X → okE T N m sc e = true → PT X e (tT X.K Γ m)
theorem tru_tT {e : Expr} {m : ME} (h : PE X e (tE X.K Γ m)) (he : ∀ whole, isTrue e X.env whole = (do let v ← whole; standAt e.pos; holding [v] (truthy v))) : PT X e (tT X.K Γ m) := by
  refine PT.imp (pt_truth h he) fun σ H Q q => ?_
  obtain ⟨S, env, c, env', rep, e1, q⟩ := q
  obtain ⟨⟨r, e2⟩, h1, h2⟩ := Option.bind_eq_some_iff.mp (show (ev Γ m env).bind _ = some _ from e1)
  obtain ⟨c', h3, h4⟩ := Option.map_eq_some_iff.mp h2
  cases h4
  obtain ⟨x, h5, h6⟩ := Option.bind_eq_some_iff.mp (show (cur env' r).bind truD = some c from h3)
  exact ⟨S, env, r, env', rep, h1, fun v S' H' p => ⟨c, tru_rep p.rep.same (repC_of p.rep p.res h5) h6, q S' H' p.toPst⟩⟩
end
end Ev

namespace Ev
open PySem L2
section
variable {Γ : Ctx} {T : Tab} {N : List Str} {sc scT : Scope} {k : Nat} {X : Cx}

theorem psv_refl {K : PySem.W.Frag} {S H : Hp} {σ : St} {env : Env} {v : V} {r : Rv} (rep : RepEnv K S H σ env) (res : RepR K S H σ env v r) (n : ∀ w, r = .v w → ∀ b, Root H v w b → H b = none) : Psv K S H σ env S H env v r :=
  ⟨Pst.refl rep, res, n⟩
theorem psv_dat {K : PySem.W.Frag} {S H : Hp} {σ : St} {env : Env} {v : V} {x : D} (rep : RepEnv K S H σ env) (r : Rp K S v x) : Psv K S H σ env S H env v (.v (.d x)) :=
  psv_refl rep ⟨r, fun _ z => z.elim⟩ fun w e b z => by cases e; exact z.elim
theorem snd_var (i : Nat) : SndE Γ T N (.var i) := by
  have ee : ∀ {sc scT k X e}, XOk Γ T N sc scT k X → okE T N (.var i) sc e = true → PE X e (tE X.K Γ (.var i)) := by
    intro sc scT k X e hX h
    simp only [okE] at h
    split at h
    · rename_i x p
      simp only [Bool.and_eq_true, decide_eq_true_eq] at h
      obtain ⟨⟨h1, h2⟩, h3⟩ := h
      obtain ⟨n1, n2, _⟩ := nmB_p h3
      refine PE.imp (pe_var (by rw [hX.hN]; exact h1) (hX.vis h2) n1 n2) fun σ H Q q => ?_
      obtain ⟨S, env, r, env', rep, e1, q⟩ := q
      simp only [ev] at e1
      split at e1
      · rename_i x hx
        cases e1
        obtain ⟨v, k1, k2⟩ := rep.get i _ hx
        exact ⟨v, slotV_get k1, q v S H (psv_dat rep k2)⟩
      · rename_i w hne hw
        cases e1
        obtain ⟨v, k1, k2⟩ := rep.get i _ hw
        exact ⟨v, slotV_get k1, q v S H (psv_refl rep k1 fun _ z => nomatch z)⟩
      · cases e1
    · cases h
  refine ⟨ee, fun hX h => ?_⟩
  rename_i sc scT k X e
  have h2 := h
  simp only [okE] at h2
  split at h2
  · exact tru_tT (ee hX h) fun _ => rfl
  · cases h2
theorem snd_con (c : D) : SndE Γ T N (.con c) := by
  have ee : ∀ {sc scT k X e}, XOk Γ T N sc scT k X → okE T N (.con c) sc e = true → PE X e (tE X.K Γ (.con c)) := by
    intro sc scT k X e hX h
    simp only [okE] at h
    split at h
    · rename_i kk j p
      unfold conB at h
      split at h
      · refine PE.imp pe_non fun σ H Q q => ?_
        obtain ⟨S, env, r, env', rep, e1, q⟩ := q
        cases e1
        exact q _ S H (psv_dat rep .non)
      · have := eq_of_beq h
        subst this
        refine PE.imp pe_bl fun σ H Q q => ?_
        obtain ⟨S, env, r, env', rep, e1, q⟩ := q
        cases e1
        exact q _ S H (psv_dat rep (.bl _))
      · have := eq_of_beq h
        subst this
        refine PE.imp pe_int fun σ H Q q => ?_
        obtain ⟨S, env, r, env', rep, e1, q⟩ := q
        cases e1
        exact q _ S H (psv_dat rep (.int _))
      · have := of_decide_eq_true h
        subst this
        refine PE.imp pe_str fun σ H Q q => ?_
        obtain ⟨S, env, r, env', rep, e1, q⟩ := q
        cases e1
        exact q _ S H (psv_dat rep (.str _))
      · cases h
    · cases h
  refine ⟨ee, fun hX h => ?_⟩
  rename_i sc scT k X e
  have h2 := h
  simp only [okE] at h2
  split at h2
  · exact tru_tT (ee hX h) fun _ => rfl
  · cases h2
theorem snd_glb (j : Nat) : SndE Γ T N (.glb j) := by
  have ee : ∀ {sc scT k X e}, XOk Γ T N sc scT k X → okE T N (.glb j) sc e = true → PE X e (tE X.K Γ (.glb j)) := by
    intro sc scT k X e hX h
    simp only [okE] at h
    split at h
    · rename_i x p
      simp only [Bool.and_eq_true, decide_eq_true_eq] at h
      obtain ⟨⟨h1, h2⟩, h3⟩ := h
      obtain ⟨n1, n2, _⟩ := nmB_p h3
      refine ⟨fun pins s σ H Q I q => ?_⟩
      obtain ⟨S, env, r, env', rep, e1, q⟩ := q
      simp only [ev, Option.map_eq_some_iff] at e1
      obtain ⟨d, hd, e2⟩ := e1
      cases e2
      obtain ⟨u, v, m1, m2, m3⟩ := hX.gl j x d h1 hd
      exact (pe_glob (hX.glo h2) m1 m2 n1).run pins s σ H Q I (q v S H (psv_dat rep (m3 S)))
    · cases h
  refine ⟨ee, fun hX h => ?_⟩
  rename_i sc scT k X e
  have h2 := h
  simp only [okE] at h2
  split at h2
  · exact tru_tT (ee hX h) fun _ => rfl
  · cases h2
theorem RepR.cur {K : PySem.W.Frag} {S1 H1 S2 H2 : Hp} {σ : St} {env1 env2 : Env} {v : V} {r : Rv} {x : D} (res : RepR K S1 H1 σ env1 v r) (p : Pst K S1 H1 σ env1 S2 H2 env2) (e : cur env2 r = some x) : RepC K S2 H2 v x :=
  repC_of p.rep (res.step p) e
theorem snd_bin (op : BOp) {a b : ME} (ha : SndE Γ T N a) (hb : SndE Γ T N b) : SndE Γ T N (.bin op a b) := by
  have ee : ∀ {sc scT k X e}, XOk Γ T N sc scT k X → okE T N (.bin op a b) sc e = true → PE X e (tE X.K Γ (.bin op a b)) := by
    intro sc scT k X e hX h
    simp only [okE] at h
    split at h
    · rename_i x o y p
      simp only [Bool.and_eq_true, decide_eq_true_eq] at h
      obtain ⟨⟨h1, h2⟩, h3⟩ := h
      subst h1
      refine PE.imp (pe_op (r_bin op) (ha.e hX h2) (hb.e hX h3)) fun σ H Q q => ?_
      obtain ⟨S, env, r, env', rep, e1, q⟩ := q
      simp only [ev] at e1
      obtain ⟨⟨ra, e2⟩, g1, e1⟩ := Option.bind_eq_some_iff.mp e1
      obtain ⟨⟨rb, e3⟩, g2, e1⟩ := Option.bind_eq_some_iff.mp e1
      obtain ⟨dx, g3, e1⟩ := Option.bind_eq_some_iff.mp e1
      obtain ⟨dy, g4, e1⟩ := Option.bind_eq_some_iff.mp e1
      obtain ⟨w, g5, e1⟩ := Option.map_eq_some_iff.mp e1
      cases e1
      refine ⟨S, env, ra, e2, rep, g1, fun v1 S1 H1 p1 => ⟨S1, e2, rb, _, p1.rep, g2, fun v2 S2 H2 p2 => ?_⟩⟩
      exact ⟨S2, dx, dy, w, p2.rep.same, p1.res.cur p2.toPst g3, repC_of p2.rep p2.res g4, g5, fun v S' H' g rv n => q v S' H' (psv_gr (p1.toPst.trans p2.toPst) g rv n)⟩
    · cases h
  refine ⟨ee, fun hX h => ?_⟩
  rename_i sc scT k X e
  have h2 := h
  simp only [okE] at h2
  split at h2
  · exact tru_tT (ee hX h) fun _ => rfl
  · cases h2
theorem snd_neg {a : ME} (ha : SndE Γ T N a) : SndE Γ T N (.neg a) := by
  have ee : ∀ {sc scT k X e}, XOk Γ T N sc scT k X → okE T N (.neg a) sc e = true → PE X e (tE X.K Γ (.neg a)) := by
    intro sc scT k X e hX h
    simp only [okE] at h
    split at h
    · rename_i o x p
      simp only [Bool.and_eq_true, decide_eq_true_eq] at h
      obtain ⟨h1, h2⟩ := h
      subst h1
      refine PE.imp (pe_un un_neg (ha.e hX h2)) fun σ H Q q => ?_
      obtain ⟨S, env, r, env', rep, e1, q⟩ := q
      simp only [ev] at e1
      obtain ⟨⟨ra, e2⟩, g1, e1⟩ := Option.bind_eq_some_iff.mp e1
      obtain ⟨dx, g3, e1⟩ := Option.bind_eq_some_iff.mp e1
      refine ⟨S, env, ra, e2, rep, g1, fun v1 S1 H1 p1 => ?_⟩
      cases dx with
      | int i =>
        cases e1
        have e := (repC_of p1.rep p1.res g3).int
        subst e
        exact ⟨i, rfl, q _ S1 H1 (psv_gr p1.toPst (Gr.refl p1.rep.same) (.int _) fun _ z => z.elim)⟩
      | _ => cases e1
    · cases h
  refine ⟨ee, fun hX h => ?_⟩
  rename_i sc scT k X e
  have h2 := h
  simp only [okE] at h2
  split at h2
  · simp only [Bool.and_eq_true, decide_eq_true_eq] at h2
    obtain ⟨h2, _⟩ := h2
    subst h2
    exact tru_tT (ee hX h) fun _ => rfl
  · cases h2
theorem snd_cmp (op : COp) {a b : ME} (ha : SndE Γ T N a) (hb : SndE Γ T N b) : SndE Γ T N (.cmp op a b) := by
  have rd_ : ∀ {K : PySem.W.Frag} {σ : St} {H : Hp} {Q : Bool → Hp → Prop}, tT K Γ (.cmp op a b) σ H Q → tOp (rCmp K op) (tE K Γ a) (tE K Γ b) σ H fun x H' => ∃ k, x = .bl k ∧ Q k H' := by
    intro K σ H Q q
    obtain ⟨S, env, c, env', rep, e1, q⟩ := q
    simp only [evC, ev] at e1
    obtain ⟨⟨r0, e0⟩, e1, e9⟩ := Option.bind_eq_some_iff.mp e1
    obtain ⟨⟨ra, e2⟩, g1, e1⟩ := Option.bind_eq_some_iff.mp e1
    obtain ⟨⟨rb, e3⟩, g2, e1⟩ := Option.bind_eq_some_iff.mp e1
    obtain ⟨dx, g3, e1⟩ := Option.bind_eq_some_iff.mp e1
    obtain ⟨dy, g4, e1⟩ := Option.bind_eq_some_iff.mp e1
    obtain ⟨w, g5, e1⟩ := Option.map_eq_some_iff.mp e1
    cases e1
    cases e9
    refine ⟨S, env, ra, e2, rep, g1, fun v1 S1 H1 p1 => ⟨S1, e2, rb, _, p1.rep, g2, fun v2 S2 H2 p2 => ?_⟩⟩
    exact ⟨S2, dx, dy, c, p2.rep.same, p1.res.cur p2.toPst g3, repC_of p2.rep p2.res g4, g5, c, rfl, q S2 H2 (p1.toPst.trans p2.toPst)⟩
  have re_ : ∀ {K : PySem.W.Frag} {σ : St} {H : Hp} {Q : VK}, tE K Γ (.cmp op a b) σ H Q → tOp (rCmp K op) (tE K Γ a) (tE K Γ b) σ H Q := by
    intro K σ H Q q
    obtain ⟨S, env, r, env', rep, e1, q⟩ := q
    simp only [ev] at e1
    obtain ⟨⟨ra, e2⟩, g1, e1⟩ := Option.bind_eq_some_iff.mp e1
    obtain ⟨⟨rb, e3⟩, g2, e1⟩ := Option.bind_eq_some_iff.mp e1
    obtain ⟨dx, g3, e1⟩ := Option.bind_eq_some_iff.mp e1
    obtain ⟨dy, g4, e1⟩ := Option.bind_eq_some_iff.mp e1
    obtain ⟨w, g5, e1⟩ := Option.map_eq_some_iff.mp e1
    cases e1
    refine ⟨S, env, ra, e2, rep, g1, fun v1 S1 H1 p1 => ⟨S1, e2, rb, _, p1.rep, g2, fun v2 S2 H2 p2 => ?_⟩⟩
    exact ⟨S2, dx, dy, w, p2.rep.same, p1.res.cur p2.toPst g3, repC_of p2.rep p2.res g4, g5, q _ S2 H2 (psv_gr (p1.toPst.trans p2.toPst) (Gr.refl p2.rep.same) (.bl _) fun _ z => z.elim)⟩
  refine ⟨fun hX h => ?_, fun hX h => ?_⟩
  · simp only [okE] at h
    split at h
    · rename_i x o y p
      simp only [Bool.and_eq_true, decide_eq_true_eq] at h
      obtain ⟨⟨⟨h1, h4⟩, h2⟩, h3⟩ := h
      subst h1
      exact PE.imp (pe_cmpR (r_cmp op hX.hu) (ha.e hX h2) (hb.e hX h3) (nomarkE h4)) fun σ H Q q => re_ q
    · cases h
  · simp only [okE] at h
    split at h
    · rename_i x o y p
      simp only [Bool.and_eq_true, decide_eq_true_eq] at h
      obtain ⟨⟨⟨h1, h4⟩, h2⟩, h3⟩ := h
      subst h1
      exact PT.imp (pt_cmpR (r_cmp op hX.hu) (ha.e hX h2) (hb.e hX h3) (nomarkE h4)) fun σ H Q q => rd_ q
    · cases h
theorem snd_chain (op op' : COp) {a b c : ME} (ha : SndE Γ T N a) (hb : SndE Γ T N b) (hc : SndE Γ T N c) : SndE Γ T N (.chain op op' a b c) := by
  have re_ : ∀ {K : PySem.W.Frag} {σ : St} {H : Hp} {Q : VK}, tE K Γ (.chain op op' a b c) σ H Q → tChain (rCmp K op) (rCmp K op') (tE K Γ a) (tE K Γ b) (tE K Γ c) σ H Q := by
    intro K σ H Q q
    obtain ⟨S, env, r, env', rep, e1, q⟩ := q
    simp only [ev] at e1
    obtain ⟨⟨ra, e2⟩, g1, e1⟩ := Option.bind_eq_some_iff.mp e1
    obtain ⟨⟨rb, e3⟩, g2, e1⟩ := Option.bind_eq_some_iff.mp e1
    obtain ⟨dx, g3, e1⟩ := Option.bind_eq_some_iff.mp e1
    obtain ⟨dy, g4, e1⟩ := Option.bind_eq_some_iff.mp e1
    obtain ⟨w, g5, e1⟩ := Option.bind_eq_some_iff.mp e1
    refine ⟨S, env, ra, e2, rep, g1, fun v1 S1 H1 p1 => ⟨S1, e2, rb, e3, p1.rep, g2, fun v2 S2 H2 p2 => ?_⟩⟩
    refine ⟨S2, dx, dy, w, p2.rep.same, p1.res.cur p2.toPst g3, repC_of p2.rep p2.res g4, g5, w, rfl, ?_⟩
    cases w with
    | false =>
      simp only [Bool.false_eq_true, if_false] at e1 ⊢
      cases e1
      exact q _ S2 H2 (psv_gr (p1.toPst.trans p2.toPst) (Gr.refl p2.rep.same) (.bl _) fun _ z => z.elim)
    | true =>
      simp only [if_true] at e1 ⊢
      obtain ⟨⟨rc, e4⟩, g6, e1⟩ := Option.bind_eq_some_iff.mp e1
      obtain ⟨dy', g7, e1⟩ := Option.bind_eq_some_iff.mp e1
      obtain ⟨dz, g8, e1⟩ := Option.bind_eq_some_iff.mp e1
      obtain ⟨k', g9, e1⟩ := Option.map_eq_some_iff.mp e1
      cases e1
      refine ⟨S2, e3, rc, _, p2.rep, g6, fun v3 S3 H3 p3 => ?_⟩
      exact ⟨S3, dy', dz, k', p3.rep.same, p2.res.cur p3.toPst g7, repC_of p3.rep p3.res g8, g9, q _ S3 H3 (psv_gr ((p1.toPst.trans p2.toPst).trans p3.toPst) (Gr.refl p3.rep.same) (.bl _) fun _ z => z.elim)⟩
  have rd_ : ∀ {K : PySem.W.Frag} {σ : St} {H : Hp} {Q : Bool → Hp → Prop}, tT K Γ (.chain op op' a b c) σ H Q → tChain (rCmp K op) (rCmp K op') (tE K Γ a) (tE K Γ b) (tE K Γ c) σ H fun x H' => ∃ k, x = .bl k ∧ Q k H' := by
    intro K σ H Q q
    refine re_ ?_
    obtain ⟨S, env, c', env', rep, e1, q⟩ := q
    obtain ⟨⟨r0, e0⟩, e1, e9⟩ := Option.bind_eq_some_iff.mp (show (ev Γ (.chain op op' a b c) env).bind _ = some _ from e1)
    have hr : ∃ k, r0 = .v (.d (.bool k)) := by
      simp only [ev] at e1
      obtain ⟨⟨ra, e2⟩, g1, e1⟩ := Option.bind_eq_some_iff.mp e1
      obtain ⟨⟨rb, e3⟩, g2, e1⟩ := Option.bind_eq_some_iff.mp e1
      obtain ⟨dx, g3, e1⟩ := Option.bind_eq_some_iff.mp e1
      obtain ⟨dy, g4, e1⟩ := Option.bind_eq_some_iff.mp e1
      obtain ⟨w, g5, e1⟩ := Option.bind_eq_some_iff.mp e1
      cases w with
      | false =>
        simp only [Bool.false_eq_true, if_false] at e1
        cases e1
        exact ⟨_, rfl⟩
      | true =>
        simp only [if_true] at e1
        obtain ⟨⟨rc, e4⟩, g6, e1⟩ := Option.bind_eq_some_iff.mp e1
        obtain ⟨dy', g7, e1⟩ := Option.bind_eq_some_iff.mp e1
        obtain ⟨dz, g8, e1⟩ := Option.bind_eq_some_iff.mp e1
        obtain ⟨k', g9, e1⟩ := Option.map_eq_some_iff.mp e1
        cases e1
        exact ⟨_, rfl⟩
    obtain ⟨kk, rfl⟩ := hr
    cases e9
    refine ⟨S, env, _, _, rep, e1, fun v S' H' p => ?_⟩
    have := (repC_of p.rep p.res (show cur env' (.v (.d (.bool c'))) = some (.bool c') from rfl)).bool
    exact ⟨c', this, q S' H' p.toPst⟩
  refine ⟨fun hX h => ?_, fun hX h => ?_⟩
  · simp only [okE] at h
    split at h
    · rename_i x o o' y z p
      simp only [Bool.and_eq_true, decide_eq_true_eq] at h
      obtain ⟨⟨⟨⟨⟨h1, h2⟩, h3⟩, h4⟩, h5⟩, h6⟩ := h
      subst h1 h2
      exact PE.imp (pe_chain (r_cmp op hX.hu) (r_cmp op' hX.hu) (ha.e hX h4) (hb.e hX h5) (hc.e hX h6) (nomarkE h3)) fun σ H Q q => re_ q
    · cases h
  · simp only [okE] at h
    split at h
    · rename_i x o o' y z p
      simp only [Bool.and_eq_true, decide_eq_true_eq] at h
      obtain ⟨⟨⟨⟨⟨h1, h2⟩, h3⟩, h4⟩, h5⟩, h6⟩ := h
      subst h1 h2
      exact PT.imp (pt_chain (r_cmp op hX.hu) (r_cmp op' hX.hu) (ha.e hX h4) (hb.e hX h5) (hc.e hX h6) (nomarkE h3)) fun σ H Q q => rd_ q
    · cases h
end
end Ev

namespace Ev
open PySem L2
section
variable {Γ : Ctx} {T : Tab} {N : List Str} {sc scT : Scope} {k : Nat} {X : Cx}
theorem pw_of {op : BoolOp} {vs : List Expr} {p : Pos} {t : TT} (h : PT X (.BoolOp op vs p) t) : PW X (.BoolOp op vs p) t := ⟨fun _ pins s σ H Q I q => h.run pins s σ H Q I q⟩
theorem evC_of {m : ME} {env e1 : Env} {r : Rv} {c : Bool} (h : ev Γ m env = some (r, e1)) (h2 : truR e1 r = some c) : evC Γ m env = some (c, e1) := by
  unfold evC
  rw [h]
  simp [h2]
theorem evC_to {m : ME} {env e1 : Env} {c : Bool} (h : evC Γ m env = some (c, e1)) : ∃ r, ev Γ m env = some (r, e1) ∧ truR e1 r = some c := by
  obtain ⟨⟨r, e⟩, h1, h2⟩ := Option.bind_eq_some_iff.mp (show (ev Γ m env).bind _ = some _ from h)
  obtain ⟨c', h3, h4⟩ := Option.map_eq_some_iff.mp h2
  cases h4
  exact ⟨r, h1, h3⟩
theorem tru_of {K : PySem.W.Frag} {S H S' H' : Hp} {σ : St} {env env' : Env} {v : V} {r : Rv} {c : Bool} (p : Psv K S H σ env S' H' env' v r) (h : truR env' r = some c) : TruV K v H' c := by
  obtain ⟨x, h5, h6⟩ := Option.bind_eq_some_iff.mp (show (cur env' r).bind truD = some c from h)
  exact tru_rep p.rep.same (repC_of p.rep p.res h5) h6
theorem psv_trans {K : PySem.W.Frag} {S H S1 H1 S2 H2 : Hp} {σ : St} {env env1 env2 : Env} {v : V} {r : Rv} (a : Pst K S H σ env S1 H1 env1) (b : Psv K S1 H1 σ env1 S2 H2 env2 v r) : Psv K S H σ env S2 H2 env2 v r :=
  ⟨a.trans b.toPst, b.res, fun w e c hc => by
    have h := b.new w e c hc
    cases q : H c with
    | none => rfl
    | some o => exact absurd h (a.step.dm c (by rw [q]; simp))⟩
theorem snd_and {a b : ME} (ha : SndE Γ T N a) (hb : SndE Γ T N b) : SndE Γ T N (.andE a b) := by
  have re_ : ∀ {K : PySem.W.Frag} {σ : St} {H : Hp} {Q : VK}, tE K Γ (.andE a b) σ H Q → tAndT K (tE K Γ a) (tE K Γ b) σ H Q := by
    intro K σ H Q q
    obtain ⟨S, env, r, env', rep, e1, q⟩ := q
    simp only [ev] at e1
    obtain ⟨⟨ra, e2⟩, g1, e1⟩ := Option.bind_eq_some_iff.mp e1
    obtain ⟨c, g2, e1⟩ := Option.bind_eq_some_iff.mp e1
    refine ⟨S, env, ra, e2, rep, g1, fun v1 S1 H1 p1 => ⟨c, tru_of p1 g2, ?_⟩⟩
    cases c with
    | true =>
      simp only [if_true] at e1 ⊢
      exact ⟨S1, e2, r, env', p1.rep, e1, fun v2 S2 H2 p2 => q v2 S2 H2 (psv_trans p1.toPst p2)⟩
    | false =>
      simp only [Bool.false_eq_true, if_false] at e1 ⊢
      cases e1
      exact q v1 S1 H1 p1
  have rt_ : ∀ {K : PySem.W.Frag} {σ : St} {H : Hp} {Q : Bool → Hp → Prop}, tT K Γ (.andE a b) σ H Q → tAnd (tT K Γ a) (tT K Γ b) σ H Q := by
    intro K σ H Q q
    obtain ⟨S, env, c, env', rep, e1, q⟩ := q
    obtain ⟨r, e1, e9⟩ := evC_to e1
    simp only [ev] at e1
    obtain ⟨⟨ra, e2⟩, g1, e1⟩ := Option.bind_eq_some_iff.mp e1
    obtain ⟨d, g2, e1⟩ := Option.bind_eq_some_iff.mp e1
    refine ⟨S, env, d, e2, rep, evC_of g1 g2, fun S1 H1 p1 => ?_⟩
    cases d with
    | true =>
      simp only [if_true] at e1 ⊢
      exact ⟨S1, e2, c, env', p1.rep, evC_of e1 e9, fun S2 H2 p2 => q S2 H2 (p1.trans p2)⟩
    | false =>
      simp only [Bool.false_eq_true, if_false] at e1 ⊢
      cases e1
      rw [g2] at e9
      cases e9
      exact q S1 H1 p1
  refine ⟨fun hX h => ?_, fun hX h => ?_⟩
  · simp only [okE] at h
    split at h
    · rename_i x y p
      rw [Bool.and_eq_true] at h
      exact PE.imp (pe_andT (ha.e hX h.1) (pe_one (hb.e hX h.2))) fun σ H Q q => re_ q
    · rename_i x y z r p
      rw [Bool.and_eq_true] at h
      exact PE.imp (pe_andT (ha.e hX h.1) (hb.e hX h.2)) fun σ H Q q => re_ q
    · cases h
  · simp only [okE] at h
    split at h
    · rename_i x y p
      rw [Bool.and_eq_true] at h
      exact PT.imp (pw_and (ha.t hX h.1) (pw_and1 (hb.t hX h.2))).pt fun σ H Q q => rt_ q
    · rename_i x y z r p
      rw [Bool.and_eq_true] at h
      exact PT.imp (pw_and (ha.t hX h.1) (pw_of (hb.t hX h.2))).pt fun σ H Q q => rt_ q
    · cases h
theorem snd_or {a b : ME} (ha : SndE Γ T N a) (hb : SndE Γ T N b) : SndE Γ T N (.orE a b) := by
  have re_ : ∀ {K : PySem.W.Frag} {σ : St} {H : Hp} {Q : VK}, tE K Γ (.orE a b) σ H Q → tOrT K (tE K Γ a) (tE K Γ b) σ H Q := by
    intro K σ H Q q
    obtain ⟨S, env, r, env', rep, e1, q⟩ := q
    simp only [ev] at e1
    obtain ⟨⟨ra, e2⟩, g1, e1⟩ := Option.bind_eq_some_iff.mp e1
    obtain ⟨c, g2, e1⟩ := Option.bind_eq_some_iff.mp e1
    refine ⟨S, env, ra, e2, rep, g1, fun v1 S1 H1 p1 => ⟨c, tru_of p1 g2, ?_⟩⟩
    cases c with
    | false =>
      simp only [Bool.false_eq_true, if_false] at e1 ⊢
      exact ⟨S1, e2, r, env', p1.rep, e1, fun v2 S2 H2 p2 => q v2 S2 H2 (psv_trans p1.toPst p2)⟩
    | true =>
      simp only [if_true] at e1 ⊢
      cases e1
      exact q v1 S1 H1 p1
  have rt_ : ∀ {K : PySem.W.Frag} {σ : St} {H : Hp} {Q : Bool → Hp → Prop}, tT K Γ (.orE a b) σ H Q → tOr (tT K Γ a) (tT K Γ b) σ H Q := by
    intro K σ H Q q
    obtain ⟨S, env, c, env', rep, e1, q⟩ := q
    obtain ⟨r, e1, e9⟩ := evC_to e1
    simp only [ev] at e1
    obtain ⟨⟨ra, e2⟩, g1, e1⟩ := Option.bind_eq_some_iff.mp e1
    obtain ⟨d, g2, e1⟩ := Option.bind_eq_some_iff.mp e1
    refine ⟨S, env, d, e2, rep, evC_of g1 g2, fun S1 H1 p1 => ?_⟩
    cases d with
    | false =>
      simp only [Bool.false_eq_true, if_false] at e1 ⊢
      exact ⟨S1, e2, c, env', p1.rep, evC_of e1 e9, fun S2 H2 p2 => q S2 H2 (p1.trans p2)⟩
    | true =>
      simp only [if_true] at e1 ⊢
      cases e1
      rw [g2] at e9
      cases e9
      exact q S1 H1 p1
  refine ⟨fun hX h => ?_, fun hX h => ?_⟩
  · simp only [okE] at h
    split at h
    · rename_i x y p
      rw [Bool.and_eq_true] at h
      exact PE.imp (pe_orT (ha.e hX h.1) (pe_one (hb.e hX h.2))) fun σ H Q q => re_ q
    · rename_i x y z r p
      rw [Bool.and_eq_true] at h
      exact PE.imp (pe_orT (ha.e hX h.1) (hb.e hX h.2)) fun σ H Q q => re_ q
    · cases h
  · simp only [okE] at h
    split at h
    · rename_i x y p
      rw [Bool.and_eq_true] at h
      exact PT.imp (pw_or (ha.t hX h.1) (pw_or1 (hb.t hX h.2))).pt fun σ H Q q => rt_ q
    · rename_i x y z r p
      rw [Bool.and_eq_true] at h
      exact PT.imp (pw_or (ha.t hX h.1) (pw_of (hb.t hX h.2))).pt fun σ H Q q => rt_ q
    · cases h
theorem snd_not {a : ME} (ha : SndE Γ T N a) : SndE Γ T N (.notE a) := by
  refine ⟨fun hX h => ?_, fun hX h => ?_⟩
  · simp only [okE] at h
    split at h
    · simp only [Bool.and_eq_true, decide_eq_true_eq] at h
      obtain ⟨h1, h2⟩ := h
      subst h1
      refine PE.imp (pe_notT (ha.e hX h2)) fun σ H Q q => ?_
      obtain ⟨S, env, r, env', rep, e1, q⟩ := q
      simp only [ev] at e1
      obtain ⟨⟨ra, e2⟩, g1, e1⟩ := Option.bind_eq_some_iff.mp e1
      obtain ⟨c, g2, e1⟩ := Option.map_eq_some_iff.mp e1
      cases e1
      exact ⟨S, env, ra, _, rep, g1, fun v1 S1 H1 p1 => ⟨c, tru_of p1 g2, q _ S1 H1 (psv_gr p1.toPst (Gr.refl p1.rep.same) (.bl _) fun _ z => z.elim)⟩⟩
    · cases h
  · simp only [okE] at h
    split at h
    · simp only [Bool.and_eq_true, decide_eq_true_eq] at h
      obtain ⟨h1, h2⟩ := h
      subst h1
      refine PT.imp (pt_not (ha.t hX h2)) fun σ H Q q => ?_
      obtain ⟨S, env, c, env', rep, e1, q⟩ := q
      obtain ⟨r, e1, e9⟩ := evC_to e1
      simp only [ev] at e1
      obtain ⟨⟨ra, e2⟩, g1, e1⟩ := Option.bind_eq_some_iff.mp e1
      obtain ⟨d, g2, e1⟩ := Option.map_eq_some_iff.mp e1
      cases e1
      cases e9
      exact ⟨S, env, d, _, rep, evC_of g1 g2, fun S1 H1 p1 => q S1 H1 p1⟩
    · cases h
theorem snd_ite {c a b : ME} (hc : SndE Γ T N c) (ha : SndE Γ T N a) (hb : SndE Γ T N b) : SndE Γ T N (.ite c a b) := by
  refine ⟨fun hX h => ?_, fun {sc scT k X0 e} hX h => ?_⟩
  · simp only [okE] at h
    split at h
    · simp only [Bool.and_eq_true] at h
      obtain ⟨⟨h1, h2⟩, h3⟩ := h
      refine PE.imp (pe_ifExp (hc.t hX h1) (ha.e hX h2) (hb.e hX h3)) fun σ H Q q => ?_
      obtain ⟨S, env, r, env', rep, e1, q⟩ := q
      simp only [ev] at e1
      obtain ⟨⟨rc, e2⟩, g1, e1⟩ := Option.bind_eq_some_iff.mp e1
      obtain ⟨d, g2, e1⟩ := Option.bind_eq_some_iff.mp e1
      refine ⟨S, env, d, e2, rep, evC_of g1 g2, fun S1 H1 p1 => ?_⟩
      cases d with
      | true =>
        simp only [if_true] at e1 ⊢
        exact ⟨S1, e2, r, env', p1.rep, e1, fun v2 S2 H2 p2 => q v2 S2 H2 (psv_trans p1 p2)⟩
      | false =>
        simp only [Bool.false_eq_true, if_false] at e1 ⊢
        exact ⟨S1, e2, r, env', p1.rep, e1, fun v2 S2 H2 p2 => q v2 S2 H2 (psv_trans p1 p2)⟩
    · cases h
  · simp only [okE] at h
    split at h
    · rename_i z x y p
      simp only [Bool.and_eq_true] at h
      obtain ⟨⟨h1, h2⟩, h3⟩ := h
      refine ⟨fun pins s σ H Q I q => ?_⟩
      obtain ⟨S, env, c', env', rep, e1, q⟩ := q
      obtain ⟨r, e1, e9⟩ := evC_to e1
      simp only [ev] at e1
      obtain ⟨⟨rc, e2⟩, g1, e1⟩ := Option.bind_eq_some_iff.mp e1
      obtain ⟨d, g2, e1⟩ := Option.bind_eq_some_iff.mp e1
      show wpAny _ _ (do if (← PySem.isTrue z X0.env (eval z X0.env)) then PySem.isTrue x X0.env (eval x X0.env) else PySem.isTrue y X0.env (eval y X0.env)) _ _ s
      refine wpAny_bind (thn ((hc.t hX h1).run pins s σ H (fun dd H1 => if dd = true then tT X0.K Γ a σ H1 Q else tT X0.K Γ b σ H1 Q) I ⟨S, env, d, e2, rep, evC_of g1 g2, fun S1 H1 p1 => ?_⟩) fun d' s1 ⟨H1, I1, q1⟩ => ?_)
      · cases d with
        | true =>
          simp only [if_true] at e1 ⊢
          exact ⟨S1, e2, c', env', p1.rep, evC_of e1 e9, fun S2 H2 p2 => q S2 H2 (p1.trans p2)⟩
        | false =>
          simp only [Bool.false_eq_true, if_false] at e1 ⊢
          exact ⟨S1, e2, c', env', p1.rep, evC_of e1 e9, fun S2 H2 p2 => q S2 H2 (p1.trans p2)⟩
      · cases d' with
        | true => exact (ha.t hX h2).run pins s1 σ H1 Q I1 q1
        | false => exact (hb.t hX h3).run pins s1 σ H1 Q I1 q1
    · cases h

/-! ### displays, subscripts -/
structure SndL (Γ : Ctx) (T : Tab) (N : List Str) (ms : List ME) : Prop where
  l : ∀ {sc scT k X xs}, XOk Γ T N sc scT k X → okL T N ms sc xs = true → PA X xs (tL X.K Γ ms)
  f : ∀ {sc scT k X xs}, XOk Γ T N sc scT k X → okL T N ms sc xs = true → PA X xs (tF X.K Γ ms)
theorem sndl_nil : SndL Γ T N [] := by
  refine ⟨fun hX h => ?_, fun hX h => ?_⟩
  · simp only [okL] at h
    split at h
    · refine PA.imp pa_nil fun σ H Q q => ?_
      obtain ⟨S, env, rs, env', rep, e1, q⟩ := q
      cases e1
      exact q [] S H (Psl.nil rep)
    · cases h
  · simp only [okL] at h
    split at h
    · refine PA.imp pa_nil fun σ H Q q => ?_
      obtain ⟨S, env, rs, env', rep, e1, q⟩ := q
      cases e1
      exact q [] S H (Pst.refl rep) .nil
    · cases h
theorem sndl_cons {m : ME} {ms : List ME} (h1 : SndE Γ T N m) (h2 : SndL Γ T N ms) : SndL Γ T N (m :: ms) := by
  refine ⟨fun hX h => ?_, fun hX h => ?_⟩
  · simp only [okL] at h
    split at h
    · simp only [Bool.and_eq_true] at h
      obtain ⟨⟨k1, k2⟩, k3⟩ := h
      refine PA.imp (pa_cons (h1.e hX k2) (h2.l hX k3) (star_fine k1)) fun σ H Q q => ?_
      obtain ⟨S, env, rs, env', rep, e1, q⟩ := q
      simp only [evL] at e1
      obtain ⟨⟨r, e2⟩, g1, e1⟩ := Option.bind_eq_some_iff.mp e1
      obtain ⟨⟨rs', e3⟩, g2, e1⟩ := Option.map_eq_some_iff.mp e1
      cases e1
      exact ⟨S, env, r, e2, rep, g1, fun v S1 H1 p1 => ⟨S1, e2, rs', _, p1.rep, g2, fun vs S2 H2 p2 => q (v :: vs) S2 H2 (Psl.cons p1 p2)⟩⟩
    · cases h
  · simp only [okL] at h
    split at h
    · simp only [Bool.and_eq_true] at h
      obtain ⟨⟨k1, k2⟩, k3⟩ := h
      refine PA.imp (pa_cons (h1.e hX k2) (h2.f hX k3) (star_fine k1)) fun σ H Q q => ?_
      obtain ⟨S, env, rs, env', rep, e1, q⟩ := q
      simp only [evF] at e1
      obtain ⟨⟨r, e2⟩, g1, e1⟩ := Option.bind_eq_some_iff.mp e1
      obtain ⟨⟨x, e3⟩, g2, e1⟩ := Option.bind_eq_some_iff.mp e1
      obtain ⟨⟨rs', e4⟩, g3, e1⟩ := Option.map_eq_some_iff.mp e1
      cases e1
      refine ⟨S, env, r, e2, rep, g1, fun v S1 H1 p1 => ?_⟩
      obtain ⟨S2, p2, r2, _⟩ := fz_ok p1 g2
      exact ⟨S2, e3, rs', _, p2.rep, g3, fun vs S3 H3 p3 r3 => q (v :: vs) S3 H3 (p2.trans p3) (.cons (dpMono p3.step.st r2) r3)⟩
    · cases h
theorem okL_len : ∀ {ms : List ME} {sc : Scope} {xs : List Expr}, okL T N ms sc xs = true → ms.length = xs.length
  | [], sc, xs, h => by
    simp only [okL] at h
    split at h
    · rfl
    · cases h
  | m :: ms, sc, xs, h => by
    simp only [okL] at h
    split at h
    · simp only [Bool.and_eq_true] at h
      simp [okL_len h.2]
    · cases h
theorem evF_len : ∀ {ms : List ME} {env env' : Env} {xs : List D}, evF Γ ms env = some (xs, env') → xs.length = ms.length
  | [], env, env', xs, h => by cases h; rfl
  | m :: ms, env, env', xs, h => by
    simp only [evF] at h
    obtain ⟨⟨r, e2⟩, g1, e1⟩ := Option.bind_eq_some_iff.mp h
    obtain ⟨⟨x, e3⟩, g2, e1⟩ := Option.bind_eq_some_iff.mp e1
    obtain ⟨⟨rs', e4⟩, g3, e1⟩ := Option.map_eq_some_iff.mp e1
    cases e1
    simp [evF_len g3]
theorem small_line {n : Nat} (h : n ≤ 1000) : n ≤ sizeLine := by rw [sizeLine_eq]; omega
theorem snd_tup {es : List ME} (h0 : SndL Γ T N es) : SndE Γ T N (.tup es) := by
  have ee : ∀ {sc scT k X e}, XOk Γ T N sc scT k X → okE T N (.tup es) sc e = true → PE X e (tE X.K Γ (.tup es)) := by
    intro sc scT k X e hX h
    simp only [okE] at h
    split at h
    · simp only [Bool.and_eq_true, decide_eq_true_eq] at h
      obtain ⟨k1, k2⟩ := h
      refine PE.imp (pe_tup (h0.f hX k1)) fun σ H Q q => ?_
      obtain ⟨S, env, r, env', rep, e1, q⟩ := q
      simp only [ev] at e1
      obtain ⟨⟨xs, e2⟩, g1, e1⟩ := Option.map_eq_some_iff.mp e1
      cases e1
      refine ⟨S, env, xs, _, rep, g1, fun vs S1 H1 p1 r1 => ⟨?_, fun p hp => ?_⟩⟩
      · rw [dps_len r1, evF_len g1, okL_len k1]; exact small_line k2
      · exact q _ _ _ (psv_gr p1 (Gr.newS p1.rep.same hp) (.tup (SqT.of upd_same) (dpsMono (Gr.newS p1.rep.same hp).st r1)) fun _ z => z.elim)
    · cases h
  refine ⟨ee, fun hX h => ?_⟩
  rename_i sc scT k X e
  have h2 := h
  simp only [okE] at h2
  split at h2
  · exact tru_tT (ee hX h) fun _ => rfl
  · cases h2
theorem snd_lst {es : List ME} (h0 : SndL Γ T N es) : SndE Γ T N (.lst es) := by
  have ee : ∀ {sc scT k X e}, XOk Γ T N sc scT k X → okE T N (.lst es) sc e = true → PE X e (tE X.K Γ (.lst es)) := by
    intro sc scT k X e hX h
    simp only [okE] at h
    split at h
    · simp only [Bool.and_eq_true, decide_eq_true_eq] at h
      obtain ⟨k1, k2⟩ := h
      refine PE.imp (pe_lst (h0.f hX k1)) fun σ H Q q => ?_
      obtain ⟨S, env, r, env', rep, e1, q⟩ := q
      simp only [ev] at e1
      obtain ⟨⟨xs, e2⟩, g1, e1⟩ := Option.map_eq_some_iff.mp e1
      cases e1
      refine ⟨S, env, xs, _, rep, g1, fun vs S1 H1 p1 r1 => ⟨?_, fun p hp => ?_⟩⟩
      · rw [dps_len r1, evF_len g1, okL_len k1]; exact small_line k2
      · exact q _ _ _ (psv_gr p1 (Gr.newH p1.rep.same hp) ⟨p, vs, rfl, p1.rep.same.free hp, upd_same, r1⟩ fun b z => by cases z; exact hp)
    · cases h
  refine ⟨ee, fun hX h => ?_⟩
  rename_i sc scT k X e
  have h2 := h
  simp only [okE] at h2
  split at h2
  · exact tru_tT (ee hX h) fun _ => rfl
  · cases h2
theorem snd_idx {a b : ME} (ha : SndE Γ T N a) (hb : SndE Γ T N b) : SndE Γ T N (.idx a b) := by
  have ee : ∀ {sc scT k X e}, XOk Γ T N sc scT k X → okE T N (.idx a b) sc e = true → PE X e (tE X.K Γ (.idx a b)) := by
    intro sc scT k X e hX h
    simp only [okE] at h
    split at h
    · simp only [Bool.and_eq_true] at h
      obtain ⟨⟨h1, h2⟩, h3⟩ := h
      refine PE.imp (pe_ix r_idx (ha.e hX h2) (hb.e hX h3) (plainIx h1)) fun σ H Q q => ?_
      obtain ⟨S, env, r, env', rep, e1, q⟩ := q
      simp only [ev] at e1
      obtain ⟨⟨ra, e2⟩, g1, e1⟩ := Option.bind_eq_some_iff.mp e1
      obtain ⟨⟨rb, e3⟩, g2, e1⟩ := Option.bind_eq_some_iff.mp e1
      obtain ⟨dx, g3, e1⟩ := Option.bind_eq_some_iff.mp e1
      obtain ⟨dy, g4, e1⟩ := Option.bind_eq_some_iff.mp e1
      obtain ⟨w, g5, e1⟩ := Option.map_eq_some_iff.mp e1
      cases e1
      refine ⟨S, env, ra, e2, rep, g1, fun v1 S1 H1 p1 => ⟨S1, e2, rb, _, p1.rep, g2, fun v2 S2 H2 p2 => ?_⟩⟩
      exact ⟨S2, dx, dy, w, p2.rep.same, p1.res.cur p2.toPst g3, repC_of p2.rep p2.res g4, g5, fun v S' H' g rv n => q v S' H' (psv_gr (p1.toPst.trans p2.toPst) g rv n)⟩
    · cases h
  refine ⟨ee, fun hX h => ?_⟩
  rename_i sc scT k X e
  have h2 := h
  simp only [okE] at h2
  split at h2
  · exact tru_tT (ee hX h) fun _ => rfl
  · cases h2
/-- a part of a slice -/
def tPt (K : PySem.W.Frag) (Γ : Ctx) (m : ME) : TO := fun σ H Q => ∃ S env r env', RepEnv K S H σ env ∧ ev Γ m env = some (r, env') ∧ ∃ x o, cur env' r = some x ∧ part (isNoneC m) x = some o ∧ ∀ S' H', Pst K S H σ env S' H' env' → Q o H'
theorem isNoneC_p {m : ME} (h : isNoneC m = true) : m = .con .none := by
  unfold isNoneC at h
  split at h
  · rfl
  · cases h
theorem isNoneC_ok {m : ME} {l : Expr} (h : isNoneC m = true) : okE T N m sc l = true → ∃ j p, l = .Constant .none j p := by
  rw [isNoneC_p h]
  intro q
  simp only [okE] at q
  split at q
  · rename_i c j p
    unfold conB at q
    split at q <;> first | exact ⟨_, _, rfl⟩ | (simp_all; done) | cases q
  · cases q
theorem po_ok {m : ME} {l : Option Expr} (hm : SndE Γ T N m) (hX : XOk Γ T N sc scT k X) (h : (match l with | none => isNoneC m | some l => !isNoneC m && okE T N m sc l) = true) : PO X l (tPt X.K Γ m) := by
  refine ⟨fun pins s σ H Q I q => ?_⟩
  obtain ⟨S, env, r, env', rep, e1, x, o, e2, e3, q⟩ := q
  cases l with
  | none =>
    have h : isNoneC m = true := h
    rw [h] at e3
    cases e3
    rw [isNoneC_p h] at e1
    cases e1
    exact po_none.run pins s σ H Q I (q S H (Pst.refl rep))
  | some l =>
    have h : (!isNoneC m && okE T N m sc l) = true := h
    rw [Bool.and_eq_true, Bool.not_eq_true'] at h
    rw [h.1] at e3
    simp only [part, Bool.false_eq_true, if_false] at e3
    split at e3
    · cases e3
      exact (po_some (hm.e hX h.2)).run pins s σ H Q I ⟨S, env, r, env', rep, e1, fun v S1 H1 p1 => ⟨_, (repC_of p1.rep p1.res e2).int, q S1 H1 p1.toPst⟩⟩
    · cases e3
theorem snd_sli {a lo hi : ME} (ha : SndE Γ T N a) (hl : SndE Γ T N lo) (hh : SndE Γ T N hi) : SndE Γ T N (.sli a lo hi) := by
  have ee : ∀ {sc scT k X e}, XOk Γ T N sc scT k X → okE T N (.sli a lo hi) sc e = true → PE X e (tE X.K Γ (.sli a lo hi)) := by
    intro sc scT k X e hX h
    simp only [okE] at h
    split at h
    · simp only [Bool.and_eq_true] at h
      obtain ⟨⟨h1, h2⟩, h3⟩ := h
      refine PE.imp (pe_slice r_sli (ha.e hX h1) (po_ok hl hX h2) (po_ok hh hX h3)) fun σ H Q q => ?_
      obtain ⟨S, env, r, env', rep, e1, q⟩ := q
      simp only [ev] at e1
      obtain ⟨⟨ra, e2⟩, g1, e1⟩ := Option.bind_eq_some_iff.mp e1
      obtain ⟨⟨rl, e3⟩, g2, e1⟩ := Option.bind_eq_some_iff.mp e1
      obtain ⟨⟨rh, e4⟩, g3, e1⟩ := Option.bind_eq_some_iff.mp e1
      obtain ⟨dx, g4, e1⟩ := Option.bind_eq_some_iff.mp e1
      obtain ⟨dl, g5, e1⟩ := Option.bind_eq_some_iff.mp e1
      obtain ⟨l', g6, e1⟩ := Option.bind_eq_some_iff.mp e1
      obtain ⟨dh, g7, e1⟩ := Option.bind_eq_some_iff.mp e1
      obtain ⟨h', g8, e1⟩ := Option.bind_eq_some_iff.mp e1
      obtain ⟨w, g9, e1⟩ := Option.map_eq_some_iff.mp e1
      cases e1
      refine ⟨S, env, ra, e2, rep, g1, fun v1 S1 H1 p1 => ⟨S1, e2, rl, e3, p1.rep, g2, dl, l', ?_, g6, fun S2 H2 p2 => ⟨S2, e3, rh, _, p2.rep, g3, dh, h', g7, g8, fun S3 H3 p3 => ?_⟩⟩⟩
      · exact g5
      · exact ⟨S3, dx, w, p3.rep.same, p1.res.cur (p2.trans p3) g4, g9, fun v S' H' g rv n => q v S' H' (psv_gr ((p1.toPst.trans p2).trans p3) g rv n)⟩
    · cases h
  refine ⟨ee, fun hX h => ?_⟩
  rename_i sc scT k X e
  have h2 := h
  simp only [okE] at h2
  split at h2
  · exact tru_tT (ee hX h) fun _ => rfl
  · cases h2
end
end Ev

namespace Ev
open PySem L2
section
variable {Γ : Ctx} {T : Tab} {N : List Str} {sc scT : Scope} {k : Nat} {X : Cx}
/-! ### calls -/
theorem okL_plain : ∀ {ms : List ME} {sc : Scope} {xs : List Expr} {env : PySem.Env}, okL T N ms sc xs = true → ∀ (pos : Pos), (backTo pos (starEach xs env)).any (·.1) = false
  | [], sc, xs, env, h, pos => by
    simp only [okL] at h
    split at h
    · rfl
    · cases h
  | m :: ms, sc, xs, env, h, pos => by
    simp only [okL] at h
    split at h
    · simp only [Bool.and_eq_true] at h
      rw [star_fine h.1.1]
      have := okL_plain (env := env) h.2 pos
      unfold backTo at this ⊢
      rw [List.map_cons, List.any_cons, this]
      rfl
    · cases h
theorem snd_call (f : Nat) {es : List ME} (h0 : SndL Γ T N es) : SndE Γ T N (.call f es) := by
  have re_ : ∀ {K : PySem.W.Frag} {σ : St} {H : Hp} {Q : VK}, tE K Γ (.call f es) σ H Q → tCall (spC K (Γ.C f)) [] E0 (tL K Γ es) σ H Q := by
    intro K σ H Q q
    obtain ⟨S, env, r, env', rep, e1, q⟩ := q
    simp only [ev] at e1
    obtain ⟨⟨rs, e2⟩, g1, e1⟩ := Option.bind_eq_some_iff.mp e1
    unfold doCall at e1
    obtain ⟨hn, e1⟩ := (Option.ite_none_right_eq_some ..).mp e1
    obtain ⟨ws, g2, e1⟩ := Option.bind_eq_some_iff.mp e1
    obtain ⟨⟨v, ws'⟩, g3, e1⟩ := Option.map_eq_some_iff.mp e1
    cases e1
    refine ⟨S, env, rs, e2, rep, g1, fun vs S1 H1 p1 => ?_⟩
    obtain ⟨Sc, k1, k2⟩ := call_ok (w := v) (ws' := ws') p1 hn g2
    rw [List.append_nil]
    exact ⟨Sc, ws, v, ws', k1, g3, fun v' S' H' st rp sub rv fr => by
      obtain ⟨S2, p⟩ := k2 v' S' H' st rp sub rv fr
      exact q v' S2 H' p⟩
  have ee : ∀ {sc scT k X e}, XOk Γ T N sc scT k X → okE T N (.call f es) sc e = true → PE X e (tE X.K Γ (.call f es)) := by
    intro sc scT k X e hX h
    simp only [okE] at h
    split at h
    · rename_i x p xs pos
      simp only [Bool.and_eq_true, decide_eq_true_eq] at h
      obtain ⟨⟨⟨h1, h2⟩, h3⟩, h4⟩ := h
      obtain ⟨n1, _, _⟩ := nmB_p h3
      obtain ⟨fa, fd, ps, m1, m2, m3, m4⟩ := hX.fn f x h1
      have hA := h0.l hX h4
      cases xs with
      | nil =>
        refine PE.imp (pe_call0 m4 hX.room (hX.glo h2) m1 m2 m3 .nil pass0 n1) fun σ H Q q => ?_
        have q := re_ q
        obtain ⟨S, env, rs, env', rep, e1, q⟩ := q
        have hl : es = [] := by
          have := okL_len h4
          cases es with
          | nil => rfl
          | cons _ _ => simp at this
        subst hl
        cases e1
        exact q [] S H (Psl.nil rep)
      | cons y ys =>
        have hs : starEach (y :: ys) X.env = (false, eval y X.env) :: starEach ys X.env := by
          cases es with
          | nil => simp [okL] at h4
          | cons m ms =>
            simp only [okL, Bool.and_eq_true] at h4
            exact star_fine h4.1.1
        have hp : (backTo pos (starEach ys X.env)).any (·.1) = false := by
          have := okL_plain (env := X.env) h4 pos
          rw [hs] at this
          unfold backTo at this ⊢
          rw [List.map_cons, List.any_cons] at this
          simpa using this
        exact PE.imp (pe_call m4 hX.room (hX.glo h2) m1 m2 m3 .nil pass0 hA n1 hs hp) fun σ H Q q => re_ q
    · cases h
  refine ⟨ee, fun hX h => ?_⟩
  rename_i sc scT k X e
  have h2 := h
  simp only [okE] at h2
  split at h2
  · exact tru_tT (ee hX h) fun _ => rfl
  · cases h2
theorem repCs_of {K : PySem.W.Frag} {S H H0 : Hp} {σ : St} {env : Env} (p : RepEnv K S H σ env) : ∀ {vs : List V} {rs : List Rv} {xs : List D}, RepRs K S H σ env H0 vs rs → curs env rs = some xs → RepCs K S H vs xs
  | _, _, _, .nil, e => by cases e; exact .nil
  | _, _, _, .cons h1 _ h3, e => by
    obtain ⟨x, e1, e2⟩ := Option.bind_eq_some_iff.mp (show ((cur env _).bind fun x => (curs env _).map (x :: ·)) = some _ from e)
    obtain ⟨ys, e3, e4⟩ := Option.map_eq_some_iff.mp e2
    subst e4
    exact .cons (repC_of p h1 e1) (repCs_of p h3 e3)
theorem pe_biV (b : Bi) {p pos : Pos} {e : Expr} {es : List Expr} {t : TA} (hgd : b = .repr → X.A.guards = some []) (hX : XOk Γ T N sc scT k X) (hg : Gl X (biN b)) (hm : X.mg (biN b) = none) (ha : PA X (e :: es) t)
    (he : starEach (e :: es) X.env = (false, eval e X.env) :: starEach es X.env) (hpl : (backTo pos (starEach es X.env)).any (·.1) = false) : PE X (.Call (.Name (biN b) p) (e :: es) [] pos) (tCB (rBi X.K b) t) := by
  have hc := hX.calm
  have hu := hX.hu
  cases b with
  | len => exact pe_callB (r_bi .len hgd hc hu) hg hm (by decide +kernel) ha (by decide) (by decide) he hpl
  | abs => exact pe_callB (r_bi .abs hgd hc hu) hg hm (by decide +kernel) ha (by decide) (by decide) he hpl
  | int => exact pe_callTy (r_bi .int hgd hc hu) hg hm (by decide +kernel) ha (by decide) (by decide) he hpl
  | min1 => exact pe_callB (r_bi .min1 hgd hc hu) hg hm (by decide +kernel) ha (by decide) (by decide) he hpl
  | max1 => exact pe_callB (r_bi .max1 hgd hc hu) hg hm (by decide +kernel) ha (by decide) (by decide) he hpl
  | min2 => exact pe_callB (r_bi .min2 hgd hc hu) hg hm (by decide +kernel) ha (by decide) (by decide) he hpl
  | max2 => exact pe_callB (r_bi .max2 hgd hc hu) hg hm (by decide +kernel) ha (by decide) (by decide) he hpl
  | sum => exact pe_callB (r_bi .sum hgd hc hu) hg hm (by decide +kernel) ha (by decide) (by decide) he hpl
  | sorted => exact pe_callB (r_bi .sorted hgd hc hu) hg hm (by decide +kernel) ha (by decide) (by decide) he hpl
  | list => exact pe_callTy (r_bi .list hgd hc hu) hg hm (by decide +kernel) ha (by decide) (by decide) he hpl
  | tuple => exact pe_callTy (r_bi .tuple hgd hc hu) hg hm (by decide +kernel) ha (by decide) (by decide) he hpl
  | any => exact pe_callB (r_bi .any hgd hc hu) hg hm (by decide +kernel) ha (by decide) (by decide) he hpl
  | all => exact pe_callB (r_bi .all hgd hc hu) hg hm (by decide +kernel) ha (by decide) (by decide) he hpl
  | repr => exact pe_callB (r_bi .repr hgd hc hu) hg hm (by decide +kernel) ha (by decide) (by decide) he hpl
theorem snd_bi (b : Bi) {es : List ME} (h0 : SndL Γ T N es) : SndE Γ T N (.bi b es) := by
  have ee : ∀ {sc scT k X e}, XOk Γ T N sc scT k X → okE T N (.bi b es) sc e = true → PE X e (tE X.K Γ (.bi b es)) := by
    intro sc scT k X e hX h
    simp only [okE] at h
    split at h
    · rename_i x p xs pos
      simp only [Bool.and_eq_true, decide_eq_true_eq] at h
      obtain ⟨⟨⟨⟨⟨h1, h2⟩, h3⟩, h5⟩, h4⟩, h6⟩ := h
      subst h1
      have hgd : b = .repr → X.A.guards = some [] := fun z => by
        subst z
        exact hX.gd (by simpa [isRp] using h6)
      have hA := h0.l hX h4
      cases xs with
      | nil => cases h5
      | cons y ys =>
        have hs : starEach (y :: ys) X.env = (false, eval y X.env) :: starEach ys X.env := by
          cases es with
          | nil => simp [okL] at h4
          | cons m ms =>
            simp only [okL, Bool.and_eq_true] at h4
            exact star_fine h4.1.1
        have hp : (backTo pos (starEach ys X.env)).any (·.1) = false := by
          have := okL_plain (env := X.env) h4 pos
          rw [hs] at this
          unfold backTo at this ⊢
          rw [List.map_cons, List.any_cons] at this
          simpa using this
        refine PE.imp (pe_biV b hgd hX (hX.glo h3) (hX.bl _ h2) hA hs hp) fun σ H Q q => ?_
        obtain ⟨S, env, r, env', rep, e1, q⟩ := q
        simp only [ev] at e1
        obtain ⟨⟨rs, e2⟩, g1, e1⟩ := Option.bind_eq_some_iff.mp e1
        obtain ⟨ds, g2, e1⟩ := Option.bind_eq_some_iff.mp e1
        obtain ⟨w, g3, e1⟩ := Option.map_eq_some_iff.mp e1
        cases e1
        exact ⟨S, env, rs, _, rep, g1, fun vs S1 H1 p1 => ⟨S1, ds, w, p1.rep.same, repCs_of p1.rep p1.res g2, g3, fun v S' H' g rv n => q v S' H' (psv_gr p1.toPst g rv n)⟩⟩
    · cases h
  refine ⟨ee, fun hX h => ?_⟩
  rename_i sc scT k X e
  have h2 := h
  simp only [okE] at h2
  split at h2
  · exact tru_tT (ee hX h) fun _ => rfl
  · cases h2

/-! ### targets -/
structure TPost (K : PySem.W.Frag) (S H : Hp) (L : List Nat) (sl : List Nat) (σ : St) (env : Env) (σ' : St) (env' : Env) : Prop where
  rep : RepEnv K S H σ' env'
  keep : ∀ j ∈ L, slotV σ' j = slotV σ j
  oth : ∀ j, j ∉ sl → σ'[j]? = σ[j]?
  len : σ'.length = σ.length
  sub : ∀ b, Roots H σ' env' b → Roots H σ env b
  slots : env'.length = env.length
theorem TPost.trans {K : PySem.W.Frag} {S H : Hp} {L sl sl' : List Nat} {σ σ1 σ2 : St} {env env1 env2 : Env} (a : TPost K S H L sl σ env σ1 env1) (b : TPost K S H L sl' σ1 env1 σ2 env2) : TPost K S H L (sl ++ sl') σ env σ2 env2 :=
  ⟨b.rep, fun j h => (b.keep j h).trans (a.keep j h), fun j h => by
    rw [List.mem_append, not_or] at h
    exact (b.oth j h.2).trans (a.oth j h.1), b.len.trans a.len, fun c h => a.sub c (b.sub c h), b.slots.trans a.slots⟩
def tG (K : PySem.W.Frag) (L : List Nat) (tg : Tg) : TG := fun v σ H Q => ∃ S env x env', RepEnv K S H σ env ∧ Rp K S v x ∧ bindT L tg x env = some env' ∧ ∀ σ', TPost K S H L (slotsT tg) σ env σ' env' → Q σ' H
def tGs (K : PySem.W.Frag) (L : List Nat) (tgs : List Tg) : TGs := fun vs σ H Q => ∃ S env xs env', RepEnv K S H σ env ∧ Rps K S vs xs ∧ bindTs L tgs xs env = some env' ∧ ∀ σ', TPost K S H L (slotsTs tgs) σ env σ' env' → Q σ' H
theorem put_post {K : PySem.W.Frag} {S H : Hp} {L : List Nat} {σ : St} {env env' : Env} {v : V} {x : D} {i : Nat} (rep : RepEnv K S H σ env) (r : Rp K S v x) (e : bindT L (.nm i) x env = some env') : TPost K S H L [i] σ env (σ.set i (some v)) env' := by
  simp only [bindT] at e
  split at e
  · cases e
  · rename_i hc
    cases e
    rw [not_or] at hc
    obtain ⟨c1, c2⟩ := hc
    obtain ⟨k1, k2⟩ := rep.put (w := .d x) (Nat.lt_of_not_le c2) r fun _ z => z.elim
    refine ⟨k1, fun j hj => ?_, fun j hj => ?_, by simp, fun b hb => (k2 b hb).elim id fun z => z.elim, by simp⟩
    · rw [slotV_set, if_neg fun z => c1 (by rw [z.1]; exact hj)]
    · rw [List.getElem?_set_ne]
      simp at hj
      exact fun z => hj z.symm
mutual
theorem pg_ok (hX : XOk Γ T N sc scT k X) (L : List Nat) : ∀ (tg : Tg) (e : Expr), okT N scT tg e = true → PG X e (tG X.K L tg)
  | .nm i, e, h => by
    simp only [okT] at h
    split at h
    · rename_i x p
      simp only [Bool.and_eq_true, decide_eq_true_eq] at h
      obtain ⟨l1, l2⟩ := hX.loc x h.2
      refine PG.imp (pg_name (by rw [hX.hN]; exact hX.nd) (by rw [hX.hN]; exact h.1) l1 l2) fun v σ H Q q => ?_
      obtain ⟨S, env, y, env', rep, r, e1, q⟩ := q
      exact q _ (put_post rep r e1)
    · cases h
  | .tup ts, e, h => by
    simp only [okT] at h
    split at h
    · rename_i es kk p
      obtain ⟨h1, h2, h3⟩ := pgs_ok hX L ts es h
      refine PG.imp (pg_tup (n := es.length) hX.calm h1 h2 h3) fun v σ H Q q => ?_
      obtain ⟨S, env, y, env', rep, r, e1, q⟩ := q
      simp only [bindT] at e1
      split at e1
      · rename_i xs
        cases r with
        | tup g1 g2 =>
          refine ⟨_, _, rfl, sameT rep.same g1, ?_, S, env, xs, env', rep, g2, e1, q⟩
          rw [dps_len g2]
          have : ∀ (ts : List Tg) (es : List Expr) (xs : List D) (env : Env), okTs N scT ts es = true → bindTs L ts xs env = some env' → xs.length = es.length := by
            intro ts
            induction ts with
            | nil =>
              intro es xs env a b
              cases es <;> simp [okTs] at a
              cases xs <;> simp [bindTs] at b ⊢
            | cons t ts ih =>
              intro es xs env a b
              cases es with
              | nil => simp [okTs] at a
              | cons e es =>
                simp only [okTs, Bool.and_eq_true] at a
                cases xs with
                | nil => simp [bindTs] at b
                | cons x xs =>
                  simp only [bindTs] at b
                  obtain ⟨e', b1, b2⟩ := Option.bind_eq_some_iff.mp b
                  simp [ih es xs e' a.2 b2]
          exact this ts es xs env h e1
      · cases e1
    · cases h
theorem pgs_ok (hX : XOk Γ T N sc scT k X) (L : List Nat) : ∀ (ts : List Tg) (es : List Expr), okTs N scT ts es = true → PGs X es (tGs X.K L ts) ∧ (assignEach es X.env).length = es.length ∧ (assignEach es X.env).findIdx? (·.1) = none
  | [], es, h => by
    cases es with
    | cons _ _ => simp [okTs] at h
    | nil =>
      refine ⟨⟨fun pins s σ H vs us Q I r q => ?_⟩, rfl, rfl⟩
      obtain ⟨S, env, xs, env', rep, r1, e1, q⟩ := q
      cases xs with
      | cons _ _ => cases e1
      | nil =>
        cases r1
        cases e1
        exact pgs_nil.run pins s σ H [] us Q I r ⟨rfl, q σ ⟨rep, fun _ _ => rfl, fun _ _ => rfl, rfl, fun _ z => z, rfl⟩⟩
  | t :: ts, es, h => by
    cases es with
    | nil => simp [okTs] at h
    | cons e es =>
      simp only [okTs, Bool.and_eq_true] at h
      have h1 := pg_ok hX L t e h.1
      obtain ⟨h2, h3, h4⟩ := pgs_ok hX L ts es h.2
      have hs : assignEach (e :: es) X.env = (false, assign e X.env) :: assignEach es X.env := by
        have := h.1
        cases t with
        | nm i =>
          simp only [okT] at this
          split at this
          · rfl
          · cases this
        | tup ts =>
          simp only [okT] at this
          split at this
          · rfl
          · cases this
      refine ⟨?_, by rw [hs]; simp [h3], by rw [hs, List.findIdx?_cons]; simp [h4]⟩
      refine ⟨fun pins s σ H vs us Q I r q => ?_⟩
      obtain ⟨S, env, xs, env', rep, r1, e1, q⟩ := q
      cases r1 with
      | nil => cases e1
      | cons r1 r2 =>
        obtain ⟨e2, b1, b2⟩ := Option.bind_eq_some_iff.mp (show (bindT L t _ env).bind _ = some _ from e1)
        exact (pgs_cons h1 h2 (by rw [hs]; rfl)).run pins s σ H _ us Q I r ⟨_, _, rfl, S, env, _, e2, rep, r1, b1, fun σ1 p1 => ⟨S, e2, _, env', p1.rep, r2, b2, fun σ2 p2 => q σ2 (p1.trans p2)⟩⟩
end
end
end Ev

namespace Ev
open PySem L2
section
variable {Γ : Ctx} {T : Tab} {N : List Str} {sc scT : Scope} {k : Nat} {X : Cx} {K : PySem.W.Frag}
/-! ### what is walked -/
def LenOk (K : PySem.W.Frag) (H : Hp) : Prop := ∀ a xs, (SqL K H a xs ∨ SqT K H a xs) → xs.length ≤ sizeLine
theorem len_ok {pins : List (Addr × Obj)} {σ : St} {H : Hp} {s : Shared} (I : Inv X pins σ H s) : LenOk X.K H := fun a xs h => by
  rcases h with h | h
  · obtain ⟨_, _, _, z⟩ := I.list h; exact z
  · obtain ⟨_, _, _, z⟩ := I.tuple h; exact z
theorem PE.strong {e : Expr} {t : TE} (h : PE X e t) : PE X e (fun σ H Q => t σ H fun v H' => LenOk X.K H' → Q v H') :=
  ⟨fun pins s σ H Q I q => thn (h.run pins s σ H _ I q) fun u s' ⟨v, H', I', r, z⟩ => ⟨v, H', I', r, z (len_ok I')⟩⟩
theorem PA.strong {e : List Expr} {t : TA} (h : PA X e t) : PA X e (fun σ H Q => t σ H fun v H' => LenOk X.K H' → Q v H') :=
  ⟨fun pos pins s σ H Q I q => thn (h.run pos pins s σ H _ I q) fun u s' ⟨v, H', I', r, z⟩ => ⟨v, H', I', r, z (len_ok I')⟩⟩
structure At (K : PySem.W.Frag) (σ : St) (s : Src) (S0 S H : Hp) (σ' : St) (env : Env) : Prop where
  rep : RepEnv K S H σ' env
  st : Same S0 S
  g : gOk s.g env
  lk : ∀ j ∈ s.lk, slotV σ' j = slotV σ j
structure ItOk (K : PySem.W.Frag) (σ : St) (J : It) (s : Src) (S0 : Hp) : Prop where
  len : s.items.length ≤ sizeLine
  go : ∀ {i : Nat} {S H : Hp} {σ' : St} {env : Env}, At K σ s S0 S H σ' env → i < s.items.length → J.go i H
  stop : ∀ {i : Nat} {S H : Hp} {σ' : St} {env : Env}, At K σ s S0 S H σ' env → s.items.length ≤ i → J.stop i H
  yld : ∀ {i : Nat} {S H H' : Hp} {σ' : St} {env : Env} {v : V}, At K σ s S0 S H σ' env → i < s.items.length → J.yld i H v H' → ∃ x S', s.items[i]? = some x ∧ Gr S H S' H' ∧ Rp K S' v x
def tI (K : PySem.W.Frag) (Γ : Ctx) (it : MI) : TI := fun σ H R => ∃ S env s env', RepEnv K S H σ env ∧ evI Γ it env = some (s, env') ∧ ∀ J S' H', Pst K S H σ env S' H' env' → gOk s.g env' → ItOk K σ J s S' → R J H'
theorem ItOk.list {σ : St} {s : Src} {S0 : Hp} {a : Addr} (len : s.items.length ≤ sizeLine) (h : ∀ {S H : Hp} {σ' : St} {env : Env}, At K σ s S0 S H σ' env → ∃ vs, H a = some (.lst vs) ∧ Rps K S vs s.items) : ItOk K σ (Itl K a) s S0 := by
  refine ⟨len, fun {i S H σ' env} at_ hi => ?_, fun {i S H σ' env} at_ hi => ?_, fun {i S H H' σ' env v} at_ hi y => ?_⟩
  · obtain ⟨vs, h1, h2⟩ := h at_
    have hl := dps_len h2
    exact ⟨vs, vs[i], SqL.of h1, List.getElem?_eq_getElem (by omega)⟩
  · obtain ⟨vs, h1, h2⟩ := h at_
    exact ⟨vs, SqL.of h1, by rw [dps_len h2]; exact hi⟩
  · obtain ⟨vs, h1, h2⟩ := h at_
    obtain ⟨e, y⟩ := y
    subst e
    obtain ⟨x, k1, k2⟩ := dps_get h2 (y vs (SqL.of h1))
    exact ⟨x, S, k1, Gr.refl at_.rep.same, k2⟩
theorem ItOk.tup {σ : St} {s : Src} {S0 : Hp} {a : Addr} (len : s.items.length ≤ sizeLine) (h : ∀ {S H : Hp} {σ' : St} {env : Env}, At K σ s S0 S H σ' env → ∃ vs, SqT K H a vs ∧ Rps K S vs s.items) : ItOk K σ (Itt K a) s S0 := by
  refine ⟨len, fun {i S H σ' env} at_ hi => ?_, fun {i S H σ' env} at_ hi => ?_, fun {i S H H' σ' env v} at_ hi y => ?_⟩
  · obtain ⟨vs, h1, h2⟩ := h at_
    have hl := dps_len h2
    exact ⟨vs, vs[i], h1, List.getElem?_eq_getElem (by omega)⟩
  · obtain ⟨vs, h1, h2⟩ := h at_
    exact ⟨vs, h1, by rw [dps_len h2]; exact hi⟩
  · obtain ⟨vs, h1, h2⟩ := h at_
    obtain ⟨e, y⟩ := y
    subst e
    obtain ⟨x, k1, k2⟩ := dps_get h2 (y vs h1)
    exact ⟨x, S, k1, Gr.refl at_.rep.same, k2⟩
theorem enumOf_get : ∀ (xs : List D) (k i : Nat), (enumOf k xs)[i]? = (xs[i]?).map fun x => .tuple [.int ((k + i : Nat) : Int), x]
  | [], k, i => by simp [enumOf]
  | x :: xs, k, 0 => by simp [enumOf]
  | x :: xs, k, i + 1 => by
    simp only [enumOf, List.getElem?_cons_succ]
    rw [enumOf_get xs (k + 1) i, show k + 1 + i = k + (i + 1) by omega]
theorem enumOf_len : ∀ (xs : List D) (k : Nat), (enumOf k xs).length = xs.length
  | [], k => rfl
  | x :: xs, k => by simp [enumOf, enumOf_len xs]
theorem ItOk.enum {σ : St} {s : Src} {S0 : Hp} {a : Addr} (len : s.items.length ≤ sizeLine) (h : ∀ {S H : Hp} {σ' : St} {env : Env}, At K σ s S0 S H σ' env → ∃ vs, H a = some (.lst vs) ∧ Rps K S vs s.items) : ItOk K σ (Ite K a) ⟨enumOf 0 s.items, s.lk, s.g⟩ S0 := by
  have cv : ∀ {S H : Hp} {σ' : St} {env : Env}, At K σ ⟨enumOf 0 s.items, s.lk, s.g⟩ S0 S H σ' env → At K σ s S0 S H σ' env := fun {S H σ' env} at_ => ⟨at_.rep, at_.st, at_.g, at_.lk⟩
  refine ⟨by simp only [enumOf_len]; exact len, fun {i S H σ' env} at_ hi => ?_, fun {i S H σ' env} at_ hi => ?_, fun {i S H H' σ' env v} at_ hi y => ?_⟩
  · obtain ⟨vs, h1, h2⟩ := h (cv at_)
    simp only [enumOf_len] at hi
    have hl := dps_len h2
    exact ⟨vs, vs[i], SqL.of h1, List.getElem?_eq_getElem (by omega)⟩
  · obtain ⟨vs, h1, h2⟩ := h (cv at_)
    simp only [enumOf_len] at hi
    exact ⟨vs, SqL.of h1, by rw [dps_len h2]; exact hi⟩
  · obtain ⟨vs, h1, h2⟩ := h (cv at_)
    obtain ⟨t, y0, rfl, ht, rfl, y⟩ := y
    obtain ⟨x, k1, k2⟩ := dps_get h2 (y vs (SqL.of h1))
    refine ⟨.tuple [.int i, x], upd S t (.tup [.int (i : Nat), y0]), ?_, Gr.newS at_.rep.same ht, .tup (SqT.of upd_same) (.cons (.int _) (.cons (dpMono (Gr.newS at_.rep.same ht).st k2) .nil))⟩
    show (enumOf 0 s.items)[i]? = _
    rw [enumOf_get, k1]
    simp
theorem zipOf_get : ∀ (xs ys : List D) (i : Nat), (zipOf xs ys)[i]? = (xs[i]?).bind fun x => (ys[i]?).map fun y => .tuple [x, y]
  | [], ys, i => by simp [zipOf]
  | x :: xs, [], i => by
    simp only [zipOf, List.getElem?_nil, Option.map_none]
    cases (x :: xs)[i]? <;> rfl
  | x :: xs, y :: ys, 0 => by simp [zipOf]
  | x :: xs, y :: ys, i + 1 => by
    simp only [zipOf, List.getElem?_cons_succ]
    exact zipOf_get xs ys i
theorem zipOf_len : ∀ (xs ys : List D), (zipOf xs ys).length = min xs.length ys.length
  | [], ys => by simp [zipOf]
  | x :: xs, [] => by simp [zipOf]
  | x :: xs, y :: ys => by simp only [zipOf, List.length_cons, zipOf_len xs ys]; omega
theorem rngOf_get (i j : Int) (n : Nat) : (rngOf i j)[n]? = if n < (j - i).toNat then some (.int (i + (n : Nat))) else none := by
  unfold rngOf
  rw [List.getElem?_map]
  by_cases h : n < (j - i).toNat
  · rw [if_pos h, List.getElem?_range h]; rfl
  · rw [if_neg h, List.getElem?_eq_none (by rw [List.length_range]; omega)]; rfl
theorem rngOf_len (i j : Int) : (rngOf i j).length = (j - i).toNat := by simp [rngOf]
theorem rngDn_get (i j : Int) (n : Nat) : (rngDn i j)[n]? = if n < (i - j).toNat then some (.int (i + (n : Nat) * (-1))) else none := by
  unfold rngDn
  rw [List.getElem?_map]
  by_cases h : n < (i - j).toNat
  · rw [if_pos h, List.getElem?_range h]; rfl
  · rw [if_neg h, List.getElem?_eq_none (by rw [List.length_range]; omega)]; rfl
theorem rngDn_len (i j : Int) : (rngDn i j).length = (i - j).toNat := by simp [rngDn]
theorem rngOk_p {i j : Int} (h : rngOk i j = true) : (-(2 ^ 62) ≤ i ∧ i < 2 ^ 62 ∧ -(2 ^ 62) ≤ j ∧ j < 2 ^ 62) ∧ (j - i).toNat ≤ sizeLine ∧ (i - j).toNat ≤ sizeLine := by
  unfold rngOk at h
  have h := of_decide_eq_true h
  have := sizeLine_eq
  exact ⟨⟨h.1, h.2.1, h.2.2.1, h.2.2.2.1⟩, by omega, by omega⟩
theorem ItOk.rng {σ : St} {S0 : Hp} {i j : Int} (h : rngOk i j = true) : ItOk K σ (Itr i (j - i).toNat) ⟨rngOf i j, [], none⟩ S0 := by
  refine ⟨by simp only [rngOf_len]; exact (rngOk_p h).2.1, fun {n S H σ' env} at_ hi => ?_, fun {n S H σ' env} at_ hi => ?_, fun {n S H H' σ' env v} at_ hi y => ?_⟩
  · simp only [rngOf_len] at hi; exact hi
  · simp only [rngOf_len] at hi; exact hi
  · simp only [rngOf_len] at hi
    obtain ⟨e, y⟩ := y
    subst e y
    exact ⟨_, S, by rw [rngOf_get, if_pos hi], Gr.refl at_.rep.same, .int _⟩
theorem ItOk.dn {σ : St} {S0 : Hp} {i j : Int} (h : rngOk i j = true) : ItOk K σ (Itc i (-1) (i - j).toNat) ⟨rngDn i j, [], none⟩ S0 := by
  refine ⟨by simp only [rngDn_len]; exact (rngOk_p h).2.2, fun {n S H σ' env} at_ hi => ?_, fun {n S H σ' env} at_ hi => ?_, fun {n S H H' σ' env v} at_ hi y => ?_⟩
  · simp only [rngDn_len] at hi; exact hi
  · simp only [rngDn_len] at hi; exact hi
  · simp only [rngDn_len] at hi
    obtain ⟨e, y⟩ := y
    subst e y
    exact ⟨_, S, by rw [rngDn_get, if_pos hi], Gr.refl at_.rep.same, .int _⟩
theorem ItOk.str {σ : St} {S0 : Hp} {z : Str} (h : z.length ≤ sizeLine) : ItOk K σ (Its z) ⟨z.cps.toList.map fun c => .str ⟨#[c]⟩, [], none⟩ S0 := by
  refine ⟨by show (z.cps.toList.map _).length ≤ _; rw [List.length_map, Array.length_toList]; exact h, fun {n S H σ' env} at_ hi => ?_, fun {n S H σ' env} at_ hi => ?_, fun {n S H H' σ' env v} at_ hi y => ?_⟩
  · show n < z.cps.size
    simpa using hi
  · show z.cps.size ≤ n
    simpa using hi
  · obtain ⟨e, c, hc, y⟩ := y
    subst e y
    refine ⟨.str ⟨#[c]⟩, S, ?_, Gr.refl at_.rep.same, .str _⟩
    show (z.cps.toList.map _)[n]? = _
    rw [List.getElem?_map, Array.getElem?_toList, hc]
    rfl
structure SndI (Γ : Ctx) (T : Tab) (N : List Str) (it : MI) : Prop where
  i : ∀ {sc scT k X t e}, XOk Γ T N sc scT k X → okI T N it sc t e = true → PI X t e (tI X.K Γ it)
theorem src_list {σ : St} {S H : Hp} {env : Env} {v : V} {w : Val} {e1 : Env} {S1 H1 : Hp} {xs : List D} (p : Psv K S H σ env S1 H1 e1 v (.v w)) (e : valD w = some (.list xs)) :
    ∃ a vs S2, v = .ref a ∧ Pst K S H σ env S2 H1 e1 ∧ S2 a = some (.lst vs) ∧ Rps K S2 vs xs := by
  obtain ⟨S2, p2, r2, _⟩ := fz_ok (env2 := e1) (x := .list xs) p (by show (valD w).map _ = _; rw [e]; rfl)
  cases r2 with
  | lst h1 h2 => exact ⟨_, _, S2, rfl, p2, h1, h2⟩
theorem at_list {σ : St} {xs : List D} {S0 : Hp} {a : Addr} {vs : List V} (h1 : S0 a = some (.lst vs)) (h2 : Rps K S0 vs xs) : ∀ {S H : Hp} {σ' : St} {env : Env}, At K σ ⟨xs, [], none⟩ S0 S H σ' env → ∃ vs, H a = some (.lst vs) ∧ Rps K S vs xs := fun {S H σ' env} at_ =>
  ⟨vs, at_.rep.same _ _ (at_.st _ _ h1), dpsMono at_.st h2⟩
theorem at_ali {σ : St} {ys : List D} {S0 : Hp} {a : Addr} {j : Nat} (hs : slotV σ j = some (.ref a)) : ∀ {S H : Hp} {σ' : St} {env : Env}, At K σ ⟨ys, [j], some (j, ys)⟩ S0 S H σ' env → ∃ vs, H a = some (.lst vs) ∧ Rps K S vs ys := fun {S H σ' env} at_ => by
  have hsl : slotV σ' j = some (.ref a) := (at_.lk j (by simp)).trans hs
  rcases (show rd env j = some (.own ys) ∨ rd env j = some (.d (.list ys)) from at_.g) with h | h
  · obtain ⟨v, k1, a', vs, k2, k3, k4, k5⟩ := at_.rep.get j _ h
    rw [hsl] at k1; cases k1; cases k2
    exact ⟨vs, k4, k5⟩
  · obtain ⟨v, k1, k2⟩ := at_.rep.get j _ h
    rw [hsl] at k1; cases k1
    cases k2 with
    | lst h1 h2 => exact ⟨_, at_.rep.same _ _ h1, h2⟩
theorem sndi_seq {m : ME} (h0 : SndE Γ T N m) : SndI Γ T N (.seq m) := by
  refine ⟨fun {sc scT k X t e} hX h => ?_⟩
  simp only [okI] at h
  have hE := PE.strong (h0.e hX h)
  refine ⟨fun pins s σ H R I q => ?_⟩
  obtain ⟨S, env, sr, env', rep, e1, q⟩ := q
  simp only [evI] at e1
  obtain ⟨⟨r, e2⟩, g1, e1⟩ := Option.bind_eq_some_iff.mp e1
  obtain ⟨sr', g2, e1⟩ := Option.map_eq_some_iff.mp e1
  cases e1
  cases r with
  | v w =>
    obtain ⟨xs, g3, g4⟩ := Option.map_eq_some_iff.mp (show ((valD w).bind itemsD).map _ = some _ from g2)
    obtain ⟨dx, g5, g6⟩ := Option.bind_eq_some_iff.mp g3
    subst g4
    cases dx with
    | list ys =>
      cases g6
      refine (pi_list hE).run pins s σ H R I ⟨S, env, _, _, rep, g1, fun v S1 H1 p1 hlen => ?_⟩
      obtain ⟨a, vs, S2, rfl, p2, h1, h2⟩ := src_list p1 g5
      have hH : H1 a = some (.lst vs) := p2.rep.same _ _ h1
      exact ⟨a, rfl, ⟨vs, SqL.of hH⟩, q _ S2 H1 p2 trivial (ItOk.list (by rw [← dps_len h2]; exact hlen a vs (.inl (SqL.of hH))) (at_list h1 h2))⟩
    | tuple ys =>
      cases g6
      refine (pi_tup hE).run pins s σ H R I ⟨S, env, _, _, rep, g1, fun v S1 H1 p1 hlen => ?_⟩
      obtain ⟨S2, p2, r2, _⟩ := fz_ok (env2 := e2) (x := .tuple xs) p1 (by show (valD w).map _ = _; rw [g5]; rfl)
      cases r2 with
      | tup h1 h2 =>
        have hH := sameT p2.rep.same h1
        exact ⟨_, rfl, ⟨_, hH⟩, q _ S2 H1 p2 trivial (ItOk.tup (by rw [← dps_len h2]; exact hlen _ _ (.inr hH)) fun at_ => ⟨_, sameT (at_.st.trans at_.rep.same) h1, dpsMono at_.st h2⟩)⟩
    | str z =>
      obtain ⟨g7, g8⟩ := (Option.ite_none_right_eq_some ..).mp (show (if z.length ≤ sizeLine then some (z.cps.toList.map fun c => (.str ⟨#[c]⟩ : D)) else none) = some xs from g6)
      cases g8
      refine (pi_str hE).run pins s σ H R I ⟨S, env, _, _, rep, g1, fun v S1 H1 p1 hlen => ?_⟩
      have hv := (repC_val p1.res.1 g5).str
      exact ⟨z, hv, q _ S1 H1 p1.toPst trivial (ItOk.str g7)⟩
    | _ => cases g6
  | ali j =>
    simp only [srcOf] at g2
    split at g2
    · rename_i ys hj
      cases g2
      refine (pi_list hE).run pins s σ H R I ⟨S, env, _, _, rep, g1, fun v S1 H1 p1 hlen => ?_⟩
      obtain ⟨v', k1, a, vs, k2, k3, k4, k5⟩ := p1.rep.get j _ hj
      have hsl : slotV σ j = some v := p1.res
      rw [hsl] at k1; cases k1; cases k2
      exact ⟨a, rfl, ⟨vs, SqL.of k4⟩, q _ S1 H1 p1.toPst (.inl hj) (ItOk.list (by rw [← dps_len k5]; exact hlen a vs (.inl (SqL.of k4))) (at_ali hsl))⟩
    · cases g2
theorem isTupE_p {t : Expr} (h : isTupE t = true) : ∃ es kk p, t = .Tuple es kk p := by
  cases t <;> first | exact ⟨_, _, _, rfl⟩ | (simp [isTupE] at h)
theorem star1 {e : Expr} {env : PySem.Env} (h : fineE e = true) : starEach [e] env = [(false, eval e env)] := star_fine h
theorem sndi_enum {m : ME} (h0 : SndE Γ T N m) : SndI Γ T N (.enum m) := by
  refine ⟨fun {sc scT k X t e} hX h => ?_⟩
  simp only [okI] at h
  split at h
  · rename_i x p y pos
    simp only [Bool.and_eq_true, decide_eq_true_eq] at h
    obtain ⟨⟨⟨⟨⟨h1, h2⟩, h3⟩, h4⟩, h5⟩, h6⟩ := h
    subst h1
    obtain ⟨es, kk, tp, rfl⟩ := isTupE_p h4
    have hA : PA X [y] _ := PA.strong (pa_cons (h0.e hX h6) pa_nil (star_fine h5))
    refine ⟨fun pins s σ H R I q => ?_⟩
    obtain ⟨S, env, sr, env', rep, e1, q⟩ := q
    simp only [evI] at e1
    obtain ⟨⟨r, e2⟩, g1, e1⟩ := Option.bind_eq_some_iff.mp e1
    obtain ⟨sr', g2, e1⟩ := Option.map_eq_some_iff.mp e1
    cases e1
    refine (pi_enum (hX.glo h3) (hX.bl _ h2) hA (star1 h5)).run pins s σ H R I ⟨S, env, r, _, rep, g1, fun v S1 H1 p1 => fun hlen => ?_⟩
    cases r with
    | v w =>
      simp only [srcL] at g2
      split at g2
      · rename_i ys g5
        cases g2
        obtain ⟨a, vs, S2, rfl, p2, h1, h2⟩ := src_list p1 g5
        have hH : H1 a = some (.lst vs) := p2.rep.same _ _ h1
        exact ⟨a, vs, rfl, SqL.of hH, q _ S2 H1 p2 trivial (ItOk.enum (s := ⟨ys, [], none⟩) (by rw [← dps_len h2]; exact hlen a vs (.inl (SqL.of hH))) (at_list h1 h2))⟩
      · cases g2
    | ali j =>
      simp only [srcL] at g2
      split at g2
      · rename_i ys hj
        cases g2
        obtain ⟨v', k1, a, vs, k2, k3, k4, k5⟩ := p1.rep.get j _ hj
        have hsl : slotV σ j = some v := p1.res
        rw [hsl] at k1; cases k1; cases k2
        exact ⟨a, vs, rfl, SqL.of k4, q _ S1 H1 p1.toPst (.inl hj) (ItOk.enum (s := ⟨ys, [j], some (j, ys)⟩) (by rw [← dps_len k5]; exact hlen a vs (.inl (SqL.of k4))) (at_ali hsl))⟩
      · cases g2
  · cases h
theorem sndi_zip {m1 m2 : ME} (hA1 : SndE Γ T N m1) (hA2 : SndE Γ T N m2) : SndI Γ T N (.zip m1 m2) := by
  refine ⟨fun {sc scT k X t e} hX h => ?_⟩
  simp only [okI] at h
  split at h
  · rename_i x p y z pos
    simp only [Bool.and_eq_true, decide_eq_true_eq] at h
    obtain ⟨⟨⟨⟨⟨⟨⟨h1, h2⟩, h3⟩, h4⟩, h5⟩, h6⟩, h7⟩, h8⟩ := h
    subst h1
    obtain ⟨es, kk, tp, rfl⟩ := isTupE_p h4
    have hA : PA X [y, z] _ := PA.strong (pa_cons (hA1.e hX h7) (pa_cons (hA2.e hX h8) pa_nil (star_fine h6)) (star_fine h5))
    refine ⟨fun pins s σ H R I q => ?_⟩
    obtain ⟨S, env, sr, env', rep, e1, q⟩ := q
    simp only [evI] at e1
    obtain ⟨⟨r, e2⟩, g1, e1⟩ := Option.bind_eq_some_iff.mp e1
    obtain ⟨⟨r', e3⟩, g2, e1⟩ := Option.bind_eq_some_iff.mp e1
    simp only at e1
    split at e1
    · rename_i xs ys _
      cases e1
      refine (pi_zip (hX.glo h3) (hX.bl _ h2) hA (star_fine h5) (by rw [star1 h6]; rfl)).run pins s σ H R I ⟨S, env, _, e2, rep, g1, fun v S1 H1 p1 => ⟨S1, e2, _, _, p1.rep, g2, fun v' S2 H2 p2 => fun hlen => ?_⟩⟩
      have r1 := dpMono p2.step.st p1.res.1
      have r2 := p2.res.1
      cases r1 with
      | lst h1 h2 =>
        cases (show Rp X.K S2 v' (.list ys) from r2) with
        | lst h3 h4 =>
          rename_i a vs b ws
          have hH := p2.rep.same _ _ h1
          have hH' := p2.rep.same _ _ h3
          refine ⟨a, b, vs, ws, rfl, SqL.of hH, SqL.of hH', q _ S2 H2 (p1.toPst.trans p2.toPst) trivial ⟨?_, fun {i S H σ' env} at_ hi => ?_, fun {i S H σ' env} at_ hi => ?_, fun {i S H H' σ' env v} at_ hi y => ?_⟩⟩
          · have := hlen a vs (.inl (SqL.of hH))
            rw [dps_len h2] at this
            simp only [zipOf_len]; omega
          · simp only [zipOf_len] at hi
            have q1 := at_.rep.same _ _ (at_.st _ _ h1)
            have q2 := at_.rep.same _ _ (at_.st _ _ h3)
            have l1 := dps_len h2
            have l2 := dps_len h4
            exact ⟨vs, ws, vs[i], ws[i], SqL.of q1, SqL.of q2, List.getElem?_eq_getElem (by omega), List.getElem?_eq_getElem (by omega)⟩
          · simp only [zipOf_len] at hi
            have q1 := at_.rep.same _ _ (at_.st _ _ h1)
            have q2 := at_.rep.same _ _ (at_.st _ _ h3)
            have l1 := dps_len h2
            have l2 := dps_len h4
            exact ⟨vs, ws, SqL.of q1, SqL.of q2, by omega⟩
          · have q1 := at_.rep.same _ _ (at_.st _ _ h1)
            have q2 := at_.rep.same _ _ (at_.st _ _ h3)
            obtain ⟨t, x, y', rfl, ht, rfl, y1, y2⟩ := y
            obtain ⟨dx, k1, k2⟩ := dps_get h2 (y1 vs (SqL.of q1))
            obtain ⟨dy, k3, k4⟩ := dps_get h4 (y2 ws (SqL.of q2))
            have g := Gr.newS (o := HO.tup [x, y']) at_.rep.same ht
            refine ⟨.tuple [dx, dy], _, ?_, g, .tup (SqT.of upd_same) (.cons (dpMono (at_.st.trans g.st) k2) (.cons (dpMono (at_.st.trans g.st) k4) .nil))⟩
            show (zipOf xs ys)[i]? = _
            rw [zipOf_get, k1, k3]; rfl
    · cases e1
  · cases h
theorem sndi_rng {es : List ME} (h0 : SndL Γ T N es) : SndI Γ T N (.rng es) := by
  refine ⟨fun {sc scT k X t e} hX h => ?_⟩
  simp only [okI] at h
  split at h
  · rename_i x p xs pos
    simp only [Bool.and_eq_true, decide_eq_true_eq] at h
    obtain ⟨⟨⟨h1, h2⟩, h3⟩, h4⟩ := h
    subst h1
    have hA := h0.l hX h4
    have hl := okL_len h4
    refine ⟨fun pins s σ H R I q => ?_⟩
    obtain ⟨S, env, sr, env', rep, e1, q⟩ := q
    simp only [evI] at e1
    obtain ⟨⟨rs, e2⟩, g1, e1⟩ := Option.bind_eq_some_iff.mp e1
    obtain ⟨ds, g2, e1⟩ := Option.bind_eq_some_iff.mp e1
    obtain ⟨sr', g3, e1⟩ := Option.map_eq_some_iff.mp e1
    cases e1
    have len_rs : ∀ {rs : List Rv} {ds : List D}, curs e2 rs = some ds → ds.length = rs.length := by
      intro rs
      induction rs with
      | nil => intro ds e; cases e; rfl
      | cons r rs ih =>
        intro ds e
        obtain ⟨x, e1, e9⟩ := Option.bind_eq_some_iff.mp (show ((cur e2 r).bind fun x => (curs e2 rs).map (x :: ·)) = some _ from e)
        obtain ⟨ys, e3, e4⟩ := Option.map_eq_some_iff.mp e9
        subst e4
        simp [ih e3]
    have len_es : ∀ {es : List ME} {env e' : Env} {rs : List Rv}, evL Γ es env = some (rs, e') → rs.length = es.length := by
      intro es
      induction es with
      | nil => intro env e' rs e; cases e; rfl
      | cons m ms ih =>
        intro env e' rs e
        simp only [evL] at e
        obtain ⟨⟨r, e2⟩, _, e⟩ := Option.bind_eq_some_iff.mp e
        obtain ⟨⟨rs', e3⟩, g, e⟩ := Option.map_eq_some_iff.mp e
        cases e
        simp [ih g]
    have ll := (len_rs g2).trans ((len_es g1).trans hl)
    have st_ : ∀ {ms : List ME} {xs : List Expr}, okL T N ms sc xs = true → ∀ x ∈ xs, fineE x = true := by
      intro ms
      induction ms with
      | nil => intro xs a; cases xs with
        | nil => simp
        | cons _ _ => simp [okL] at a
      | cons m ms ih => intro xs a; cases xs with
        | nil => simp
        | cons x xs =>
          simp only [okL, Bool.and_eq_true] at a
          intro y hy
          rcases List.mem_cons.mp hy with rfl | hy
          · exact a.1.1
          · exact ih a.2 y hy
    have fine := st_ h4
    unfold rngSrc at g3
    split at g3
    · obtain ⟨b1, b2⟩ := (Option.ite_none_right_eq_some ..).mp g3
      cases b2
      match xs, ll, fine, hA with
      | [a], _, fine, hA =>
        refine (pi_range1 (hX.glo h3) (hX.bl _ h2) hA (star1 (fine a (by simp)))).run pins s σ H R I ⟨S, env, rs, _, rep, g1, fun vs S1 H1 p1 => ?_⟩
        obtain ⟨v, rfl, hv⟩ := (repCs_of p1.rep p1.res g2).one
        obtain ⟨c1, _⟩ := rngOk_p b1
        have := q _ S1 H1 p1.toPst trivial (ItOk.rng b1)
        rw [Int.sub_zero] at this
        exact ⟨_, by rw [hv.int], c1.2.2.1, c1.2.2.2, this⟩
    · obtain ⟨b1, b2⟩ := (Option.ite_none_right_eq_some ..).mp g3
      cases b2
      match xs, ll, fine, hA with
      | [a, b], _, fine, hA =>
        refine (pi_range2 (hX.glo h3) (hX.bl _ h2) hA (by rw [star_fine (fine a (by simp)), star1 (fine b (by simp))]) (star1 (fine b (by simp)))).run pins s σ H R I ⟨S, env, rs, _, rep, g1, fun vs S1 H1 p1 => ?_⟩
        obtain ⟨v, w, rfl, hv, hw⟩ := (repCs_of p1.rep p1.res g2).two
        obtain ⟨c1, _⟩ := rngOk_p b1
        exact ⟨_, _, by rw [hv.int, hw.int], c1, q _ S1 H1 p1.toPst trivial (ItOk.rng b1)⟩
    · obtain ⟨⟨b1, b3⟩, b2⟩ := (Option.ite_none_right_eq_some ..).mp g3
      cases b2
      subst b3
      match xs, ll, fine, hA with
      | [a, b, c], _, fine, hA =>
        refine (pi_range3 (hX.glo h3) (hX.bl _ h2) hA (star_fine (fine a (by simp))) (by rw [star_fine (fine b (by simp)), star1 (fine c (by simp))]; rfl)).run pins s σ H R I ⟨S, env, rs, _, rep, g1, fun vs S1 H1 p1 => ?_⟩
        have r3 := repCs_of p1.rep p1.res g2
        cases r3 with
        | cons hv r3 =>
          obtain ⟨w, u, rfl, hw, hu⟩ := r3.two
          obtain ⟨⟨c1, c2, c3, c4⟩, _⟩ := rngOk_p b1
          exact ⟨_, _, -1, _, by rw [hv.int, hw.int, hu.int], RgC.neg c1 c2 c3 c4, q _ S1 H1 p1.toPst trivial (ItOk.dn b1)⟩
    · cases g3
  · cases h
end
end Ev

namespace Ev
open PySem L2
section
variable {Γ : Ctx} {T : Tab} {N : List Str} {sc scT : Scope} {k : Nat} {X : Cx} {K : PySem.W.Frag}
theorem wipe_get (σ : St) (j : Nat) : ∀ own : List Nat, (wipe σ own)[j]? = if j ∈ own ∧ j < σ.length then some none else σ[j]?
  | [] => by simp [wipe]
  | i :: r => by
    rw [wipe]
    by_cases h : i = j
    · subst h
      by_cases hj : i < σ.length
      · rw [List.getElem?_set_self (by rw [wipe_length]; exact hj), if_pos ⟨by simp, hj⟩]
      · rw [List.getElem?_eq_none (by rw [List.length_set, wipe_length]; omega), if_neg (fun z => hj z.2), List.getElem?_eq_none (by omega)]
    · rw [List.getElem?_set_ne h, wipe_get σ j r]
      have h' : ¬ j = i := fun z => h z.symm
      simp [List.mem_cons, h']
theorem wipe_eq {σ σ2 : St} {own : List Nat} (hl : σ2.length = (wipe σ own).length) (h : ∀ j, j ∉ own → σ2[j]? = (wipe σ own)[j]?) : wipe σ2 own = wipe σ own := by
  refine List.ext_getElem? fun j => ?_
  rw [wipe_length] at hl
  rw [wipe_get, wipe_get, hl]
  by_cases hj : j ∈ own
  · by_cases hjl : j < σ.length
    · rw [if_pos ⟨hj, hjl⟩, if_pos ⟨hj, hjl⟩]
    · rw [if_neg (fun z => hjl z.2), if_neg (fun z => hjl z.2), List.getElem?_eq_none (by omega), List.getElem?_eq_none (by omega)]
  · rw [if_neg (fun z => hj z.1), if_neg (fun z => hj z.1), h j hj, wipe_get, if_neg (fun z => hj z.1)]
theorem Step.hold {R : Addr → Prop} {S H S' H' : Hp} {b : Addr} {o : HO} (st : Step R S H S' H') (h1 : S b = none) (h2 : H b = some o) (h3 : ¬ R b) : S' b = none ∧ H' b = some o := by
  refine ⟨?_, st.kp b o h2 h3⟩
  cases q : S' b with
  | none => rfl
  | some u =>
    rcases st.nw b (by rw [q]; simp) with z | z | z
    · exact absurd h1 z
    · rw [h2] at z; cases z
    · exact absurd z h3
theorem step_at {S H : Hp} {D : Addr} {o u : HO} (h : Same S H) (h1 : S D = none) (h2 : H D = some u) : Step (fun b => b = D) S H S (upd H D o) := by
  refine ⟨Same.refl _, fun b v e => ?_, fun b v e n => by rw [upd_ne n]; exact e, fun b e => .inl e, fun b e => ?_⟩
  · rw [upd_ne (fun z => by rw [z, h1] at e; cases e)]; exact h b v e
  · by_cases z : b = D
    · rw [z, upd_same]; simp
    · rw [upd_ne z]; exact e
theorem sD {H : Hp} {D : Addr} {o : HO} {p : Prop} (h : H D = some o) (q : p ∨ H D = none) : p := q.resolve_right fun z => by rw [h] at z; cases z
theorem not_roots {S H : Hp} {σ : St} {env : Env} {b : Addr} (rep : RepEnv K S H σ env) (h : H b = none) : ¬ Roots H σ env b := fun r => by
  obtain ⟨_, o, e⟩ := Roots.free rep r
  rw [h] at e; cases e
def tGx (K : PySem.W.Frag) (tg : Tg) : TG := fun v σ H Q => ∃ L, tG K L tg v σ H Q
theorem pgx_ok (hX : XOk Γ T N sc scT k X) (tg : Tg) (e : Expr) (h : okT N scT tg e = true) : PG X e (tGx X.K tg) :=
  ⟨fun pins s σ H v u Q I r ⟨L, q⟩ => (pg_ok hX L tg e h).run pins s σ H v u Q I r q⟩
/-- a comprehension's condition -/
def tCd (K : PySem.W.Frag) (Γ : Ctx) (m : ME) : TT := fun σ H Q => ∃ S env c e' b, RepEnv K S H σ env ∧ ((ev Γ m env).bind fun (r, e') => (cur e' r).map fun x => (x, e')) = some (c, e') ∧ truD c = some b ∧ ∀ S' H', Pst K S H σ env S' H' e' → Q b H'
theorem PTs.imp {cs : List Expr} {t t' : TT} (h : PTs X cs t) (w : ∀ σ H Q, t' σ H Q → t σ H Q) : PTs X cs t' := ⟨fun pins s σ H Q I q => h.run pins s σ H Q I (w σ H Q q)⟩
theorem isTrueC_p {m : ME} (h : isTrueC m = true) : m = .con (.bool true) := by
  unfold isTrueC at h
  split at h
  · rfl
  · cases h
theorem pts_ok {m : ME} {cs : List Expr} (hm : SndE Γ T N m) (hX : XOk Γ T N sc scT k X) (h : (match cs with | [] => isTrueC m | [c] => okE T N m sc c | _ => false) = true) : PTs X cs (tCd X.K Γ m) := by
  match cs, h with
  | [], h =>
    refine PTs.imp pts_nil fun σ H Q q => ?_
    obtain ⟨S, env, c, e', b, rep, e1, e2, q⟩ := q
    rw [isTrueC_p h] at e1
    cases e1
    cases e2
    exact q S H (Pst.refl rep)
  | [c], h =>
    refine PTs.imp (pts_one (hm.t hX h)) fun σ H Q q => ?_
    obtain ⟨S, env, x, e', b, rep, e1, e2, q⟩ := q
    obtain ⟨⟨r, e3⟩, g1, e1⟩ := Option.bind_eq_some_iff.mp e1
    obtain ⟨y, g2, e1⟩ := Option.map_eq_some_iff.mp e1
    cases e1
    exact ⟨S, env, b, _, rep, evC_of g1 (by show (cur e' r).bind truD = some b; rw [g2]; exact e2), q⟩
  | _ :: _ :: _, h => cases h
theorem ownP_snd (own : List Nat) : (ownP N own).map (·.2) = own := by
  unfold ownP
  rw [List.map_map]
  exact List.map_id own
theorem lc_read {elt : ME} {tg : Tg} {it : MI} {cond : ME} {own : List Nat} (hown : ∀ j ∈ slotsT tg, j ∈ own) {σ : St} {H0 : Hp} {Q : VK} (q : tE K Γ (.lc elt tg it cond own) σ H0 Q) :
    tLc (tI K Γ it) (tGx K tg) (tCd K Γ cond) (tE K Γ elt) own σ H0 Q := by
  obtain ⟨S0, env, r, env', rep0, e1, q⟩ := q
  simp only [ev] at e1
  obtain ⟨⟨s, e1'⟩, g1, e1⟩ := Option.bind_eq_some_iff.mp e1
  obtain ⟨hlk, e1⟩ := (Option.ite_none_right_eq_some ..).mp e1
  obtain ⟨⟨ysAll, e2⟩, g2, e1⟩ := Option.map_eq_some_iff.mp e1
  cases e1
  rw [List.all_eq_true] at hlk
  refine ⟨S0, env, s, e1', rep0, g1, fun J S1 H1 p1 hg it => ?_⟩
  intro D hD
  have hS1 : S1 D = none := p1.rep.same.free hD
  obtain ⟨w1, w2⟩ := RepEnv.wipe p1.rep own
  refine ⟨fun i m H => ∃ S env done acc rest, m = s.items.length - i ∧ i ≤ s.items.length ∧ RepEnv K S H (wipe σ own) env ∧
    lcD (fun e => (ev Γ elt e).bind fun (r, e') => fz e' r) (fun e => (ev Γ cond e).bind fun (r, e') => (cur e' r).map fun x => (x, e')) (bindT s.lk tg) own s.g (s.items.drop i) env = some (rest, e2) ∧
    ysAll = done ++ rest ∧ H D = some (.lst acc) ∧ Rps K S acc done ∧ S D = none ∧ ¬ Roots H (wipe σ own) env D ∧ acc.length ≤ i ∧ Step (Roots H1 σ e1') S1 H1 S H ∧ (∀ b, Roots H (wipe σ own) env b → Roots H1 σ e1' b ∨ H1 b = none) ∧ env.length = e1'.length, ⟨s.items.length, ?_⟩, ?_⟩
  · obtain ⟨k1, k2⟩ := w1.grow (S' := S1) (H' := upd H1 D (.lst [])) (Same.refl _) (p1.rep.same.trans (upd_same_of hD)) (upd_same_of hD) fun b e => .inl e
    refine ⟨S1, wipeE e1' own, [], [], ysAll, by simp, Nat.zero_le _, k1, by simpa using g2, rfl, upd_same, .nil, hS1, fun h => not_roots w1 hD ((k2 D).mp h), Nat.le_refl _, (Gr.newH p1.rep.same hD).step, fun b hb => .inl (w2 b ((k2 b).mp hb)), wipeE_length _ _⟩
  · rintro i m H ⟨S, ev0, done, acc, rest, rfl, hi, rep, hL, hys, hHD, hacc, hSD, hRD, hal, st, hsub, hlen⟩
    have at_ : gOk s.g ev0 → At K σ s S1 S H (wipe σ own) ev0 := fun hg => ⟨rep, st.st, hg, fun j hj => by
      have := hlk j hj
      rw [slotV_wipe, if_neg (of_decide_eq_true this)]⟩
    by_cases hlt : i < s.items.length
    · have hdrop : s.items.drop i = s.items[i] :: s.items.drop (i + 1) := List.drop_eq_getElem_cons hlt
      rw [hdrop, lcD] at hL
      obtain ⟨hgo, hL⟩ := (Option.ite_none_right_eq_some ..).mp hL
      obtain ⟨ea, b1, hL⟩ := Option.bind_eq_some_iff.mp hL
      obtain ⟨⟨c, eb⟩, b2, hL⟩ := Option.bind_eq_some_iff.mp hL
      obtain ⟨b, b3, hL⟩ := Option.bind_eq_some_iff.mp hL
      have hat := at_ hgo
      refine .inr ⟨it.go hat hlt, fun H => ∃ m', m' < s.items.length - i ∧ ∃ S env done acc rest, m' = s.items.length - (i + 1) ∧ i + 1 ≤ s.items.length ∧ RepEnv K S H (wipe σ own) env ∧
        lcD (fun e => (ev Γ elt e).bind fun (r, e') => fz e' r) (fun e => (ev Γ cond e).bind fun (r, e') => (cur e' r).map fun x => (x, e')) (bindT s.lk tg) own s.g (s.items.drop (i + 1)) env = some (rest, e2) ∧
        ysAll = done ++ rest ∧ H D = some (.lst acc) ∧ Rps K S acc done ∧ S D = none ∧ ¬ Roots H (wipe σ own) env D ∧ acc.length ≤ i + 1 ∧ Step (Roots H1 σ e1') S1 H1 S H ∧ (∀ b, Roots H (wipe σ own) env b → Roots H1 σ e1' b ∨ H1 b = none) ∧ env.length = e1'.length, fun H' h => h, fun x H' hy => ?_⟩
      obtain ⟨dx, S', y1, y2, y3⟩ := it.yld hat hlt hy
      have edx : dx = s.items[i] := by rw [List.getElem?_eq_getElem hlt] at y1; exact (Option.some.inj y1).symm
      subst edx
      obtain ⟨rep', rr⟩ := rep.grow y2.st y2.same y2.hh y2.nw
      have hD' := (y2.step (R := fun _ => False)).hold hSD hHD (fun z => z)
      refine ⟨s.lk, S', ev0, _, ea, rep', y3, b1, fun σ2 tp => ⟨wipe_eq tp.len fun j hj => tp.oth j fun z => hj (hown j z), ?_⟩⟩
      have hw2 : wipe σ2 own = wipe σ own := wipe_eq tp.len fun j hj => tp.oth j fun z => hj (hown j z)
      have st' : Step (Roots H1 σ e1') S1 H1 S' H' := st.trans (y2.step (R := fun _ => False)) fun _ z => z.elim
      have sub2 : ∀ b, Roots H' σ2 ea b → Roots H1 σ e1' b ∨ H1 b = none := fun b hb => hsub b ((rr b).mp (tp.sub b hb))
      have hR2 : ¬ Roots H' σ2 ea D := fun h => hRD ((rr D).mp (tp.sub D h))
      refine ⟨S', ea, c, eb, b, tp.rep, b2, b3, fun S3 H3 p3 => ?_⟩
      have hD3 := p3.step.hold hD'.1 hD'.2 hR2
      have st3 : Step (Roots H1 σ e1') S1 H1 S3 H3 := st'.trans p3.step fun c hc => sub2 c hc
      have sub3 : ∀ b, Roots H3 σ2 eb b → Roots H1 σ e1' b ∨ H1 b = none := fun b hb => (p3.sub b hb).elim (sub2 b) fun z => .inr (none_bk st' z)
      cases b with
      | true =>
        simp only [if_true] at hL ⊢
        obtain ⟨⟨y, ec⟩, b4, hL⟩ := Option.bind_eq_some_iff.mp hL
        obtain ⟨⟨r, ed⟩, b5, b4⟩ := Option.bind_eq_some_iff.mp b4
        obtain ⟨⟨ys', e2'⟩, b6, hL⟩ := Option.map_eq_some_iff.mp hL
        cases hL
        refine ⟨S3, eb, r, ed, p3.rep, b5, fun v S4 H4 p4 => ?_⟩
        obtain ⟨S5, p5, r5, _⟩ := fz_ok p4 b4
        have hD5 := p5.step.hold hD3.1 hD3.2 (fun h => hR2 (sD hD'.2 (p3.sub D h)))
        have st5 : Step (Roots H1 σ e1') S1 H1 S5 H4 := st3.trans p5.step fun c hc => sub3 c hc
        have sub5 : ∀ b, Roots H4 σ2 ec b → Roots H1 σ e1' b ∨ H1 b = none := fun b hb => (p5.sub b hb).elim (sub3 b) fun z => .inr (none_bk st3 z)
        obtain ⟨w5, w6⟩ := RepEnv.wipe p5.rep own
        rw [hw2] at w5 w6
        have hR5 : ¬ Roots H4 (wipe σ own) (wipeE ec own) D := fun h => hR2 (sD hD'.2 (p3.sub D (sD hD3.2 (p5.sub D (w6 D h)))))
        obtain ⟨k1, k2⟩ := w5.keep (step_at (o := .lst (acc ++ [v])) w5.same hD5.1 hD5.2) fun b hb e => hR5 (by rw [← e]; exact hb)
        have hz := it.len
        refine ⟨acc, hD5.2, by omega, s.items.length - (i + 1), by omega, S5, wipeE ec own, done ++ [y], acc ++ [v], ys', rfl, hlt, k1, b6, by rw [hys]; simp, upd_same, ?_, hD5.1, fun h => hR5 ((k2 D).mp h), ?_, ?_, fun b hb => sub5 b (w6 b ((k2 b).mp hb)), ?_⟩
        · exact dps_app (dpsMono (y2.st.trans (p3.step.st.trans p5.step.st)) hacc) (.cons r5 .nil)
        · rw [List.length_append]; simp; omega
        · exact st5.trans (step_at w5.same hD5.1 hD5.2) fun c e => .inr (by rw [e]; exact hD)
        · rw [wipeE_length, p5.slots, p3.slots, tp.slots, hlen]
      | false =>
        simp only [Bool.false_eq_true, if_false] at hL ⊢
        obtain ⟨w5, w6⟩ := RepEnv.wipe p3.rep own
        rw [hw2] at w5 w6
        refine ⟨s.items.length - (i + 1), by omega, S3, wipeE eb own, done, acc, rest, rfl, hlt, w5, hL, hys, hD3.2, dpsMono (y2.st.trans p3.step.st) hacc, hD3.1, fun h => hR2 (sD hD'.2 (p3.sub D (w6 D h))), by omega, st3, fun b hb => sub3 b (w6 b hb), ?_⟩
        rw [wipeE_length, p3.slots, tp.slots, hlen]
    · have e : s.items.drop i = [] := List.drop_eq_nil_of_le (by omega)
      rw [e, lcD] at hL
      obtain ⟨hgo, hL⟩ := (Option.ite_none_right_eq_some ..).mp hL
      cases hL
      rw [List.append_nil] at hys
      subst hys
      refine .inl ⟨it.stop (at_ hgo) (by omega), q _ S H ?_⟩
      obtain ⟨k1, k2⟩ := RepEnv.back own p1.rep st.st rep
      refine ⟨⟨p1.step.trans st fun c hc => p1.sub c hc, k1, fun b hb => (hsub b (k2 b hb)).elim (p1.sub b) fun z => .inr (none_bk p1.step z), by rw [backOwn_length, hlen, p1.slots]⟩, ⟨⟨D, acc, rfl, hSD, hHD, hacc⟩, fun b hb hr => ?_⟩, fun w e b hb => ?_⟩
      · cases hb
        exact hRD (k2 D hr)
      · cases e
        cases hb
        cases z : H0 D with
        | none => rfl
        | some o => exact absurd hD (p1.step.dm D (by rw [z]; simp))
end
end Ev

namespace Ev
open PySem L2
open PySem.Spec PyProof.Rows
/-! ### set(xs), xs a list of ints -/
section
variable {P : Program} {w : World} {A : Around} {Er : Value → Shared → Prop} {s : Shared}
/-- the empty set, as a set begins -/
abbrev set0 (w : World) : Obj := { cls := .type "set", dict := none, data := .set #[] 0 (.fresh 0 0 (!w.params.followText "set-order")) }
set_option maxHeartbeats 4000000 in
theorem set_of_list {l : Addr} {its : Array Value} (ns : List Int) {Q : Value → Shared → Prop} (hh : A.handled = none) (hl : s.heap.IsList l its) (rv : IntsAre its.toList ns) (few : ns.length + 1 < scanBound)
    (q : ∀ (h' : Heap) (tk c : Nat), SetR w h' s.heap.objs.size (fun j => decide (j ∈ ns)) c → c ≤ ns.length → (∀ b o, s.heap.get? b = some o → h'.get? b = some o) → Q (.ref s.heap.objs.size) { s with heap := h', toks := tk }) :
    wpAny (model P w) A (call (.type "set") [.ref l]) Q Er s := by
  have size : its.size = ns.length := (Array.length_toList (xs := its)).symm.trans (IntsAre.length rv)
  obtain ⟨kc, kt, mro⟩ := F.called_set.mro
  have made := F.called_set.made
  have sub := F.called_set.sub
  have k1 := F.called_set.notType
  have k2 := F.called_set.canCreate
  have k3 := F.typeCall_set_1 (.ref l)
  refine wpAny_call (codeAny_of_tree ?_)
  show wpAny _ _ (callAny (.type "set") _) _ _ _
  refine wpAny_pure (And.intro (Code.quiet_builtin _ (by decide +kernel)) (codeAny_builtin F.entry_type_call ?_))
  rw [Around.under_plain (weight_type_call_type "set" [.ref l] []) rfl]
  repeat (any_goals (first | assumption | wp_step))
  refine codeAny_mono (code_set_led1 (.ref l) (E := Er) (Q₁ := fun u s₁ => u = .ref s.heap.objs.size ∧ s₁ = { s with heap := s.heap.push (set0 w) }) ⟨rfl, rfl⟩) fun r s₁ hr => ?_
  match r, hr with
  | .error e, hr => exact hr
  | .ok .next, hr => exact hr.elim
  | .ok .brk, hr => exact hr.elim
  | .ok .cont, hr => exact hr.elim
  | .ok (.ret u), hr =>
    obtain ⟨rfl, rfl⟩ := hr
    have at0 : (s.heap.push (set0 w)).get? s.heap.objs.size = some (set0 w) := Heap.get?_push_size _ rfl
    have ty0 : Shared.TypeIs { s with heap := s.heap.push (set0 w) } (.ref s.heap.objs.size) "set" := ⟨_, at0, rfl⟩
    have k4 := F.called_set.init.lookup
    have k5 := F.called_set.init.bind (.ref s.heap.objs.size)
    repeat (any_goals (first | assumption | wp_step))
    refine codeAny_mono (codeAny_call_builtin (R := wants (fun r s₂ => r = .none ∧ ∃ h' tk c, s₂ = { s with heap := h', toks := tk } ∧ SetR w h' s.heap.objs.size (fun j => decide (j ∈ ns)) c ∧ c ≤ ns.length ∧ ∀ b o, s.heap.get? b = some o → h'.get? b = some o) Er) F.called_set.init.plain F.entry_set_init (check_set_init_1 ty0 ?_)) fun r₂ s₂ hr₂ => ?_
    · obtain ⟨⟨c0, d0, dt0, sl0⟩, at1, c1, n1, e1⟩ := hl
      simp only at c1 e1
      subst c1 e1
      have at2 : (s.heap.push (set0 w)).get? l = some { cls := .type "list", dict := d0, data := .seq its n1, slots := sl0 } := Heap.get?_push_of_some _ at1
      have lst2 : (s.heap.push (set0 w)).IsList l its := ⟨_, at2, rfl, n1, rfl⟩
      have k6 := F.sub_list_set
      have k7 := F.sub_list_frozenset
      have k8 : (Value.type "list" == Value.type "dict") = false := by decide
      unfold Builtin.«set.__init__» noKeywords Builtin.Frozenset.updateFrom
      generalize hIter : pyIter = iter
      wp_walk
      subst hIter
      refine wpAny_pyIter_list lst2 (wpAny_bind (wpAny_runValue ?_))
      have lt1 : l < s.heap.objs.size := Heap.lt_size at1
      have hh3 : A.in1.in1.in1.handled = none := by simp [hh]
      have ps : (s.heap.push (set0 w)).objs.size = s.heap.objs.size + 1 := Heap.size_push ..
      have ne1 : l ≠ (s.heap.push (set0 w)).objs.size := fun z => by
        rw [ps] at z
        exact Nat.lt_irrefl l (Nat.lt_of_lt_of_le lt1 (by rw [z]; exact Nat.le_succ _))
      have ne2 : s.heap.objs.size ∉ [(s.heap.push (set0 w)).objs.size, l] := by
        rw [ps]
        intro z
        simp only [List.mem_cons, List.not_mem_nil, or_false] at z
        rcases z with z | z
        · exact Nat.ne_of_lt (Nat.lt_succ_self _) z
        · exact Nat.ne_of_lt lt1 z.symm
      refine set_update_ints ((Walks.list hh3 _ l ne1 its).toS) s.heap.objs.size ne2 ns size few (fun i v hv => ?_) its.size 0 _ rfl (Nat.zero_le _) ⟨⟨_, Heap.get?_push_size _ rfl, rfl, rfl⟩, lst2.push _⟩ ⟨0, Nat.le_refl 0, setR_new_at (Heap.get?_push_of_some _ at0)⟩ fun s' c' mv hc' hS' => ?_
      · have hi : i < ns.length := by rw [← size]; exact (Array.getElem?_eq_some_iff.mp hv).1
        obtain ⟨t, e⟩ := IntsAre.int_at rv i v (by rw [Array.getElem?_toList]; exact hv)
        exact ⟨ns[i], t, List.getElem?_eq_getElem hi, by rw [e, List.getD_eq_getElem?_getD, List.getElem?_eq_getElem hi]; rfl⟩
      · obtain ⟨h', g2, d', tk', os'⟩ := s'
        obtain rfl : g2 = s.gens := mv.gens
        obtain rfl : d' = s.drawn := mv.drawn
        obtain rfl : os' = s.os := mv.os
        show wpAny _ _ _ _ _ _
        refine wpAny_pure ?_
        show wpAny _ _ (ret Value.none) _ _ _
        refine wpAny_pure ⟨rfl, h', tk', c', rfl, hS', by omega, fun b o e => ?_⟩
        have hb := Heap.lt_size e
        refine mv.heap b o (fun z => ?_) (Heap.get?_push_of_some _ (Heap.get?_push_of_some _ e))
        simp only [List.mem_cons, List.not_mem_nil, or_false] at z
        rw [ps] at z
        rcases z with z | z
        · exact Nat.ne_of_lt hb z
        · exact Nat.ne_of_lt (Nat.lt_succ_of_lt hb) z
    · match r₂, hr₂ with
      | .error e, hr₂ => exact hr₂
      | .ok .next, hr₂ => exact hr₂.elim
      | .ok .brk, hr₂ => exact hr₂.elim
      | .ok .cont, hr₂ => exact hr₂.elim
      | .ok (.ret r), hr₂ =>
        obtain ⟨rfl, h', tk, c', rfl, hS', hc', hk'⟩ := hr₂
        repeat (any_goals (first | assumption | wp_step))
        exact q _ _ _ hS' hc' hk'
end
/-! ### the plain side -/
theorem mem_insI {x y : Int} : ∀ {l : List Int}, y ∈ insI x l ↔ y = x ∨ y ∈ l
  | [] => by simp [insI]
  | z :: r => by
    unfold insI
    split
    · simp
    · split
      · rename_i h; subst h; simp
      · rw [List.mem_cons, mem_insI, List.mem_cons]
        constructor
        · rintro (h | h | h)
          · exact .inr (.inl h)
          · exact .inl h
          · exact .inr (.inr h)
        · rintro (h | h | h)
          · exact .inr (.inl h)
          · exact .inl h
          · exact .inr (.inr h)
theorem pw_insI {x : Int} : ∀ {l : List Int}, l.Pairwise (· < ·) → (insI x l).Pairwise (· < ·)
  | [], _ => by simp [insI]
  | z :: r, h => by
    obtain ⟨h1, h2⟩ := List.pairwise_cons.mp h
    unfold insI
    split
    · rename_i k
      refine List.pairwise_cons.mpr ⟨fun y hy => ?_, h⟩
      rcases List.mem_cons.mp hy with e | e
      · subst e; exact k
      · exact Int.lt_trans k (h1 y e)
    · split
      · exact h
      · refine List.pairwise_cons.mpr ⟨fun y hy => ?_, pw_insI h2⟩
        rcases mem_insI.mp hy with e | e
        · omega
        · exact h1 y e
theorem setI_pw : ∀ l : List Int, (setI l).Pairwise (· < ·)
  | [] => by simp [setI]
  | x :: r => pw_insI (setI_pw r)
theorem mem_setI {y : Int} : ∀ {l : List Int}, y ∈ setI l ↔ y ∈ l
  | [] => by simp [setI]
  | x :: r => by
    show y ∈ insI x (setI r) ↔ _
    rw [mem_insI, mem_setI, List.mem_cons]
theorem rise_unique : ∀ {l m : List Int}, l.Pairwise (· < ·) → m.Pairwise (· < ·) → (∀ k, k ∈ l ↔ k ∈ m) → l = m
  | [], [], _, _, _ => rfl
  | [], b :: m, _, _, h => absurd ((h b).mpr (by simp)) (by simp)
  | a :: l, [], _, _, h => absurd ((h a).mp (by simp)) (by simp)
  | a :: l, b :: m, h1, h2, h => by
    obtain ⟨p1, p2⟩ := List.pairwise_cons.mp h1
    obtain ⟨q1, q2⟩ := List.pairwise_cons.mp h2
    have e : a = b := by
      have x1 := (h a).mp (by simp)
      have x2 := (h b).mpr (by simp)
      rcases List.mem_cons.mp x1 with e | e
      · exact e
      · rcases List.mem_cons.mp x2 with e' | e'
        · exact e'.symm
        · have := p1 b e'
          have := q1 a e
          omega
    subst e
    rw [rise_unique p2 q2 fun k => ⟨fun hk => ?_, fun hk => ?_⟩]
    · have := p1 k hk
      rcases List.mem_cons.mp ((h k).mp (by simp [hk])) with e | e
      · omega
      · exact e
    · have := q1 k hk
      rcases List.mem_cons.mp ((h k).mpr (by simp [hk])) with e | e
      · omega
      · exact e
theorem setI_nodup (l : List Int) : (setI l).Nodup := (setI_pw l).imp fun h => by omega
theorem insI_le' (x : Int) : ∀ m : List Int, (insI x m).length ≤ m.length + 1
  | [] => by simp [insI]
  | y :: t => by
    have ih := insI_le' x t
    unfold insI
    split
    · simp
    · split
      · simp
      · simp only [List.length_cons]; omega
theorem setI_le' : ∀ l : List Int, (setI l).length ≤ l.length
  | [] => by simp [setI]
  | x :: r => by
    have ih := setI_le' r
    have := insI_le' x (setI r)
    show (insI x (setI r)).length ≤ _
    rw [List.length_cons]
    omega
theorem setI_len {l m : List Int} (nd : m.Nodup) (h : ∀ k, k ∈ m ↔ k ∈ l) : m.length = (setI l).length :=
  ((List.perm_ext_iff_of_nodup nd (setI_nodup l)).mpr fun k => (h k).trans mem_setI.symm).length_eq
section
variable {X : Cx}
def rSetI (K : PySem.W.Frag) (w : World) : List V → Hp → VK → Prop := fun vs H Q => ∃ (l : Addr) (ns : List Int), vs = [.ref l] ∧ SqL K H l (ns.map V.int) ∧ ns.length < 1000 ∧ ∀ (p : Addr) (c : Nat), H p = none → c = (setI ns).length → Q (.ref p) (upd H p (SetO w p (fun j => decide (j ∈ ns)) c))
theorem cr_setI (hc : X.calm = true) : CallR X (.type "set") (rSetI X.K X.w) := by
  intro pins s σ H vs us Q I r h
  obtain ⟨l, ns, rfl, hq, few, q⟩ := h
  obtain ⟨its, rv, pl, _⟩ := I.list hq
  rw [Vals.ref1 r]
  refine set_of_list ns (I.ok.hd hc) pl.isList (by simpa using rv.ints) (by unfold scanBound; omega) fun h' tk c hS hc' hk => ?_
  have hcn : c = (setI ns).length := by
    obtain ⟨o, es, ep, t, ho, hex, hd, _, nd, mem, _, hf, hn, _⟩ := hS
    refine Eq.trans ?_ (setI_len nd fun k => ((mem k).symm).trans (by rw [decide_eq_true_eq]))
    rw [List.length_map, Array.length_toList]
    exact hn.symm
  exact ⟨.ref s.heap.objs.size, _, I.laid (t' := tk) hk (Nat.le_refl _) (setO_new hS), rfl, q _ c (I.hok.fresh (Nat.le_refl _)) hcn⟩
/-- len of such a set -/
def rLenSetO (w : World) : List V → Hp → VK → Prop := fun vs H Q => ∃ (a : Addr) (S : Int → Bool) (n : Nat), vs = [.ref a] ∧ H a = some (SetO w a S n) ∧ n < 1000 ∧ ∀ ms : List Int, ms.Nodup → (∀ k : Int, k ∈ ms ↔ S k = true) → ms.length = n → Q (.int (n : Nat)) H
theorem cr_lenSetO : CallR X (.builtin "len") (rLenSetO X.w) := by
  intro pins s σ H vs us Q I r h
  obtain ⟨a, S, n, rfl, ha, few, q⟩ := h
  obtain ⟨o, es, ep, t, ho, hex, hd, _, nd, mem, _, hf, hn, _⟩ := setO_get I ha
  rw [Vals.ref1 r]
  refine call_len_set ho hex hd hf (by rw [hn]; omega) ⟨.int (n : Nat), H, I.tok _, ⟨_, by rw [hn]⟩, q _ nd (fun k => (mem k).symm) (by rw [List.length_map, Array.length_toList]; exact hn)⟩
end
section
variable {Γ : Ctx} {T : Tab} {N : List Str} {sc scT : Scope} {k : Nat} {X : Cx} {K : PySem.W.Frag}
theorem rps_ints {S : Hp} : ∀ ns : List Int, Rps K S (ns.map V.int) (ns.map PyData.int)
  | [] => .nil
  | n :: ns => .cons (.int n) (rps_ints ns)
theorem ints_of_list {S H : Hp} {v : V} {xs : List D} {ns : List Int} (hs : Same S H) (r : RepC K S H v (.list xs)) (e : intsOf xs = some ns) : ∃ a, v = .ref a ∧ SqL K H a (ns.map V.int) := by
  obtain ⟨a, vs, rfl, h1, h2⟩ := r.list hs
  exact ⟨a, rfl, by rw [← ints_rps h2 e]; exact SqL.of h1⟩
theorem psv_q {S0 H0 S H S' H' : Hp} {env0 env : Env} {σ : L2.St} (p : Pst K S0 H0 σ env0 S H env) {q : Addr} {vs : List V} {xs : List D} (g : Gr S H S' H') (hq : H q = none) (e1 : H' q = some (.lst vs)) (e0 : S' q = none) (r : Rps K S' vs xs) : Psv K S0 H0 σ env0 S' H' env (.ref q) (.v (.own xs)) :=
  psv_gr p g ⟨q, vs, rfl, e0, e1, r⟩ fun b z => by cases z; exact hq
/-- an extra object that nobody knows of is left behind -/
theorem Gr.ext {S H : Hp} {p q : Addr} {o u : HO} (h : Same S H) (hp : H p = none) (hq : upd H p o q = none) : Gr S H S (upd (upd H p o) q u) :=
  (Gr.newH h hp).trans (Gr.newH (h.trans (upd_same_of hp)) hq)
theorem rgV_rps {S : Hp} (i j : Int) : Rps K S (rgV i j) (rngOf i j) := by
  unfold rgV rngOf
  have : ∀ l : List Nat, Rps K S (l.map fun (k : Nat) => V.int (i + (k : Nat))) (l.map fun (k : Nat) => PyData.int (i + (k : Nat))) := fun l => by
    induction l with
    | nil => exact .nil
    | cons x r ih => exact .cons (.int _) ih
  exact this _
theorem rgOk_of {i j : Int} (h : rngOk i j = true) : RgOk i j := by
  have h := of_decide_eq_true h
  unfold RgOk
  omega
theorem snd_lrg1 {a : ME} (ha : SndE Γ T N a) : SndE Γ T N (.lrg1 a) := by
  have ee : ∀ {sc scT k X e}, XOk Γ T N sc scT k X → okE T N (.lrg1 a) sc e = true → PE X e (tE X.K Γ (.lrg1 a)) := by
    intro sc scT k X e hX h
    simp only [okE] at h
    split at h
    · rename_i x p y p2 z pos2 pos
      simp only [Bool.and_eq_true, decide_eq_true_eq] at h
      obtain ⟨⟨⟨⟨⟨⟨⟨h1, h2⟩, h3⟩, h4⟩, h5⟩, h6⟩, h7⟩, h8⟩ := h
      subst h1 h4
      refine PE.imp (pe_listRg hX.calm (hX.glo h3) (hX.bl _ h2) (prg_1 (hX.glo h6) (hX.bl _ h5) (ha.e hX h8) (star_fine h7)) rfl) fun σ H Q q => ?_
      obtain ⟨S, env, r, env', rep, e1, q⟩ := q
      simp only [ev] at e1
      obtain ⟨⟨ra, e2⟩, g1, e1⟩ := Option.bind_eq_some_iff.mp e1
      obtain ⟨dx, g2, e1⟩ := Option.bind_eq_some_iff.mp e1
      refine ⟨S, env, ra, e2, rep, g1, fun v S1 H1 p1 => ?_⟩
      have rc := repC_of p1.rep p1.res g2
      cases dx <;> simp only [reduceCtorEq, Option.ite_none_right_eq_some, Option.some.injEq, Prod.mk.injEq] at e1
      obtain ⟨e3, e4, e5⟩ := e1
      subst e4 e5
      exact ⟨_, rc.int, rgOk_of e3, fun u hu => q _ S1 _ (psv_q p1.toPst (Gr.newH p1.rep.same hu) hu upd_same (p1.rep.same.free hu) (rgV_rps _ _))⟩
    · cases h
  refine ⟨ee, fun hX h => ?_⟩
  rename_i sc scT k X e
  have h2 := h
  simp only [okE] at h2
  split at h2
  · exact tru_tT (ee hX h) fun _ => rfl
  · cases h2
theorem snd_lrg2 {a b : ME} (ha : SndE Γ T N a) (hb : SndE Γ T N b) : SndE Γ T N (.lrg2 a b) := by
  have ee : ∀ {sc scT k X e}, XOk Γ T N sc scT k X → okE T N (.lrg2 a b) sc e = true → PE X e (tE X.K Γ (.lrg2 a b)) := by
    intro sc scT k X e hX h
    simp only [okE] at h
    split at h
    · rename_i x p y p2 z u pos2 pos
      simp only [Bool.and_eq_true, decide_eq_true_eq] at h
      obtain ⟨⟨⟨⟨⟨⟨⟨⟨⟨h1, h2⟩, h3⟩, h4⟩, h5⟩, h6⟩, h7⟩, h7'⟩, h8⟩, h9⟩ := h
      subst h1 h4
      refine PE.imp (pe_listRg hX.calm (hX.glo h3) (hX.bl _ h2) (prg_2 (hX.glo h6) (hX.bl _ h5) (ha.e hX h8) (hb.e hX h9) (star_fine h7) (star_fine h7') (by rw [star_fine h7']; rfl)) rfl) fun σ H Q q => ?_
      obtain ⟨S, env, r, env', rep, e1, q⟩ := q
      simp only [ev] at e1
      obtain ⟨⟨ra, e2⟩, g1, e1⟩ := Option.bind_eq_some_iff.mp e1
      obtain ⟨⟨rb, e3⟩, g2, e1⟩ := Option.bind_eq_some_iff.mp e1
      obtain ⟨dx, g3, e1⟩ := Option.bind_eq_some_iff.mp e1
      obtain ⟨dy, g4, e1⟩ := Option.bind_eq_some_iff.mp e1
      refine ⟨S, env, ra, e2, rep, g1, fun v1 S1 H1 p1 => ⟨S1, e2, rb, _, p1.rep, g2, fun v2 S2 H2 p2 => ?_⟩⟩
      have r1 := p1.res.cur p2.toPst g3
      have r2 := repC_of p2.rep p2.res g4
      cases dx <;> cases dy <;> simp only [reduceCtorEq, Option.ite_none_right_eq_some, Option.some.injEq, Prod.mk.injEq] at e1
      obtain ⟨e4, e5, e6⟩ := e1
      subst e5 e6
      exact ⟨_, _, r1.int, r2.int, rgOk_of e4, fun u hu => q _ S2 _ (psv_q (p1.toPst.trans p2.toPst) (Gr.newH p2.rep.same hu) hu upd_same (p2.rep.same.free hu) (rgV_rps _ _))⟩
    · cases h
  refine ⟨ee, fun hX h => ?_⟩
  rename_i sc scT k X e
  have h2 := h
  simp only [okE] at h2
  split at h2
  · exact tru_tT (ee hX h) fun _ => rfl
  · cases h2
theorem pe_set1 {z : Expr} {t : TE} {p pos : Pos} (hX : XOk Γ T N sc scT k X) (hg : Gl X "set") (hm : X.mg "set" = none) (hz : fineE z = true) (h : PE X z t) : PE X (.Call (.Name "set" p) [z] [] pos) (tCB (rSetI X.K X.w) (tCons t tNil)) :=
  pe_callTy (cr_setI hX.calm) hg hm (by decide +kernel) (pa_cons h pa_nil (star_fine hz)) (by decide) (by decide) (star_fine hz) rfl
theorem snd_sset {a : ME} (ha : SndE Γ T N a) : SndE Γ T N (.sset a) := by
  have ee : ∀ {sc scT k X e}, XOk Γ T N sc scT k X → okE T N (.sset a) sc e = true → PE X e (tE X.K Γ (.sset a)) := by
    intro sc scT k X e hX h
    simp only [okE] at h
    split at h
    · rename_i x p y p2 z pos2 pos
      simp only [Bool.and_eq_true, decide_eq_true_eq] at h
      obtain ⟨⟨⟨⟨⟨⟨⟨h1, h2⟩, h3⟩, h4⟩, h5⟩, h6⟩, h7⟩, h8⟩ := h
      subst h1 h4
      refine PE.imp (pe_callB (cr_sortedSet hX.calm) (hX.glo h3) (hX.bl _ h2) (by decide +kernel) (pa_cons (pe_set1 hX (hX.glo h6) (hX.bl _ h5) h7 (ha.e hX h8)) pa_nil) (by decide) (by decide) rfl rfl) fun σ H Q q => ?_
      obtain ⟨S, env, r, env', rep, e1, q⟩ := q
      simp only [ev] at e1
      obtain ⟨⟨ra, e2⟩, g1, e1⟩ := Option.bind_eq_some_iff.mp e1
      obtain ⟨dx, g2, e1⟩ := Option.bind_eq_some_iff.mp e1
      obtain ⟨rr, g3, e1⟩ := Option.map_eq_some_iff.mp e1
      cases e1
      refine ⟨S, env, ra, e2, rep, g1, fun v S1 H1 p1 => ?_⟩
      have rc := repC_of p1.rep p1.res g2
      cases dx <;> simp only [ssetD, reduceCtorEq] at g3
      obtain ⟨ns, g4, g5⟩ := Option.bind_eq_some_iff.mp g3
      obtain ⟨few, g6⟩ := (Option.ite_none_right_eq_some ..).mp g5
      cases g6
      obtain ⟨l, rfl, hq⟩ := ints_of_list p1.rep.same rc g4
      refine ⟨l, ns, rfl, hq, few.1, fun u c hu hc => ⟨u, _, c, rfl, upd_same, by rw [hc]; exact few.2, fun ms p' h1 h2 h3 hp' => ?_⟩⟩
      have em : ms = setI ns := rise_unique h1 (setI_pw ns) fun k => (h2 k).trans (by rw [decide_eq_true_eq, mem_setI])
      subst em
      have hp : H1 p' = none := by
        by_cases z : p' = u
        · subst z; exact hu
        · rwa [upd_ne z] at hp'
      exact q _ S1 _ (psv_q p1.toPst (Gr.ext p1.rep.same hu hp') hp upd_same (p1.rep.same.free hp) (rps_ints _))
    · cases h
  refine ⟨ee, fun hX h => ?_⟩
  rename_i sc scT k X e
  have h2 := h
  simp only [okE] at h2
  split at h2
  · exact tru_tT (ee hX h) fun _ => rfl
  · cases h2
theorem snd_lset {a : ME} (ha : SndE Γ T N a) : SndE Γ T N (.lset a) := by
  have ee : ∀ {sc scT k X e}, XOk Γ T N sc scT k X → okE T N (.lset a) sc e = true → PE X e (tE X.K Γ (.lset a)) := by
    intro sc scT k X e hX h
    simp only [okE] at h
    split at h
    · rename_i x p y p2 z pos2 pos
      simp only [Bool.and_eq_true, decide_eq_true_eq] at h
      obtain ⟨⟨⟨⟨⟨⟨⟨h1, h2⟩, h3⟩, h4⟩, h5⟩, h6⟩, h7⟩, h8⟩ := h
      subst h1 h4
      refine PE.imp (pe_callB cr_lenSetO (hX.glo h3) (hX.bl _ h2) (by decide +kernel) (pa_cons (pe_set1 hX (hX.glo h6) (hX.bl _ h5) h7 (ha.e hX h8)) pa_nil) (by decide) (by decide) rfl rfl) fun σ H Q q => ?_
      obtain ⟨S, env, r, env', rep, e1, q⟩ := q
      simp only [ev] at e1
      obtain ⟨⟨ra, e2⟩, g1, e1⟩ := Option.bind_eq_some_iff.mp e1
      obtain ⟨dx, g2, e1⟩ := Option.bind_eq_some_iff.mp e1
      obtain ⟨rr, g3, e1⟩ := Option.map_eq_some_iff.mp e1
      cases e1
      refine ⟨S, env, ra, e2, rep, g1, fun v S1 H1 p1 => ?_⟩
      have rc := repC_of p1.rep p1.res g2
      cases dx <;> simp only [lsetD, reduceCtorEq] at g3
      obtain ⟨ns, g4, g5⟩ := Option.bind_eq_some_iff.mp g3
      obtain ⟨few, g6⟩ := (Option.ite_none_right_eq_some ..).mp g5
      cases g6
      obtain ⟨l, rfl, hq⟩ := ints_of_list p1.rep.same rc g4
      refine ⟨l, ns, rfl, hq, few, fun u c hu hc => ⟨u, _, c, rfl, upd_same, by rw [hc]; exact Nat.lt_of_le_of_lt (setI_le' ns) few, fun ms h1 h2 h3 => ?_⟩⟩
      have em : c = (setI ns).length := h3.symm.trans (setI_len h1 fun k => (h2 k).trans (by rw [decide_eq_true_eq]))
      subst em
      exact q _ S1 _ (psv_gr p1.toPst (Gr.newH p1.rep.same hu) (.int _) fun b z => z.elim)
    · cases h
  refine ⟨ee, fun hX h => ?_⟩
  rename_i sc scT k X e
  have h2 := h
  simp only [okE] at h2
  split at h2
  · exact tru_tT (ee hX h) fun _ => rfl
  · cases h2
theorem rps_rev {S : Hp} : ∀ {vs : List V} {xs : List D}, Rps K S vs xs → Rps K S vs.reverse xs.reverse
  | _, _, .nil => .nil
  | _, _, .cons h t => by
    rw [List.reverse_cons, List.reverse_cons]
    exact dps_app (rps_rev t) (.cons h .nil)
theorem snd_rev {a : ME} (ha : SndE Γ T N a) : SndE Γ T N (.rev a) := by
  have ee : ∀ {sc scT k X e}, XOk Γ T N sc scT k X → okE T N (.rev a) sc e = true → PE X e (tE X.K Γ (.rev a)) := by
    intro sc scT k X e hX h
    simp only [okE] at h
    split at h
    · rename_i z i _ _ _ _ _
      simp only [Bool.and_eq_true, decide_eq_true_eq] at h
      obtain ⟨h1, h8⟩ := h
      subst h1
      refine PE.imp (pe_revL (ha.e hX h8)) fun σ H Q q => ?_
      obtain ⟨S, env, r, env', rep, e1, q⟩ := q
      simp only [ev] at e1
      obtain ⟨⟨ra, e2⟩, g1, e1⟩ := Option.bind_eq_some_iff.mp e1
      obtain ⟨dx, g2, e1⟩ := Option.bind_eq_some_iff.mp e1
      obtain ⟨rr, g3, e1⟩ := Option.map_eq_some_iff.mp e1
      cases e1
      refine ⟨S, env, ra, e2, rep, g1, fun v S1 H1 p1 => ?_⟩
      have rc := repC_of p1.rep p1.res g2
      cases dx <;> simp only [revD, reduceCtorEq, Option.some.injEq] at g3
      subst g3
      obtain ⟨l, vs, rfl, k1, k2⟩ := rc.list p1.rep.same
      exact ⟨l, vs, rfl, SqL.of k1, fun u hu => q _ S1 _ (psv_q p1.toPst (Gr.newH p1.rep.same hu) hu upd_same (p1.rep.same.free hu) (rps_rev k2))⟩
    · cases h
  refine ⟨ee, fun hX h => ?_⟩
  rename_i sc scT k X e
  have h2 := h
  simp only [okE] at h2
  split at h2
  · exact tru_tT (ee hX h) fun _ => rfl
  · cases h2
end
end Ev

namespace Ev
open PySem L2
section
variable {Γ : Ctx} {T : Tab} {N : List Str} {sc scT : Scope} {k : Nat} {X : Cx} {K : PySem.W.Frag}
theorem snd_lc {elt : ME} {tg : Tg} {it : MI} {cond : ME} {own : List Nat} (h1 : SndE Γ T N elt) (h2 : SndI Γ T N it) (h3 : SndE Γ T N cond) : SndE Γ T N (.lc elt tg it cond own) := by
  have ee : ∀ {sc scT k X e}, XOk Γ T N sc scT k X → okE T N (.lc elt tg it cond own) sc e = true → PE X e (tE X.K Γ (.lc elt tg it cond own)) := by
    intro sc scT k X e hX h
    simp only [okE] at h
    split at h
    · rename_i y t i cs scope pos
      simp only [Bool.and_eq_true] at h
      obtain ⟨⟨⟨⟨⟨⟨b1, b2⟩, b3⟩, b4⟩, b5⟩, b6⟩, b7⟩ := h
      rw [List.all_eq_true] at b2
      have bok : BlkOk X.N X.env.scope scope (ownP N own) := by rw [hX.hN, hX.hsc]; exact blkOk_by b1
      refine PE.imp (pe_lc (own := ownP N own) (te := tE X.K Γ elt) (g := tGx X.K tg) (tt := tCd X.K Γ cond) hX.calm (by rw [hX.hN]; exact hX.nd) (h2.i hX b5) bok (fun s H C cl fp => pgx_ok (hX.blk s H C cl fp) tg t b3) (fun s H C cl fp => pts_ok h3 (hX.blk s H C cl fp) b7) (fun s H C cl fp => h1.e (hX.blk s H C cl fp) b6) (nofold b4)) fun σ H Q q => ?_
      rw [ownP_snd]
      exact lc_read (fun j hj => of_decide_eq_true (b2 j hj)) q
    · cases h
  refine ⟨ee, fun hX h => ?_⟩
  rename_i sc scT k X e
  have h2 := h
  simp only [okE] at h2
  split at h2
  · exact tru_tT (ee hX h) fun _ => rfl
  · cases h2
end
mutual
theorem sndE (Γ : Ctx) (T : Tab) (N : List Str) : ∀ m : ME, SndE Γ T N m
  | .var i => snd_var i
  | .con c => snd_con c
  | .glb j => snd_glb j
  | .bin op a b => snd_bin op (sndE Γ T N a) (sndE Γ T N b)
  | .neg a => snd_neg (sndE Γ T N a)
  | .cmp op a b => snd_cmp op (sndE Γ T N a) (sndE Γ T N b)
  | .chain op op' a b c => snd_chain op op' (sndE Γ T N a) (sndE Γ T N b) (sndE Γ T N c)
  | .andE a b => snd_and (sndE Γ T N a) (sndE Γ T N b)
  | .orE a b => snd_or (sndE Γ T N a) (sndE Γ T N b)
  | .notE a => snd_not (sndE Γ T N a)
  | .ite c a b => snd_ite (sndE Γ T N c) (sndE Γ T N a) (sndE Γ T N b)
  | .tup es => snd_tup (sndL Γ T N es)
  | .lst es => snd_lst (sndL Γ T N es)
  | .idx a b => snd_idx (sndE Γ T N a) (sndE Γ T N b)
  | .sli a lo hi => snd_sli (sndE Γ T N a) (sndE Γ T N lo) (sndE Γ T N hi)
  | .call f es => snd_call f (sndL Γ T N es)
  | .bi b es => snd_bi b (sndL Γ T N es)
  | .lc elt tg it cond own => snd_lc (sndE Γ T N elt) (sndI Γ T N it) (sndE Γ T N cond)
  | .lrg1 a => snd_lrg1 (sndE Γ T N a)
  | .lrg2 a b => snd_lrg2 (sndE Γ T N a) (sndE Γ T N b)
  | .sset a => snd_sset (sndE Γ T N a)
  | .lset a => snd_lset (sndE Γ T N a)
  | .rev a => snd_rev (sndE Γ T N a)
theorem sndI (Γ : Ctx) (T : Tab) (N : List Str) : ∀ m : MI, SndI Γ T N m
  | .seq a => sndi_seq (sndE Γ T N a)
  | .rng es => sndi_rng (sndL Γ T N es)
  | .enum a => sndi_enum (sndE Γ T N a)
  | .zip a b => sndi_zip (sndE Γ T N a) (sndE Γ T N b)
theorem sndL (Γ : Ctx) (T : Tab) (N : List Str) : ∀ ms : List ME, SndL Γ T N ms
  | [] => sndl_nil
  | m :: ms => sndl_cons (sndE Γ T N m) (sndL Γ T N ms)
end
end Ev

namespace Ev
open PySem L2
section
variable {Γ : Ctx} {T : Tab} {N : List Str} {sc scT : Scope} {k : Nat} {X : Cx} {K : PySem.W.Frag} {S S' S1 S2 H H' H1 H2 : Hp} {σ σ' σ1 σ2 : St} {env env' env1 env2 : Env} {L : List Nat}
/-! ### statements: the state behind -/
structure Sst (K : PySem.W.Frag) (S H : Hp) (σ : St) (env : Env) (L : List Nat) (S' H' : Hp) (σ' : St) (env' : Env) : Prop where
  step : Step (Roots H σ env) S H S' H'
  rep : RepEnv K S' H' σ' env'
  sub : ∀ b, Roots H' σ' env' b → Roots H σ env b ∨ H b = none
  keep : ∀ j ∈ L, slotV σ' j = slotV σ j
  slots : env'.length = env.length
theorem none_back {R : Addr → Prop} {b : Addr} (st : Step R S H S' H') (h : H' b = none) : H b = none := by
  cases q : H b with
  | none => rfl
  | some o => exact absurd h (st.dm b (by rw [q]; simp))
theorem Sst.refl (e : RepEnv K S H σ env) : Sst K S H σ env L S H σ env := ⟨Step.refl e.same, e, fun _ h => .inl h, fun _ _ => rfl, rfl⟩
theorem Sst.trans (a : Sst K S H σ env L S1 H1 σ1 env1) (b : Sst K S1 H1 σ1 env1 L S2 H2 σ2 env2) : Sst K S H σ env L S2 H2 σ2 env2 :=
  ⟨a.step.trans b.step a.sub, b.rep, fun c h => (b.sub c h).elim (a.sub c) fun z => .inr (none_back a.step z), fun j h => (b.keep j h).trans (a.keep j h), b.slots.trans a.slots⟩
theorem Sst.of (p : Pst K S H σ env S' H' env') : Sst K S H σ env L S' H' σ env' := ⟨p.step, p.rep, fun c h => p.sub c h, fun _ _ => rfl, p.slots⟩
theorem Sst.tg {sl : List Nat} (t : TPost K S H L sl σ env σ' env') : Sst K S H σ env L S H σ' env' := ⟨Step.refl t.rep.same, t.rep, fun c h => .inl (t.sub c h), t.keep, t.slots⟩
theorem Sst.sub_L {L' : List Nat} (a : Sst K S H σ env L S' H' σ' env') (h : ∀ j ∈ L', j ∈ L) : Sst K S H σ env L' S' H' σ' env' := ⟨a.step, a.rep, a.sub, fun j hj => a.keep j (h j hj), a.slots⟩
/-- what follows a statement -/
def SPost (K : PySem.W.Frag) (S H : Hp) (σ : St) (env : Env) (L : List Nat) (D : Ends) : Res → Prop
  | .nx e => ∀ S' H' σ', Sst K S H σ env L S' H' σ' e → D.nx σ' H'
  | .bk e => ∀ S' H' σ', Sst K S H σ env L S' H' σ' e → D.bk σ' H'
  | .ct e => ∀ S' H' σ', Sst K S H σ env L S' H' σ' e → D.ct σ' H'
  | .rt r e => ∀ v S' H' σ', Sst K S H σ env L S' H' σ' e → RepR K S' H' σ' e v r → (∀ w, r = .v w → ∀ b, Root H' v w b → H b = none) → D.rt v H'
theorem SPost.after {D : Ends} {r : Res} (a : Sst K S H σ env L S1 H1 σ1 env1) (h : SPost K S H σ env L D r) : SPost K S1 H1 σ1 env1 L D r := by
  cases r with
  | nx e => exact fun S' H' σ' b => h S' H' σ' (a.trans b)
  | bk e => exact fun S' H' σ' b => h S' H' σ' (a.trans b)
  | ct e => exact fun S' H' σ' b => h S' H' σ' (a.trans b)
  | rt r e => exact fun v S' H' σ' b rr n => h v S' H' σ' (a.trans b) rr fun w e c hc => none_back a.step (n w e c hc)
def tS (K : PySem.W.Frag) (Γ : Ctx) (L : List Nat) (m : MS) : TS := fun D σ H => ∃ S env r, RepEnv K S H σ env ∧ evS Γ L m env = some r ∧ SPost K S H σ env L D r
def tSs (K : PySem.W.Frag) (Γ : Ctx) (L : List Nat) (m : List MS) : TS := fun D σ H => ∃ S env r, RepEnv K S H σ env ∧ evSs Γ L m env = some r ∧ SPost K S H σ env L D r

/-! ### a value stored -/
theorem set_ok {v : V} {w : Val} {i : Nat} {env0 : Env} {S0 H0 : Hp} {σ0 : St} (a : Sst K S0 H0 σ0 env0 L S H σ env) (r : RepV K S H v w) (n : ∀ b, Root H v w b → ¬ Roots H σ env b) (f : ∀ b, Root H v w b → H0 b = none) (e : setV L i w env = some env') :
    Sst K S0 H0 σ0 env0 L S H (σ.set i (some v)) env' := by
  unfold setV at e
  split at e
  · cases e
  · rename_i hc
    cases e
    rw [not_or] at hc
    obtain ⟨k1, k2⟩ := a.rep.put (Nat.lt_of_not_le hc.2) r n
    refine ⟨a.step, k1, fun b hb => (k2 b hb).elim (a.sub b) fun z => .inr (f b z), fun j hj => ?_, by simpa using a.slots⟩
    rw [slotV_set, if_neg fun z => hc.1 (by rw [z.1]; exact hj)]
    exact a.keep j hj
def gAsg (K : PySem.W.Frag) : Tg → TG
  | .nm i => fun v σ H Q => Q (σ.set i (some v)) H
  | .tup ts => fun v σ H Q => tGx K (.tup ts) v σ H Q
theorem asg_ok {tg : Tg} {v : V} {r : Rv} {S0 H0 : Hp} {env0 : Env} {Q : St → Hp → Prop} (p : Psv K S0 H0 σ env0 S H env v r) (e : asgn L tg r env = some env') (q : ∀ S' σ', Sst K S0 H0 σ env0 L S' H σ' env' → Q σ' H) :
    gAsg K tg v σ H Q := by
  cases tg with
  | nm i =>
    cases r with
    | v w => exact q _ _ (set_ok (Sst.of p.toPst) p.res.1 p.res.2 (p.new w rfl) e)
    | ali j =>
      obtain ⟨⟨x, e2⟩, g1, g2⟩ := Option.bind_eq_some_iff.mp (show ((fz env (.ali j)).bind fun (x, e) => setV L i (.d x) e) = some _ from e)
      obtain ⟨S2, p2, r2, _⟩ := fz_ok p g1
      exact q _ _ (set_ok (w := .d x) (Sst.of p2) r2 (fun _ z => z.elim) (fun _ z => z.elim) g2)
  | tup ts =>
    have e : ((fz env r).bind fun (x, e) => bindT L (.tup ts) x e) = some env' := by cases r <;> exact e
    obtain ⟨⟨x, e2⟩, g1, g2⟩ := Option.bind_eq_some_iff.mp e
    obtain ⟨S2, p2, r2, _⟩ := fz_ok p g1
    exact ⟨L, S2, e2, x, env', p2.rep, r2, g2, fun σ' tp => q S2 σ' ((Sst.of p2).trans (Sst.tg tp))⟩

/-! ### the text of statements -/
def isNameE : Expr → Bool
  | .Name .. => true
  | _ => false
theorem pg_asg (hX : XOk Γ T N sc scT k X) {tg : Tg} {t : Expr} (h : okT N scT tg t = true) : PG X t (gAsg X.K tg) := by
  cases tg with
  | nm i =>
    simp only [okT] at h
    split at h
    · rename_i x p
      simp only [Bool.and_eq_true, decide_eq_true_eq] at h
      obtain ⟨l1, l2⟩ := hX.loc x h.2
      exact pg_name (by rw [hX.hN]; exact hX.nd) (by rw [hX.hN]; exact h.1) l1 l2
    · cases h
  | tup ts => exact pgx_ok hX (.tup ts) t h
theorem okT_each (hX : XOk Γ T N sc scT k X) {tg : Tg} {t : Expr} (h : okT N scT tg t = true) (env : PySem.Env) : (assignEach [t] env).map (·.2) = [assign t env] := by
  cases tg with
  | nm i =>
    simp only [okT] at h
    split at h
    · rfl
    · cases h
  | tup ts =>
    simp only [okT] at h
    split at h
    · rfl
    · cases h
theorem okE_kind {m : ME} {e : Expr} (h : okE T N m sc e = true) : simpleE e = true ∨ ∃ elt tg it cond own, m = .lc elt tg it cond own := by
  cases m <;> (first | (right; exact ⟨_, _, _, _, _, rfl⟩) | (left; simp only [okE] at h; split at h <;> first | rfl | cases h))
/-- a plain assignment -/
theorem ps_asgE (hX : XOk Γ T N sc scT k X) {tg : Tg} {t e : Expr} {m : ME} {pos : Pos} (ht : okT N scT tg t = true) (hm : okE T N m sc e = true) (hnt : isTupE t = true → isTupE e = false) :
    PS X (.Assign [t] e pos) (tAsg (tE X.K Γ m) (gAsg X.K tg)) := by
  have hE := (sndE Γ T N m).e hX hm
  have hG := pg_asg hX ht
  have hw : swappedStores [t] e X.env = pure none := by
    cases tg with
    | nm i =>
      simp only [okT] at ht
      split at ht
      · rfl
      · cases ht
    | tup ts =>
      simp only [okT] at ht
      split at ht
      · have := hnt rfl
        cases e <;> first | rfl | (simp [isTupE] at this)
      · cases ht
  rcases okE_kind hm with hs | ⟨elt, tg', it, cond, own, rfl⟩
  · exact ps_asg hE hG (noswap hs) hw (okT_each hX ht _)
  · -- a comprehension: the name may be stored by it
    simp only [okE] at hm
    split at hm
    · rename_i y t' i cs scope p
      simp only [Bool.and_eq_true] at hm
      obtain ⟨⟨⟨⟨⟨⟨b1, b2⟩, b3⟩, b4⟩, b5⟩, b6⟩, b7⟩ := hm
      cases tg with
      | tup ts =>
        refine ps_asg hE hG ?_ hw (okT_each hX ht _)
        simp only [okT] at ht
        split at ht
        · rfl
        · cases ht
      | nm j =>
        simp only [okT] at ht
        split at ht
        · rename_i x px
          simp only [Bool.and_eq_true, decide_eq_true_eq] at ht
          cases hsw : (X.env.blockKind == .function && X.env.kindOf x == some .local && px.line == (Expr.ListComp y [⟨t', i, cs, 0⟩] scope p).pos.line && !(scope.names.any fun (n, k) => n == x && (k == .local || k == .cell))) with
          | false =>
            refine ps_asg hE hG ?_ hw rfl
            show (pure _ : Sem Bool) = pure false
            rw [← hsw]
          | true =>
            have hl : X.env.scope.names.lookup x = some .local := by
              simp only [Bool.and_eq_true] at hsw
              exact eq_of_beq hsw.1.1.2
            rw [List.all_eq_true] at b2
            have bok : BlkOk X.N X.env.scope scope (ownP N own) := by rw [hX.hN, hX.hsc]; exact blkOk_by b1
            refine PS.imp (ps_setLc (i := j) (own := ownP N own) (te := tE X.K Γ elt) (g := tGx X.K tg') (tt := tCd X.K Γ cond) hX.calm (by rw [hX.hN]; exact hX.nd) (by rw [hX.hN]; exact ht.1) hl ?_ ((sndI Γ T N it).i hX b5) bok (fun s H C cl fp => pgx_ok (hX.blk s H C cl fp) tg' t' b3) (fun s H C cl fp => pts_ok (sndE Γ T N cond) (hX.blk s H C cl fp) b7) (fun s H C cl fp => (sndE Γ T N elt).e (hX.blk s H C cl fp) b6) (nofold b4)) fun D σ H q => ?_
            · show (pure _ : Sem Bool) = pure true
              rw [← hsw]
            · rw [ownP_snd]
              exact lc_read (fun j hj => of_decide_eq_true (b2 j hj)) q
        · cases ht
    · cases hm
end
end Ev

namespace Ev
open PySem L2
section
variable {Γ : Ctx} {T : Tab} {N : List Str} {sc scT : Scope} {k : Nat} {X : Cx} {K : PySem.W.Frag} {S S' S1 S2 H H' H1 H2 S0 H0 : Hp} {σ σ' σ0 σ1 σ2 : St} {env env' env0 env1 env2 : Env} {L : List Nat}
/-! ### several names at once -/
def WRoot (H : Hp) : List V → List Val → Addr → Prop
  | v :: vs, w :: ws, b => Root H v w b ∨ WRoot H vs ws b
  | _, _, _ => False
inductive RepWs (K : PySem.W.Frag) (S H : Hp) (σ : St) (env : Env) (H0 : Hp) : List V → List Val → Prop
  | nil : RepWs K S H σ env H0 [] []
  | cons {v : V} {w : Val} {vs : List V} {ws : List Val} : RepV K S H v w → (∀ b, Root H v w b → ¬ Roots H σ env b ∧ H0 b = none ∧ ¬ WRoot H vs ws b) → RepWs K S H σ env H0 vs ws → RepWs K S H σ env H0 (v :: vs) (w :: ws)
theorem fzAs_roots : ∀ {rs : List Rv} {vs : List V} {ws : List Val} {env env2 : Env}, fzAs env rs = some (ws, env2) → ∀ b, WRoot H vs ws b → TRoot H vs rs b
  | [], vs, ws, env, env2, e, b, h => by
    cases e
    cases vs <;> exact h
  | r :: rs, vs, ws, env, env2, e, b, h => by
    simp only [fzAs] at e
    obtain ⟨⟨w, e1⟩, g1, e⟩ := Option.bind_eq_some_iff.mp e
    obtain ⟨⟨ws', e2⟩, g2, e⟩ := Option.map_eq_some_iff.mp e
    cases e
    cases vs with
    | nil => exact h.elim
    | cons v vs =>
      cases r with
      | v u =>
        cases g1
        exact h.elim .inl fun z => .inr (fzAs_roots g2 b z)
      | ali j =>
        simp only [fzA] at g1
        obtain ⟨⟨x, e3⟩, g3, g4⟩ := Option.map_eq_some_iff.mp g1
        cases g4
        exact h.elim (fun z => z.elim) fun z => fzAs_roots g2 b z
theorem root_ne {v : V} {w : Val} {b : Addr} (r : RepV K S H v w) (h : Root H v w b) (z : H b = none) : False := by
  obtain ⟨_, o, e⟩ := root_free r h
  rw [z] at e; cases e
theorem RepRs.step_ {vs : List V} {rs : List Rv} (h : RepRs K S H σ env H0 vs rs) (p : Pst K S H σ env S1 H env1) : RepRs K S1 H σ env1 H0 vs rs := by
  induction h with
  | nil => exact .nil
  | cons a1 a2 _ ih => exact .cons (a1.step p) a2 ih
theorem fzAs_ok : ∀ {rs : List Rv} {vs : List V} {ws : List Val} {S : Hp} {env env2 : Env}, RepEnv K S H σ env → RepRs K S H σ env H0 vs rs → fzAs env rs = some (ws, env2) →
    ∃ S2, Pst K S H σ env S2 H env2 ∧ RepWs K S2 H σ env2 H0 vs ws
  | [], vs, ws, S, env, env2, rep, rr, e => by
    cases e
    cases rr
    exact ⟨S, Pst.refl rep, .nil⟩
  | r :: rs, vs, ws, S, env, env2, rep, rr, e => by
    simp only [fzAs] at e
    obtain ⟨⟨w, e1⟩, g1, e⟩ := Option.bind_eq_some_iff.mp e
    obtain ⟨⟨ws', e2⟩, g2, e⟩ := Option.map_eq_some_iff.mp e
    cases e
    cases rr with
    | @cons v _ vs _ h1 h2 h3 =>
      cases r with
      | v u =>
        cases g1
        obtain ⟨S2, p2, k2⟩ := fzAs_ok rep h3 g2
        obtain ⟨q1, q2⟩ := repV_keep h1.1 p2.step h1.2
        refine ⟨S2, p2, .cons q1 (fun b hb => ⟨fun hr => (p2.sub b hr).elim (h1.2 b hb) (root_ne h1.1 hb), (h2 _ rfl b hb).1, fun z => (h2 _ rfl b hb).2 (fzAs_roots g2 b z)⟩) k2⟩
      | ali j =>
        simp only [fzA] at g1
        obtain ⟨⟨x, e3⟩, g3, g4⟩ := Option.map_eq_some_iff.mp g1
        cases g4
        obtain ⟨S1, p1, r1, _⟩ := fz_ok (psv_refl rep h1 fun _ z => nomatch z) g3
        have h3' := h3.step_ p1
        obtain ⟨S2, p2, k2⟩ := fzAs_ok p1.rep h3' g2
        exact ⟨S2, p1.trans p2, .cons (dpMono p2.step.st r1) (fun _ z => z.elim) k2⟩
def setAll : St → List Nat → List V → St
  | σ, i :: is, v :: vs => setAll (σ.set i (some v)) is vs
  | σ, _, _ => σ
theorem sets_ok : ∀ {is : List Nat} {vs : List V} {ws : List Val} {σ : St} {env : Env}, Sst K S0 H0 σ0 env0 L S H σ env → RepWs K S H σ env H0 vs ws → setVs L is ws env = some env' → Sst K S0 H0 σ0 env0 L S H (setAll σ is vs) env'
  | [], vs, ws, σ, env, a, r, e => by
    cases ws with
    | nil => cases e; cases r; exact a
    | cons _ _ => cases e
  | i :: is, vs, ws, σ, env, a, r, e => by
    cases r with
    | nil => cases e
    | @cons v w vs ws h1 h2 h3 =>
      obtain ⟨e1, g1, g2⟩ := Option.bind_eq_some_iff.mp (show ((setV L i w env).bind fun e => setVs L is ws e) = some _ from e)
      have a1 := set_ok a h1 (fun b hb => (h2 b hb).1) (fun b hb => (h2 b hb).2.1) g1
      have hsub : ∀ b, Roots H (σ.set i (some v)) e1 b → Roots H σ env b ∨ Root H v w b := by
        unfold setV at g1
        split at g1
        · cases g1
        · rename_i hc
          cases g1
          rw [not_or] at hc
          exact (a.rep.put (Nat.lt_of_not_le hc.2) h1 fun b hb => (h2 b hb).1).2
      have hw : ∀ b, WRoot H vs ws b → ¬ Root H v w b := fun b z1 z2 => (h2 b z2).2.2 z1
      refine sets_ok (vs := vs) a1 ?_ g2
      clear a1 g2 h2 e a g1 h1
      induction h3 with
      | nil => exact .nil
      | cons b1 b2 _ ih =>
        refine .cons b1 (fun b hb => ⟨fun hr => ?_, (b2 b hb).2⟩) (ih fun b hb => hw b (.inr hb))
        rcases hsub b hr with z | z
        · exact (b2 b hb).1 z
        · exact hw b (.inl hb) z
def okNs (N : List Str) (scT : Scope) : List Nat → List Expr → Bool
  | [], [] => true
  | i :: is, e :: es => (match e with
    | .Name x _ => decide (N[i]? = some x) && locB scT x
    | _ => false) && okNs N scT is es
  | _, _ => false
theorem pgs_names (hX : XOk Γ T N sc scT k X) : ∀ {is : List Nat} {ts : List Expr}, okNs N scT is ts = true → PGs X ts (fun vs σ H Q => vs.length = is.length ∧ Q (setAll σ is vs) H) ∧ (assignEach ts X.env).length = is.length ∧ (assignEach ts X.env).findIdx? (·.1) = none
  | [], [], _ => by
    refine ⟨⟨fun pins s σ H vs us Q I r q => ?_⟩, rfl, rfl⟩
    obtain ⟨q1, q2⟩ := q
    cases vs with
    | cons _ _ => simp at q1
    | nil => exact pgs_nil.run pins s σ H [] us Q I r ⟨rfl, q2⟩
  | i :: is, e :: es, h => by
    simp only [okNs, Bool.and_eq_true] at h
    obtain ⟨h1, h2⟩ := h
    obtain ⟨k1, k2, k3⟩ := pgs_names hX h2
    split at h1
    · rename_i x p
      simp only [Bool.and_eq_true, decide_eq_true_eq] at h1
      obtain ⟨l1, l2⟩ := hX.loc x h1.2
      have hg : PG X (.Name x p) (gName i) := pg_name (by rw [hX.hN]; exact hX.nd) (by rw [hX.hN]; exact h1.1) l1 l2
      have hs : assignEach (Expr.Name x p :: es) X.env = (false, assign (Expr.Name x p) X.env) :: assignEach es X.env := rfl
      refine ⟨⟨fun pins s σ H vs us Q I r q => ?_⟩, by rw [hs]; simp [k2], by rw [hs, List.findIdx?_cons]; simp [k3]⟩
      obtain ⟨q1, q2⟩ := q
      cases vs with
      | nil => simp at q1
      | cons v vs => exact (pgs_cons hg k1 (by rw [hs]; rfl)).run pins s σ H _ us Q I r ⟨v, vs, rfl, by simpa using q1, q2⟩
    · cases h1
  | [], _ :: _, h => by simp [okNs] at h
  | _ :: _, [], h => by simp [okNs] at h
/-- which road the compiler goes: some true: the names are stored from the right -/
def namesOf (sc : Scope) (line : Nat) (ts : List Expr) : List Str := ts.filterMap fun
  | .Name id pos => if sc.names.lookup id == some .local && pos.line == line then some id else none
  | _ => none
def swB (sc : Scope) (ts vs : List Expr) : Option Bool :=
  if !(ts.length == 2 || ts.length == 3) || vs.length != ts.length then some false else
  let names := namesOf sc ((ts.head?.map (·.pos.line)).getD 0) ts
  if names.length != ts.length || names.eraseDups.length != names.length then some false else
  if vs.all (foldedForSure 8) then some false else
  if vs.all (constantsAlone 8) then none else some true
theorem nostar : ∀ {vs : List Expr}, (∀ e ∈ vs, fineE e = true) → (vs.any fun | .Starred .. => true | _ => false) = false
  | [], _ => rfl
  | e :: vs, h => by
    rw [List.any_cons, nostar fun e he => h e (by simp [he])]
    have := h e (by simp)
    cases e <;> first | rfl | (simp [fineE, simpleE, isLC] at this)
theorem sw_eq {env : PySem.Env} {ts vs : List Expr} {k1 k2 : Nat} {p1 p2 : Pos} (hk : env.scope.kind = .function) (hf : ∀ e ∈ vs, fineE e = true) {b : Bool} (h : swB env.scope ts vs = some b) :
    swappedStores [.Tuple ts k1 p1] (.Tuple vs k2 p2) env = pure (if b then some (namesOf env.scope ((ts.head?.map (·.pos.line)).getD 0) ts) else none) := by
  have hbk : env.blockKind = .function := by unfold Env.blockKind; rw [hk]; rfl
  have hns := nostar hf
  have hn : (ts.filterMap fun
    | .Name id pos => if env.kindOf id == some .local && pos.line == ((ts.head?.map (·.pos.line)).getD 0) then some id else none
    | _ => none) = namesOf env.scope ((ts.head?.map (·.pos.line)).getD 0) ts := rfl
  unfold swB at h
  unfold swappedStores
  simp only
  split at h
  · rename_i c
    cases h
    simp only [Bool.or_eq_true] at c
    rw [if_pos (by simp only [Bool.or_eq_true]; exact .inl c)]
    rfl
  · rename_i c
    rw [if_neg (by
      rw [hbk]
      simpa using c)]
    refine (if_neg (fun z => Bool.false_ne_true (hns.symm.trans z))).trans ?_
    simp only at h
    split at h
    · rename_i c2
      cases h
      exact if_pos c2
    · rename_i c2
      split at h
      · rename_i c3
        cases h
        exact (if_neg c2).trans (if_pos c3)
      · rename_i c3
        split at h
        · cases h
        · rename_i c4
          cases h
          exact (if_neg c2).trans ((if_neg c3).trans (if_neg c4))
theorem okL_fine : ∀ {ms : List ME} {xs : List Expr}, okL T N ms sc xs = true → ∀ x ∈ xs, fineE x = true
  | [], [], _ => by simp
  | [], _ :: _, a => by simp [okL] at a
  | _ :: _, [], _ => by simp
  | m :: ms, x :: xs, a => by
    simp only [okL, Bool.and_eq_true] at a
    intro y hy
    rcases List.mem_cons.mp hy with rfl | hy
    · exact a.1.1
    · exact okL_fine a.2 y hy
end
end Ev

namespace Ev
open PySem L2
section
variable {Γ : Ctx} {T : Tab} {N : List Str} {sc scT : Scope} {k : Nat} {X : Cx} {K : PySem.W.Frag} {S S' S1 S2 H H' H1 H2 S0 H0 : Hp} {σ σ' σ0 σ1 σ2 : St} {env env' env0 env1 env2 : Env} {L : List Nat}
theorem setAll_comm : ∀ {is : List Nat} {vs : List V} {σ : St} {i : Nat} {v : V}, i ∉ is → setAll (σ.set i (some v)) is vs = (setAll σ is vs).set i (some v)
  | [], _, _, _, _, _ => by simp [setAll]
  | j :: is, [], _, _, _, _ => by simp [setAll]
  | j :: is, u :: vs, σ, i, v, h => by
    simp only [List.mem_cons, not_or] at h
    rw [setAll, setAll, List.set_comm _ _ h.1, setAll_comm h.2]
theorem setAll_app : ∀ {is : List Nat} {vs : List V} {σ : St} {i : Nat} {v : V}, is.length = vs.length → setAll σ (is ++ [i]) (vs ++ [v]) = (setAll σ is vs).set i (some v)
  | [], [], σ, i, v, _ => by simp [setAll]
  | [], _ :: _, σ, i, v, h => by simp at h
  | _ :: _, [], σ, i, v, h => by simp at h
  | j :: is, u :: vs, σ, i, v, h => by
    simp only [List.cons_append, setAll]
    exact setAll_app (by simpa using h)
theorem setAll_rev : ∀ {is : List Nat} {vs : List V} {σ : St}, is.Nodup → is.length = vs.length → setAll σ is.reverse vs.reverse = setAll σ is vs
  | [], [], σ, _, _ => rfl
  | [], _ :: _, σ, _, h => by simp at h
  | _ :: _, [], σ, _, h => by simp at h
  | j :: is, u :: vs, σ, hn, h => by
    have hn' := List.nodup_cons.mp hn
    rw [List.reverse_cons, List.reverse_cons, setAll_app (by simpa using h), setAll_rev hn'.2 (by simpa using h), setAll, setAll_comm hn'.1]
theorem bind_all {E : Value → Shared → Prop} {pins : List (Addr × Obj)} {H : Hp} : ∀ {is : List Nat} {xs : List Str} {vs : List V} {us : List Value} {σ : St} {s : Shared}, Inv X pins σ H s → X.N.Nodup →
    (∀ j : Nat, ∀ i x, is[j]? = some i → xs[j]? = some x → X.N[i]? = some x ∧ X.env.scope.names.lookup x = some .local) → is.length = xs.length → is.length = vs.length → Vals vs us →
    ∀ {Q : Unit → Shared → Prop}, (∀ s', Inv X pins (setAll σ is vs) H s' → Q () s') → wpAny (model X.prog X.w) X.A (assignInOrder (xs.map fun n => bindName X.env n) us) Q E s
  | [], [], [], us, σ, s, I, _, _, _, _, r, Q, q => by
    cases r
    exact PyProof.Rows.assignInOrder_nil (q s I)
  | i :: is, x :: xs, v :: vs, us, σ, s, I, hN, hx, h1, h2, r, Q, q => by
    cases r with
    | cons r1 r2 =>
      obtain ⟨k1, k2⟩ := hx 0 i x rfl rfl
      exact PyProof.Rows.assignInOrder_cons (wpAny_bindName (store_ok I hN k1 (.inl k2) r1 (fun s2 I2 => bind_all I2 hN (fun j i' x' a b => hx (j + 1) i' x' a b) (by simpa using h1) (by simpa using h2) r2 q) (.inr k2)))
  | [], _ :: _, _, _, _, _, _, _, _, h, _, _, _, _ => by simp at h
  | _ :: _, [], _, _, _, _, _, _, _, h, _, _, _, _ => by simp at h
  | [], [], _ :: _, _, _, _, _, _, _, _, h, _, _, _ => by simp at h
  | _ :: _, _ :: _, [], _, _, _, _, _, _, _, h, _, _, _ => by simp at h
theorem names_all (hX : XOk Γ T N sc scT k X) {line : Nat} : ∀ {is : List Nat} {ts : List Expr}, okNs N scT is ts = true → (namesOf sc line ts).length = ts.length →
    ∀ j : Nat, ∀ i x, is[j]? = some i → (namesOf sc line ts)[j]? = some x → X.N[i]? = some x ∧ X.env.scope.names.lookup x = some .local
  | [], [], _, _, j, i, x, h, _ => by simp at h
  | i0 :: is, t :: ts, h, hl, j, i, x, h1, h2 => by
    simp only [okNs, Bool.and_eq_true] at h
    obtain ⟨g1, g2⟩ := h
    split at g1
    · rename_i y p
      simp only [Bool.and_eq_true, decide_eq_true_eq] at g1
      unfold namesOf at hl h2
      rw [List.filterMap_cons] at hl h2
      have lef : (namesOf sc line ts).length ≤ ts.length := List.length_filterMap_le _ _
      by_cases c : (sc.names.lookup y == some .local && p.line == line) = true
      · simp only [Expr.pos, c, if_true] at hl h2
        cases j with
        | zero =>
          simp at h1 h2
          subst h1 h2
          rw [hX.hN, hX.hsc]
          rw [Bool.and_eq_true] at c
          exact ⟨g1.1, eq_of_beq c.1⟩
        | succ j => exact names_all hX g2 (by simpa [namesOf] using hl) j i x (by simpa using h1) (by simpa [namesOf] using h2)
      · simp only [Expr.pos, c, if_false] at hl
        have : (namesOf sc line ts).length = ts.length + 1 := by simpa [namesOf] using hl
        omega
    · cases g1
  | [], _ :: _, h, _, _, _, _, _, _ => by simp [okNs] at h
  | _ :: _, [], h, _, _, _, _, _, _ => by simp [okNs] at h
theorem okNs_len : ∀ {is : List Nat} {ts : List Expr}, okNs N scT is ts = true → is.length = ts.length
  | [], [], _ => rfl
  | i :: is, t :: ts, h => by
    simp only [okNs, Bool.and_eq_true] at h
    simp [okNs_len h.2]
  | [], _ :: _, h => by simp [okNs] at h
  | _ :: _, [], h => by simp [okNs] at h
/-- a, b, .. = x, y, .. -/
def tParN (is : List Nat) (ta : TA) : TS := fun D σ H => tTup ta σ H fun x H2 => ∃ p vs, x = .ref p ∧ H2 p = some (.tup vs) ∧ vs.length = is.length ∧ D.nx (setAll σ is vs) H2
theorem par_len {ts vs : List Expr} (h : swB sc ts vs = some true) : (namesOf sc ((ts.head?.map (·.pos.line)).getD 0) ts).length = ts.length ∧ vs.length = ts.length := by
  unfold swB at h
  split at h
  · cases h
  · rename_i c
    simp only at h
    split at h
    · cases h
    · rename_i c2
      simp only [Bool.or_eq_true, bne_iff_ne, ne_eq, not_or, Decidable.not_not] at c2 c
      exact ⟨c2.1, c.2⟩
theorem ps_parE (hX : XOk Γ T N sc scT k X) {is : List Nat} {ts es : List Expr} {ta : TA} {pos pt pt2 : Pos} {kt k2 : Nat} {b : Bool} (h1 : okNs N scT is ts = true) (hnd : is.Nodup) (hA : PA X es ta) (hf : ∀ e ∈ es, fineE e = true) (hb : swB sc ts es = some b) :
    PS X (.Assign [.Tuple ts kt pt] (.Tuple es k2 pt2) pos) (tParN is ta) := by
  refine ⟨fun pins s σ H D I q => ?_⟩
  have hsw := sw_eq (k1 := kt) (k2 := k2) (p1 := pt) (p2 := pt2) I.ok.kind hf (by rw [hX.hsc]; exact hb)
  obtain ⟨g1, g2, g3⟩ := pgs_names hX h1
  cases b with
  | false =>
    refine wpAny_Assign_stores (thn ((pe_tup hA).run pins s σ H _ I q) fun u s1 ⟨x, H2, I2, r2, p, vs, e0, e1, e2, e3⟩ => ?_) (by rfl) hsw
    show wpAny _ _ (assignAll u [assign (.Tuple ts kt pt) X.env]) _ _ s1
    exact thn ((pg_tup (n := is.length) hX.calm g1 g2 g3).run pins s1 σ H2 x u _ I2 r2 ⟨p, vs, e0, SqT.of e1, e2, e2, e3⟩) fun _ s2 z => z
  | true =>
    rw [exec_Assign_arm]
    refine wpAny_bind (wpAny_standAt ?_)
    show wpAny _ _ ((pure false : Sem Bool) >>= _) _ _ s
    refine wpAny_bind (wpAny_pure ?_)
    rw [if_neg (by decide)]
    refine wpAny_bind (thn ((pe_tup hA).run pins s σ H _ I q) fun u s1 ⟨x, H2, I2, r2, p, vs, e0, e1, e2, e3⟩ => ?_)
    subst e0
    cases r2
    rw [hsw]
    refine wpAny_bind (wpAny_pure ?_)
    rw [if_pos rfl]
    obtain ⟨its, rv, ht, hz⟩ := I2.tuple (SqT.of e1)
    obtain ⟨l1, l2⟩ := par_len hb
    have hlen : (namesOf X.env.scope ((ts.head?.map (·.pos.line)).getD 0) ts).length = its.toArray.size := by
      rw [hX.hsc, l1, List.size_toArray, ← rv.length, e2, okNs_len h1]
    refine wpAny_bind (wpAny_rule ?_)
    rw [hlen]
    refine wpAny_bind (PyProof.Rows.unpackItems_tuple (I2.ok.hd hX.calm) ht fun h' hx' => ?_)
    have I3 := I2.kept (h' := h') (t' := s1.toks) fun b o e => hx' b o (Nat.ne_of_lt (Heap.lt_size e)) e
    have hname := names_all hX (line := ((ts.head?.map (·.pos.line)).getD 0)) h1 l1
    have hl3 : is.length = (namesOf sc ((ts.head?.map (·.pos.line)).getD 0) ts).length := by rw [l1, okNs_len h1]
    rw [hX.hsc]
    refine wpAny_bind (bind_all (is := is.reverse) (xs := (namesOf sc ((ts.head?.map (·.pos.line)).getD 0) ts).reverse) (vs := vs.reverse) I3 (by rw [hX.hN]; exact hX.nd) (fun j i x a b => ?_) (by simpa using hl3) (by simpa using e2.symm) rv.reverse fun s' I' => wpAny_pure ?_)
    · have hj : j < is.length := by
        have := (List.getElem?_eq_some_iff.mp a).1
        simpa using this
      rw [List.getElem?_reverse (by omega)] at a b
      rw [← hl3] at b
      exact hname _ i x a b
    · rw [setAll_rev hnd e2.symm] at I'
      exact ⟨_, H2, I', e3⟩
end
end Ev

namespace Ev
open PySem L2
mutual
def okS (T : Tab) (N : List Str) (sc : Scope) : MS → Stmt → Bool
  | .asg tg e, s => match s with
    | .Assign [t] x _ => okT N sc tg t && okE T N e sc x && (!isTupE t || !isTupE x)
    | _ => false
  | .par is es, s => match s with
    | .Assign [.Tuple ts _ _] (.Tuple xs _ _) _ => okNs N sc is ts && decide is.Nodup && okL T N es sc xs && (swB sc ts xs).isSome && decide (xs.length ≤ 1000)
    | _ => false
  | .seti i k v, s => match s with
    | .Assign [.Subscript (.Name x _) y _] z _ => decide (N[i]? = some x) && visB sc x && nmB x && fineE y && okE T N k sc y && okE T N v sc z
    | _ => false
  | .app i e, s => match s with
    | .Expr (.Call (.Attribute (.Name x _) m apos) [y] [] cpos) _ => decide (m = "append") && decide (N[i]? = some x) && visB sc x && nmB x && fineE y && okE T N e sc y && (apos.endLine == cpos.line)
    | _ => false
  | .ext i e, s => match s with
    | .Expr (.Call (.Attribute (.Name x _) m apos) [y] [] cpos) _ => decide (m = "extend") && decide (N[i]? = some x) && visB sc x && nmB x && fineE y && okE T N e sc y && (apos.endLine == cpos.line)
    | _ => false
  | .ifs c a b, s => match s with
    | .If x p q _ => okE T N c sc x && okSs T N sc a p && okSs T N sc b q
    | _ => false
  | .whl c b, s => match s with
    | .While x p [] _ => okE T N c sc x && okSs T N sc b p
    | _ => false
  | .for_ tg it b, s => match s with
    | .For t i p [] _ => okT N sc tg t && okI T N it sc t i && fineE i && okSs T N sc b p
    | _ => false
  | .ret e, s => match s with
    | .Return (some x) _ => okE T N e sc x
    | _ => false
  | .ex e, s => match s with
    | .Expr x _ => simpleE x && okE T N e sc x
    | _ => false
  | .retN, s => match s with
    | .Return none _ => true
    | _ => false
  | .brk, s => match s with
    | .Break _ => true
    | _ => false
  | .cnt, s => match s with
    | .Continue _ => true
    | _ => false
  | .pass, s => match s with
    | .Pass _ => true
    | .Expr (.Constant (.str _) _ _) _ => true
    | _ => false
def okSs (T : Tab) (N : List Str) (sc : Scope) : List MS → List Stmt → Bool
  | [], xs => match xs with
    | [] => true
    | _ => false
  | m :: ms, xs => match xs with
    | x :: xs => okS T N sc m x && okSs T N sc ms xs
    | _ => false
end
section
variable {Γ : Ctx} {T : Tab} {N : List Str} {sc scT : Scope} {k : Nat} {X : Cx} {K : PySem.W.Frag} {S S' S1 S2 H H' H1 H2 S0 H0 : Hp} {σ σ' σ0 σ1 σ2 : St} {env env' env0 env1 env2 : Env} {L : List Nat}
abbrev Po (X : Cx) : Prop := PassesOwn (model X.prog X.w) X.A X.env X.xe
structure SndS (Γ : Ctx) (T : Tab) (N : List Str) (m : MS) : Prop where
  s : ∀ {sc k X st} (L : List Nat), XOk Γ T N sc sc k X → Po X → okS T N sc m st = true → PS X st (tS X.K Γ L m)
structure SndSs (Γ : Ctx) (T : Tab) (N : List Str) (ms : List MS) : Prop where
  s : ∀ {sc k X sts} (L : List Nat), XOk Γ T N sc sc k X → Po X → okSs T N sc ms sts = true → PSs X sts (tSs X.K Γ L ms)
theorem Sst.grow (a : Sst K S0 H0 σ0 env0 L S H σ env) (g : Gr S H S' H') : Sst K S0 H0 σ0 env0 L S' H' σ env := by
  obtain ⟨k1, k2⟩ := a.rep.grow g.st g.same g.hh g.nw
  exact ⟨a.step.trans (g.step (R := fun _ => False)) fun _ z => z.elim, k1, fun b hb => a.sub b ((k2 b).mp hb), a.keep, a.slots⟩
theorem snds_asg {tg : Tg} {e : ME} : SndS Γ T N (.asg tg e) := by
  refine ⟨fun {sc k X st} L hX hp h => ?_⟩
  simp only [okS] at h
  split at h
  · rename_i t x p
    simp only [Bool.and_eq_true, Bool.or_eq_true, Bool.not_eq_true'] at h
    obtain ⟨⟨h1, h2⟩, h3⟩ := h
    refine PS.imp (ps_asgE (Γ := Γ) hX h1 h2 fun z => h3.elim (fun q => by rw [q] at z; cases z) id) fun D σ H q => ?_
    obtain ⟨S, env, r, rep, e1, q⟩ := q
    simp only [evS] at e1
    obtain ⟨⟨rv, e2⟩, g1, e1⟩ := Option.bind_eq_some_iff.mp e1
    obtain ⟨e3, g2, e1⟩ := Option.map_eq_some_iff.mp e1
    cases e1
    exact ⟨S, env, rv, e2, rep, g1, fun v S1 H1 p1 => asg_ok p1 g2 fun S' σ' a => q S' H1 σ' a⟩
  · cases h
theorem RepWs.len {vs : List V} {ws : List Val} (h : RepWs K S H σ env H0 vs ws) : vs.length = ws.length := by
  induction h with
  | nil => rfl
  | cons _ _ _ ih => simp [ih]
theorem setVs_len : ∀ {is : List Nat} {ws : List Val} {env env' : Env}, setVs L is ws env = some env' → is.length = ws.length
  | [], [], _, _, _ => rfl
  | i :: is, w :: ws, env, env', e => by
    obtain ⟨e1, g1, g2⟩ := Option.bind_eq_some_iff.mp (show ((setV L i w env).bind fun e => setVs L is ws e) = some _ from e)
    simp [setVs_len g2]
  | [], _ :: _, _, _, e => by cases e
  | _ :: _, [], _, _, e => by cases e
theorem evL_len : ∀ {es : List ME} {env e' : Env} {rs : List Rv}, evL Γ es env = some (rs, e') → rs.length = es.length := by
  intro es
  induction es with
  | nil => intro env e' rs e; cases e; rfl
  | cons m ms ih =>
    intro env e' rs e
    simp only [evL] at e
    obtain ⟨⟨r, e2⟩, _, e⟩ := Option.bind_eq_some_iff.mp e
    obtain ⟨⟨rs', e3⟩, g, e⟩ := Option.map_eq_some_iff.mp e
    cases e
    simp [ih g]
theorem snds_par {is : List Nat} {es : List ME} : SndS Γ T N (.par is es) := by
  refine ⟨fun {sc k X st} L hX hp h => ?_⟩
  simp only [okS] at h
  split at h
  · rename_i ts kt pt xs k2 pt2 pos
    simp only [Bool.and_eq_true, decide_eq_true_eq] at h
    obtain ⟨⟨⟨⟨h1, h2⟩, h3⟩, h4⟩, h5⟩ := h
    obtain ⟨b, hb⟩ := Option.isSome_iff_exists.mp h4
    refine PS.imp (ps_parE hX h1 h2 ((sndL Γ T N es).l hX h3) (okL_fine h3) hb) fun D σ H q => ?_
    obtain ⟨S, env, r, rep, e1, q⟩ := q
    simp only [evS] at e1
    obtain ⟨⟨rs, e2⟩, g1, e1⟩ := Option.bind_eq_some_iff.mp e1
    obtain ⟨⟨ws, e3⟩, g2, e1⟩ := Option.bind_eq_some_iff.mp e1
    obtain ⟨e4, g3, e1⟩ := Option.map_eq_some_iff.mp e1
    cases e1
    refine ⟨S, env, rs, e2, rep, g1, fun vs S1 H1 p1 => ⟨?_, fun p hpn => ?_⟩⟩
    · rw [p1.res.len, evL_len g1, okL_len h3]; exact small_line h5
    · obtain ⟨S2, p2, w2⟩ := fzAs_ok p1.rep p1.res g2
      have a := sets_ok (Sst.of (p1.toPst.trans p2)) w2 g3
      refine ⟨p, vs, rfl, upd_same, by rw [w2.len, setVs_len g3], q _ _ _ (a.grow (Gr.newH a.rep.same hpn))⟩
  · cases h
theorem sub_asg {o i : Expr} {pos : Pos} (hi : fineE i = true) : ∀ v, assign (.Subscript o i pos) X.env v = (do
      let ov ← holding [v] (eval o X.env)
      let iv ← holding [v, ov] (eval i X.env)
      standAt pos
      holding [v, ov, iv] (setItem ov iv v)
      release [v, ov, iv] []) := by
  intro v
  cases i <;> first | rfl | (simp [fineE, simpleE, isLC] at hi)
theorem snds_seti {i : Nat} {ke ve : ME} : SndS Γ T N (.seti i ke ve) := by
  refine ⟨fun {sc k X st} L hX hp h => ?_⟩
  simp only [okS] at h
  split at h
  · rename_i x px y p z pos
    simp only [Bool.and_eq_true, decide_eq_true_eq] at h
    obtain ⟨⟨⟨⟨⟨h1, h2⟩, h3⟩, h4⟩, h5⟩, h6⟩ := h
    obtain ⟨n1, n2, _⟩ := nmB_p h3
    have hsw : swapsWithSole [.Subscript (.Name x px) y p] z pos.line X.env = pure false := by
      show swapsWith z (some (.Subscript (.Name x px) y p)) pos.line X.env = pure false
      cases z <;> rfl
    have hw : swappedStores [.Subscript (.Name x px) y p] z X.env = pure none := rfl
    refine PS.imp (ps_asg ((sndE Γ T N ve).e hX h6) (pg_sub (pe_var (by rw [hX.hN]; exact h1) (hX.vis h2) n1 n2) ((sndE Γ T N ke).e hX h5) set_list (sub_asg h4)) hsw hw rfl) fun D σ H q => ?_
    obtain ⟨S, env, r, rep, e1, q⟩ := q
    simp only [evS] at e1
    obtain ⟨⟨rv, e2⟩, g1, e1⟩ := Option.bind_eq_some_iff.mp e1
    obtain ⟨⟨dx, e3⟩, g2, e1⟩ := Option.bind_eq_some_iff.mp e1
    obtain ⟨w0, g3, e1⟩ := Option.bind_eq_some_iff.mp e1
    obtain ⟨⟨rk, e4⟩, g4, e1⟩ := Option.bind_eq_some_iff.mp e1
    obtain ⟨n, g5, e1⟩ := Option.bind_eq_some_iff.mp e1
    simp only at e1
    split at e1
    · rename_i xs n hrd
      obtain ⟨j, g6, e1⟩ := Option.map_eq_some_iff.mp e1
      cases e1
      refine ⟨S, env, rv, e2, rep, g1, fun v S1 H1 p1 => ?_⟩
      obtain ⟨S2, p2, r2, _⟩ := fz_ok p1 g2
      obtain ⟨o, k1, _⟩ := p2.rep.get i _ g3
      refine ⟨o, slotV_get k1, S2, e3, rk, e4, p2.rep, g4, fun iv S3 H3 p3 => ?_⟩
      have hk := (repC_of p3.rep p3.res g5).int
      subst hk
      obtain ⟨o', k2, a, vs, e5, m2, m3, m4⟩ := p3.rep.get i _ hrd
      rw [k1] at k2; cases k2
      cases e5
      refine ⟨a, vs, n, j, rfl, rfl, m3, by rw [dps_len m4]; exact g6, ?_⟩
      have pm := p3.rep.mut (o := .lst (vs.set j v)) (w := .own (xs.set j dx)) hrd k1 (fun b => ⟨fun z => (V.ref.inj z).symm, fun z => by rw [z]; rfl⟩) ⟨a, _, rfl, m2, upd_same, dps_set j m4 (dpMono p3.step.st r2)⟩ fun b z => (V.ref.inj z).symm
      exact q _ _ _ (Sst.of ((p2.trans p3.toPst).trans pm))
    · cases e1
  · cases h
theorem few_ok {e : Expr} {cpos : Pos} (h : fineE e = true) : ((backTo cpos (starEach [e] X.env)).all (fun x => !x.1) && (backToKw cpos (keywordEach [] X.env)).all (fun x => x.1.isSome)
      && decide ([e].length + ([] : List Keyword).length + (if ([] : List Keyword).isEmpty then 0 else 1) < 30)) = true := by
  rw [star1 h]; rfl
theorem isOwn_p {w : Option Val} (h : isOwn w = true) : ∃ xs, w = some (.own xs) := by
  unfold isOwn at h
  split at h
  · exact ⟨_, rfl⟩
  · cases h
theorem snds_app {i : Nat} {ee : ME} : SndS Γ T N (.app i ee) := by
  refine ⟨fun {sc k X st} L hX hp h => ?_⟩
  simp only [okS] at h
  split at h
  · rename_i x px m apos y cpos pos
    simp only [Bool.and_eq_true, decide_eq_true_eq] at h
    obtain ⟨⟨⟨⟨⟨⟨h0, h1⟩, h2⟩, h3⟩, h4⟩, h5⟩, h6⟩ := h
    subst h0
    obtain ⟨n1, n2, _⟩ := nmB_p h3
    refine PS.imp (ps_expr (pe_bm PySem.F.plainAttrs_list PySem.F.slot_list_append PySem.F.type_list_append mt_append (pe_var (by rw [hX.hN]; exact h1) (hX.vis h2) n1 n2) (pa_cons ((sndE Γ T N ee).e hX h5) pa_nil (star_fine h4)) (by rfl) (few_ok h4) h6 (star_fine h4) (by rfl)) (by rfl)) fun D σ H q => ?_
    obtain ⟨S, env, r, rep, e1, q⟩ := q
    simp only [evS] at e1
    obtain ⟨e0, e1⟩ := (Option.ite_none_right_eq_some ..).mp e1
    obtain ⟨⟨rv, e2⟩, g1, e1⟩ := Option.bind_eq_some_iff.mp e1
    obtain ⟨⟨dx, e3⟩, g2, e1⟩ := Option.bind_eq_some_iff.mp e1
    simp only at e1
    split at e1
    · rename_i xs hrd
      obtain ⟨hlt, e1⟩ := (Option.ite_none_right_eq_some ..).mp e1
      cases e1
      obtain ⟨ys, hys⟩ := isOwn_p e0
      obtain ⟨o, k1, a, vs0, e5, l2, l3, l4⟩ := rep.get i _ hys
      subst e5
      refine ⟨.ref a, slotV_get k1, Or.inl ⟨rfl, vs0, SqL.of l3⟩, S, env, rv, e2, rep, g1, fun v S1 H1 p1 => ?_⟩
      obtain ⟨S2, p2, r2, _⟩ := fz_ok p1 g2
      obtain ⟨o', k2, a', vs, e5, m2, m3, m4⟩ := p2.rep.get i _ hrd
      rw [k1] at k2; cases k2
      cases e5
      refine ⟨a, vs, v, rfl, rfl, m3, by rw [dps_len m4]; exact hlt, ?_⟩
      have pm := p2.rep.mut (o := .lst (vs ++ [v])) (w := .own (xs ++ [dx])) hrd k1 (fun b => ⟨fun z => (V.ref.inj z).symm, fun z => by rw [z]; rfl⟩) ⟨a, _, rfl, m2, upd_same, dps_app m4 (.cons r2 .nil)⟩ fun b z => (V.ref.inj z).symm
      exact q _ _ _ (Sst.of (p2.trans pm))
    · cases e1
  · cases h
theorem snds_ext {i : Nat} {ee : ME} : SndS Γ T N (.ext i ee) := by
  refine ⟨fun {sc k X st} L hX hp h => ?_⟩
  simp only [okS] at h
  split at h
  · rename_i x px m apos y cpos pos
    simp only [Bool.and_eq_true, decide_eq_true_eq] at h
    obtain ⟨⟨⟨⟨⟨⟨h0, h1⟩, h2⟩, h3⟩, h4⟩, h5⟩, h6⟩ := h
    subst h0
    obtain ⟨n1, n2, _⟩ := nmB_p h3
    refine PS.imp (ps_expr (pe_bm PySem.F.plainAttrs_list PySem.F.slot_list_extend PySem.F.type_list_extend mt_extend (pe_var (by rw [hX.hN]; exact h1) (hX.vis h2) n1 n2) (pa_cons ((sndE Γ T N ee).e hX h5) pa_nil (star_fine h4)) (by rfl) (few_ok h4) h6 (star_fine h4) (by rfl)) (by rfl)) fun D σ H q => ?_
    obtain ⟨S, env, r, rep, e1, q⟩ := q
    simp only [evS] at e1
    obtain ⟨e0, e1⟩ := (Option.ite_none_right_eq_some ..).mp e1
    obtain ⟨⟨rv, e2⟩, g1, e1⟩ := Option.bind_eq_some_iff.mp e1
    obtain ⟨dy, g2, e1⟩ := Option.bind_eq_some_iff.mp e1
    simp only at e1
    split at e1
    · rename_i xs zs hrd
      obtain ⟨hlt, e1⟩ := (Option.ite_none_right_eq_some ..).mp e1
      cases e1
      obtain ⟨ys, hys⟩ := isOwn_p e0
      obtain ⟨o, k1, a, vs0, e5, l2, l3, l4⟩ := rep.get i _ hys
      subst e5
      refine ⟨.ref a, slotV_get k1, Or.inl ⟨rfl, vs0, SqL.of l3⟩, S, env, rv, e2, rep, g1, fun v S1 H1 p1 => ?_⟩
      obtain ⟨b, ws, rfl, q2, q3⟩ := (repC_of p1.rep p1.res g2).list p1.rep.same
      obtain ⟨o', k2, a', vs, e5, m2, m3, m4⟩ := p1.rep.get i _ hrd
      rw [k1] at k2; cases k2
      cases e5
      refine ⟨a, b, vs, ws, rfl, rfl, m3, q2, by rw [dps_len m4, dps_len q3]; exact hlt, ?_⟩
      have pm := p1.rep.mut (o := .lst (vs ++ ws)) (w := .own (xs ++ zs)) hrd k1 (fun b => ⟨fun z => (V.ref.inj z).symm, fun z => by rw [z]; rfl⟩) ⟨a, _, rfl, m2, upd_same, dps_app m4 q3⟩ fun b z => (V.ref.inj z).symm
      exact q _ _ _ (Sst.of (p1.toPst.trans pm))
    · cases e1
  · cases h
theorem snds_ex {e : ME} : SndS Γ T N (.ex e) := by
  refine ⟨fun {sc k X st} L hX hp h => ?_⟩
  simp only [okS] at h
  split at h
  · simp only [Bool.and_eq_true] at h
    refine PS.imp (ps_expr ((sndE Γ T N e).e hX h.2) (noswap h.1)) fun D σ H q => ?_
    obtain ⟨S, env, r, rep, e1, q⟩ := q
    simp only [evS] at e1
    obtain ⟨⟨rv, e2⟩, g1, e1⟩ := Option.map_eq_some_iff.mp e1
    cases e1
    exact ⟨S, env, rv, _, rep, g1, fun v S1 H1 p1 => q S1 H1 σ (Sst.of p1.toPst)⟩
  · cases h
theorem snds_ret {e : ME} : SndS Γ T N (.ret e) := by
  refine ⟨fun {sc k X st} L hX hp h => ?_⟩
  simp only [okS] at h
  split at h
  · refine PS.imp (ps_ret ((sndE Γ T N e).e hX h)) fun D σ H q => ?_
    obtain ⟨S, env, r, rep, e1, q⟩ := q
    simp only [evS] at e1
    obtain ⟨⟨rv, e2⟩, g1, e1⟩ := Option.map_eq_some_iff.mp e1
    cases e1
    exact ⟨S, env, rv, _, rep, g1, fun v S1 H1 p1 => q v S1 H1 σ (Sst.of p1.toPst) p1.res p1.new⟩
  · cases h
theorem snds_retN : SndS Γ T N .retN := by
  refine ⟨fun {sc k X st} L hX hp h => ?_⟩
  simp only [okS] at h
  split at h
  · refine PS.imp ps_retN fun D σ H q => ?_
    obtain ⟨S, env, r, rep, e1, q⟩ := q
    cases e1
    exact q _ S H σ (Sst.refl rep) ⟨.non, fun _ z => z.elim⟩ fun w e b z => by cases e; exact z.elim
  · cases h
theorem snds_brk : SndS Γ T N .brk := by
  refine ⟨fun {sc k X st} L hX hp h => ?_⟩
  simp only [okS] at h
  split at h
  · refine PS.imp ps_break fun D σ H q => ?_
    obtain ⟨S, env, r, rep, e1, q⟩ := q
    cases e1
    exact q S H σ (Sst.refl rep)
  · cases h
theorem snds_cnt : SndS Γ T N .cnt := by
  refine ⟨fun {sc k X st} L hX hp h => ?_⟩
  simp only [okS] at h
  split at h
  · refine PS.imp ps_continue fun D σ H q => ?_
    obtain ⟨S, env, r, rep, e1, q⟩ := q
    cases e1
    exact q S H σ (Sst.refl rep)
  · cases h
theorem snds_pass : SndS Γ T N .pass := by
  refine ⟨fun {sc k X st} L hX hp h => ?_⟩
  simp only [okS] at h
  split at h
  · refine PS.imp ps_pass fun D σ H q => ?_
    obtain ⟨S, env, r, rep, e1, q⟩ := q
    cases e1
    exact q S H σ (Sst.refl rep)
  · refine PS.imp ps_doc fun D σ H q => ?_
    obtain ⟨S, env, r, rep, e1, q⟩ := q
    cases e1
    exact q S H σ (Sst.refl rep)
  · cases h
theorem snds_ifs {c : ME} {a b : List MS} (ha : SndSs Γ T N a) (hb : SndSs Γ T N b) : SndS Γ T N (.ifs c a b) := by
  refine ⟨fun {sc k X st} L hX hp h => ?_⟩
  simp only [okS] at h
  split at h
  · simp only [Bool.and_eq_true] at h
    obtain ⟨⟨h1, h2⟩, h3⟩ := h
    refine PS.imp (ps_if ((sndE Γ T N c).t hX h1) (ha.s L hX hp h2) (hb.s L hX hp h3)) fun D σ H q => ?_
    obtain ⟨S, env, r, rep, e1, q⟩ := q
    simp only [evS] at e1
    obtain ⟨⟨d, e2⟩, g1, e1⟩ := Option.bind_eq_some_iff.mp e1
    refine ⟨S, env, d, e2, rep, g1, fun S1 H1 p1 => ?_⟩
    cases d with
    | true =>
      simp only [if_true] at e1 ⊢
      exact ⟨S1, e2, r, p1.rep, e1, q.after (Sst.of p1)⟩
    | false =>
      simp only [Bool.false_eq_true, if_false] at e1 ⊢
      exact ⟨S1, e2, r, p1.rep, e1, q.after (Sst.of p1)⟩
  · cases h
theorem whD_some {c : Env → Option (Bool × Env)} {b : Env → Option Res} {env : Env} {r : Res} (h : whD c b env = some r) : ∃ n, whN c b n env = some r := by
  unfold whD at h
  split at h
  · exact ⟨_, h⟩
  · cases h
theorem snds_whl {c : ME} {b : List MS} (hb : SndSs Γ T N b) : SndS Γ T N (.whl c b) := by
  refine ⟨fun {sc k X st} L hX hp h => ?_⟩
  simp only [okS] at h
  split at h
  · simp only [Bool.and_eq_true] at h
    refine PS.imp (ps_while hp ((sndE Γ T N c).t hX h.1) (hb.s L hX hp h.2)) fun D σ H q => ?_
    obtain ⟨S, env, r, rep, e1, q⟩ := q
    simp only [evS] at e1
    obtain ⟨n, hn⟩ := whD_some e1
    refine ⟨fun m σ' H' => ∃ S' env', Sst X.K S H σ env L S' H' σ' env' ∧ whN (evC Γ c) (evSs Γ L b) m env' = some r, ⟨n, S, env, Sst.refl rep, hn⟩, ?_⟩
    rintro m σ1 H1 ⟨S1, e2, a, hm⟩
    cases m with
    | zero => cases hm
    | succ m =>
      rw [whN] at hm
      obtain ⟨⟨d, e3⟩, g1, hm⟩ := Option.bind_eq_some_iff.mp hm
      refine ⟨S1, e2, d, e3, a.rep, g1, fun S2 H2 p2 => ?_⟩
      have a2 := a.trans (Sst.of p2)
      cases d with
      | true =>
        simp only [if_true] at hm ⊢
        obtain ⟨rb, g2, hm⟩ := Option.bind_eq_some_iff.mp hm
        refine ⟨fun σ' H' => ∃ m', m' < m + 1 ∧ ∃ S' env', Sst X.K S H σ env L S' H' σ' env' ∧ whN (evC Γ c) (evSs Γ L b) m' env' = some r, fun _ _ z => z, S2, e3, rb, a2.rep, g2, ?_⟩
        cases rb with
        | nx e4 => exact fun S3 H3 σ3 a3 => ⟨m, Nat.lt_succ_self m, S3, e4, a2.trans a3, hm⟩
        | ct e4 => exact fun S3 H3 σ3 a3 => ⟨m, Nat.lt_succ_self m, S3, e4, a2.trans a3, hm⟩
        | bk e4 =>
          cases hm
          exact fun S3 H3 σ3 a3 => q S3 H3 σ3 (a2.trans a3)
        | rt rv e4 =>
          cases hm
          exact q.after a2
      | false =>
        simp only [Bool.false_eq_true, if_false] at hm ⊢
        cases hm
        exact q S2 H2 σ1 a2
  · cases h
def tSsX (K : PySem.W.Frag) (Γ : Ctx) (m : List MS) : TS := fun D σ H => ∃ L, tSs K Γ L m D σ H
theorem snds_for {tg : Tg} {it : MI} {b : List MS} (hb : SndSs Γ T N b) : SndS Γ T N (.for_ tg it b) := by
  refine ⟨fun {sc k X st} L hX hp h => ?_⟩
  simp only [okS] at h
  split at h
  · rename_i t i body pos
    simp only [Bool.and_eq_true] at h
    obtain ⟨⟨⟨h1, h2⟩, h3⟩, h4⟩ := h
    have hB : PSs X body (tSsX X.K Γ b) := ⟨fun pins s σ H D I ⟨L', q⟩ => (hb.s L' hX hp h4).run pins s σ H D I q⟩
    refine PS.imp (ps_for hp hX.calm ((sndI Γ T N it).i hX h2) (pgx_ok hX tg t h1) hB (nofold h3)) fun D σ H q => ?_
    obtain ⟨S0, env0, r, rep, e1, q⟩ := q
    simp only [evS] at e1
    obtain ⟨⟨s, e2⟩, g1, e1⟩ := Option.bind_eq_some_iff.mp e1
    refine ⟨S0, env0, s, e2, rep, g1, fun J S1 H1 p1 hg it => ?_⟩
    have subL : ∀ j ∈ L, j ∈ s.lk ++ L := fun j hj => List.mem_append_right _ hj
    refine ⟨fun i m σ' H' => ∃ S' env', m = s.items.length - i ∧ i ≤ s.items.length ∧ Sst X.K S1 H1 σ e2 (s.lk ++ L) S' H' σ' env' ∧ forD (evSs Γ (s.lk ++ L) b) (bindT (s.lk ++ L) tg) s.g (s.items.drop i) env' = some r, ⟨s.items.length, S1, e2, by simp, Nat.zero_le _, Sst.refl p1.rep, by simpa using e1⟩, ?_⟩
    rintro i m σ2 H2 ⟨S2, e3, rfl, hi, a, hf⟩
    have at_ : gOk s.g e3 → At X.K σ s S1 S2 H2 σ2 e3 := fun hg => ⟨a.rep, a.step.st, hg, fun j hj => a.keep j (List.mem_append_left _ hj)⟩
    by_cases hlt : i < s.items.length
    · have hdrop : s.items.drop i = s.items[i] :: s.items.drop (i + 1) := List.drop_eq_getElem_cons hlt
      rw [hdrop, forD] at hf
      obtain ⟨hgo, hf⟩ := (Option.ite_none_right_eq_some ..).mp hf
      obtain ⟨ea, b1, hf⟩ := Option.bind_eq_some_iff.mp hf
      obtain ⟨rb, b2, hf⟩ := Option.bind_eq_some_iff.mp hf
      have hat := at_ hgo
      refine .inr ⟨it.go hat hlt, fun σ' H' => ∃ m', m' < s.items.length - i ∧ ∃ S' env', m' = s.items.length - (i + 1) ∧ i + 1 ≤ s.items.length ∧ Sst X.K S1 H1 σ e2 (s.lk ++ L) S' H' σ' env' ∧ forD (evSs Γ (s.lk ++ L) b) (bindT (s.lk ++ L) tg) s.g (s.items.drop (i + 1)) env' = some r, fun _ _ z => z, fun x H' hy => ?_⟩
      obtain ⟨dx, S', y1, y2, y3⟩ := it.yld hat hlt hy
      have edx : dx = s.items[i] := by rw [List.getElem?_eq_getElem hlt] at y1; exact (Option.some.inj y1).symm
      subst edx
      have ag := a.grow y2
      refine ⟨s.lk ++ L, S', e3, _, ea, ag.rep, y3, b1, fun σ3 tp => ?_⟩
      have a3 := ag.trans (Sst.tg tp)
      have a3L : Sst X.K S0 H σ env0 L S' H' σ3 ea := (Sst.of p1).trans (a3.sub_L subL)
      refine ⟨s.lk ++ L, S', ea, rb, tp.rep, b2, ?_⟩
      cases rb with
      | nx e4 => exact fun S4 H4 σ4 a4 => ⟨s.items.length - (i + 1), by omega, S4, e4, rfl, hlt, a3.trans a4, hf⟩
      | ct e4 => exact fun S4 H4 σ4 a4 => ⟨s.items.length - (i + 1), by omega, S4, e4, rfl, hlt, a3.trans a4, hf⟩
      | bk e4 =>
        cases hf
        exact fun S4 H4 σ4 a4 => q S4 H4 σ4 (a3L.trans (a4.sub_L subL))
      | rt rv e4 =>
        cases hf
        exact fun v S4 H4 σ4 a4 rr nn => (q.after a3L) v S4 H4 σ4 (a4.sub_L subL) rr nn
    · have e : s.items.drop i = [] := List.drop_eq_nil_of_le (by omega)
      rw [e, forD] at hf
      obtain ⟨hgo, hf⟩ := (Option.ite_none_right_eq_some ..).mp hf
      cases hf
      exact .inl ⟨it.stop (at_ hgo) (by omega), q S2 H2 σ2 ((Sst.of p1).trans (a.sub_L subL))⟩
  · cases h
theorem sndss_nil : SndSs Γ T N [] := by
  refine ⟨fun {sc k X sts} L hX hp h => ?_⟩
  simp only [okSs] at h
  split at h
  · refine PSs.imp pss_nil fun D σ H q => ?_
    obtain ⟨S, env, r, rep, e1, q⟩ := q
    cases e1
    exact q S H σ (Sst.refl rep)
  · cases h
theorem sndss_cons {m : MS} {ms : List MS} (h1 : SndS Γ T N m) (h2 : SndSs Γ T N ms) : SndSs Γ T N (m :: ms) := by
  refine ⟨fun {sc k X sts} L hX hp h => ?_⟩
  simp only [okSs] at h
  split at h
  · simp only [Bool.and_eq_true] at h
    refine PSs.imp (pss_cons (h1.s L hX hp h.1) (h2.s L hX hp h.2)) fun D σ H q => ?_
    obtain ⟨S, env, r, rep, e1, q⟩ := q
    simp only [evSs] at e1
    obtain ⟨r1, g1, e1⟩ := Option.bind_eq_some_iff.mp e1
    refine ⟨S, env, r1, rep, g1, ?_⟩
    cases r1 with
    | nx e2 => exact fun S1 H1 σ1 a => ⟨S1, e2, r, a.rep, e1, q.after a⟩
    | bk e2 => cases e1; exact q
    | ct e2 => cases e1; exact q
    | rt rv e2 => cases e1; exact q
  · cases h
end
mutual
theorem sndS (Γ : Ctx) (T : Tab) (N : List Str) : ∀ m : MS, SndS Γ T N m
  | .asg tg e => snds_asg
  | .par is es => snds_par
  | .seti i k v => snds_seti
  | .app i e => snds_app
  | .ext i e => snds_ext
  | .ifs c a b => snds_ifs (sndSs Γ T N a) (sndSs Γ T N b)
  | .whl c b => snds_whl (sndSs Γ T N b)
  | .for_ tg it b => snds_for (sndSs Γ T N b)
  | .ret e => snds_ret
  | .ex e => snds_ex
  | .retN => snds_retN
  | .brk => snds_brk
  | .cnt => snds_cnt
  | .pass => snds_pass
theorem sndSs (Γ : Ctx) (T : Tab) (N : List Str) : ∀ ms : List MS, SndSs Γ T N ms
  | [] => sndss_nil
  | m :: ms => sndss_cons (sndS Γ T N m) (sndSs Γ T N ms)
end
end Ev

namespace Ev
open PySem L2
section
variable {K : PySem.W.Frag} {S S' S1 S2 H H' H1 H2 S0 H0 : Hp} {σ σ' σ0 σ1 σ2 : St} {env env' env0 env1 env2 : Env} {L : List Nat}
theorem rd_start {ws : List Val} {m j : Nat} : rd (ws.map some ++ List.replicate m none) j = ws[j]? := by
  unfold rd
  by_cases h : j < ws.length
  · rw [List.getElem?_append_left (by simpa using h), List.getElem?_map]
    cases ws[j]? <;> rfl
  · rw [List.getElem?_append_right (by simpa using h), List.getElem?_replicate, List.getElem?_eq_none (l := ws) (by omega)]
    split <;> rfl
theorem slotV_start {vs : List V} {m j : Nat} : slotV (vs.map some ++ List.replicate m none) j = vs[j]? := by
  unfold slotV
  by_cases h : j < vs.length
  · rw [List.getElem?_append_left (by simpa using h), List.getElem?_map]
    cases vs[j]? <;> rfl
  · rw [List.getElem?_append_right (by simpa using h), List.getElem?_replicate, List.getElem?_eq_none (l := vs) (by omega)]
    split <;> rfl
theorem rep_start {vs : List V} {ws : List Val} {m : Nat} (e : RepEnv K S H (vs.map some) (ws.map some)) : RepEnv K S H (vs.map some ++ List.replicate m none) (ws.map some ++ List.replicate m none) := by
  refine ⟨e.same, by have := e.len; simp at this ⊢; omega, fun i w h => ?_, fun i j w w' v v' b ne h1 h2 h3 h4 => ?_⟩
  · rw [rd_start] at h
    rw [slotV_start]
    have := e.get i w (by rw [rd_map]; exact h)
    rwa [slotV_map] at this
  · rw [rd_start] at h1 h3
    rw [slotV_start] at h2 h4
    exact e.dis i j w w' v v' b ne (by rw [rd_map]; exact h1) (by rw [slotV_map]; exact h2) (by rw [rd_map]; exact h3) (by rw [slotV_map]; exact h4)
theorem roots_start {vs : List V} {ws : List Val} {m : Nat} {b : Addr} : Roots H (vs.map some ++ List.replicate m none) (ws.map some ++ List.replicate m none) b ↔ Roots H (vs.map some) (ws.map some) b := by
  unfold Roots
  constructor
  · rintro ⟨i, w, v, h1, h2, h3⟩
    exact ⟨i, w, v, by rw [rd_map, ← rd_start (m := m)]; exact h1, by rw [slotV_map, ← slotV_start (m := m)]; exact h2, h3⟩
  · rintro ⟨i, w, v, h1, h2, h3⟩
    exact ⟨i, w, v, by rw [rd_start, ← rd_map]; exact h1, by rw [slotV_start, ← slotV_map]; exact h2, h3⟩
theorem outs_len {io : List Nat} : ∀ {ws us : List Val} {p : Nat}, outs io env p ws = some us → us.length = ws.length
  | [], us, p, e => by cases e; rfl
  | w :: ws, us, p, e => by
    simp only [outs] at e
    obtain ⟨u, _, e⟩ := Option.bind_eq_some_iff.mp e
    obtain ⟨us', g, e⟩ := Option.map_eq_some_iff.mp e
    cases e
    simp [outs_len g]
theorem outs_get {io : List Nat} : ∀ {ws us : List Val} {p j : Nat} {u : Val}, outs io env p ws = some us → us[j]? = some u →
    (p + j ∈ io ∧ rd env (p + j) = some u ∧ (∀ x, u ≠ .d x) ∧ ∀ x, u ≠ .scr x) ∨ (p + j ∉ io ∧ ws[j]? = some u ∧ ((∃ x, u = .d x) ∨ ∃ x, u = .scr x))
  | [], us, p, j, u, e, h => by cases e; simp at h
  | w :: ws, us, p, j, u, e, h => by
    simp only [outs] at e
    obtain ⟨u0, g0, e⟩ := Option.bind_eq_some_iff.mp e
    obtain ⟨us', g, e⟩ := Option.map_eq_some_iff.mp e
    cases e
    cases j with
    | zero =>
      simp at h
      subst h
      split at g0
      · rename_i hp
        obtain ⟨u1, q1, q2⟩ := Option.bind_eq_some_iff.mp g0
        refine .inl ⟨hp, ?_⟩
        split at q2
        · cases q2
        · cases q2
        · rename_i n1 n2
          cases q2
          exact ⟨q1, fun x z => n1 x z, fun x z => n2 x z⟩
      · rename_i hp
        refine .inr ⟨hp, ?_⟩
        split at g0
        · cases g0; exact ⟨rfl, .inl ⟨_, rfl⟩⟩
        · cases g0; exact ⟨rfl, .inr ⟨_, rfl⟩⟩
        · cases g0
    | succ j =>
      have := outs_get (j := j) g (by simpa using h)
      rw [show p + 1 + j = p + (j + 1) by omega] at this
      simpa using this
theorem noRoot {v : V} {u : Val} {b : Addr} (h : (∃ x, u = .d x) ∨ ∃ x, u = .scr x) : ¬ Root H v u b := by
  rcases h with ⟨x, rfl⟩ | ⟨x, rfl⟩ <;> exact id
theorem outs_ok {io : List Nat} {vs : List V} {ws us : List Val} {m : Nat} {R : Addr → Prop} (e0 : RepEnv K S H (vs.map some) (ws.map some)) (st : Step R S H S' H') (e : RepEnv K S' H' σ' env')
    (keep : ∀ j ∈ io, slotV σ' j = slotV (vs.map some ++ List.replicate m none) j) (o : outs io env' 0 ws = some us) :
    RepEnv K S' H' (vs.map some) (us.map some) ∧ (∀ b, Roots H' (vs.map some) (us.map some) b → Roots H' σ' env' b) := by
  have key : ∀ i u, us[i]? = some u → ((∃ x, u = .d x) ∨ ∃ x, u = .scr x) ∧ ws[i]? = some u ∨ (i ∈ io ∧ rd env' i = some u ∧ slotV σ' i = vs[i]?) := fun i u h => by
    rcases outs_get o h with ⟨q1, q2, _⟩ | ⟨q1, q2, q3⟩
    · rw [Nat.zero_add] at q1 q2
      exact .inr ⟨q1, q2, by rw [keep i q1, slotV_start]⟩
    · exact .inl ⟨q3, q2⟩
  refine ⟨⟨st.same, by have := e0.len; have := outs_len o; simp at *; omega, fun i w h => ?_, fun i j w w' v v' b ne h1 h2 h3 h4 r1 r2 => ?_⟩, fun b ⟨i, w, v, h1, h2, h3⟩ => ?_⟩
  · rw [rd_map] at h
    rw [slotV_map]
    rcases key i w h with ⟨q1, q2⟩ | ⟨q1, q2, q3⟩
    · obtain ⟨v, k1, k2⟩ := e0.get i w (by rw [rd_map]; exact q2)
      exact ⟨v, by rw [← slotV_map]; exact k1, repV_step k2 st.st fun c hc => absurd hc (noRoot q1)⟩
    · obtain ⟨v, k1, k2⟩ := e.get i w q2
      exact ⟨v, by rw [← q3]; exact k1, k2⟩
  · rw [rd_map] at h1 h3
    rw [slotV_map] at h2 h4
    rcases key i w h1 with ⟨q1, _⟩ | ⟨q1, q2, q3⟩
    · exact noRoot q1 r1
    · rcases key j w' h3 with ⟨z1, _⟩ | ⟨z1, z2, z3⟩
      · exact noRoot z1 r2
      · exact e.dis i j w w' v v' b ne q2 (by rw [q3]; exact h2) z2 (by rw [z3]; exact h4) r1 r2
  · rw [rd_map] at h1
    rw [slotV_map] at h2
    rcases key i w h1 with ⟨q1, _⟩ | ⟨q1, q2, q3⟩
    · exact absurd h3 (noRoot q1)
    · exact ⟨i, w, v, q2, by rw [q3]; exact h2, h3⟩
theorem io_root {io : List Nat} {vs : List V} {ws us : List Val} {m : Nat} {i : Nat} {w : Val} {v : V} {b : Addr} (e0 : RepEnv K S H (vs.map some) (ws.map some)) (e : RepEnv K S' H' σ' env')
    (keep : ∀ j ∈ io, slotV σ' j = slotV (vs.map some ++ List.replicate m none) j) (o : outs io env' 0 ws = some us) (hns : ws.any isSt = false) (hi : i ∉ io) (h1 : rd env' i = some w) (h2 : slotV σ' i = some v) (h3 : Root H' v w b) : ¬ Roots H (vs.map some) (ws.map some) b := by
  rintro ⟨j, w0, v0, g1, g2, g3⟩
  rw [rd_map] at g1
  rw [slotV_map] at g2
  have hj : j < us.length := by rw [outs_len o]; exact (List.getElem?_eq_some_iff.mp g1).1
  have hsj : isSt w0 = false := by
    rw [List.any_eq_false] at hns
    simpa using hns w0 (List.mem_of_getElem? g1)
  rcases outs_get o (List.getElem?_eq_getElem hj) with ⟨q1, q2, q4⟩ | ⟨q1, q2, q3⟩
  · rw [Nat.zero_add] at q1 q2
    have hv : slotV σ' j = some v0 := by rw [keep j q1, slotV_start]; exact g2
    have hb : v0 = .ref b := by
      cases w0 with
      | d _ => exact g3.elim
      | scr _ => exact g3.elim
      | own _ => exact g3
      | dk _ => exact g3
      | st _ _ => simp [isSt] at hsj
    have hr : Root H' v0 us[j] b := by
      obtain ⟨v', k1, k2⟩ := e.get j _ q2
      rw [hv] at k1; cases k1
      cases hu : us[j] with
      | d x => exact absurd hu (q4.1 x)
      | scr x => exact absurd hu (q4.2 x)
      | own _ => exact hb
      | dk _ => exact hb
      | st _ _ => exact .inl hb
    exact e.dis i j w _ v v0 b (fun z => hi (z ▸ q1)) h1 h2 q2 hv h3 hr
  · rw [q2] at g1; cases g1
    exact noRoot q3 g3
end
end Ev

namespace Ev
open PySem L2
section
variable {P : Program} {w : World} {K : PySem.W.Frag} {mg : Str → Option Value} {base : Heap} {TT : List Fd} {G : List D} {T : Tab} {N ps : List Str} {k : Nat}
/-- what the text's names stand for -/
structure Names (P : Program) (w : World) (K : PySem.W.Frag) (mg : Str → Option Value) (base : Heap) (TT : List Fd) (G : List D) (T : Tab) (k : Nat) : Prop where
  fn : ∀ (f : Nat) (x : Str), T.fns[f]? = some x → ∃ fa fd ps, mg x = some (.ref fa) ∧ PySem.W.keepIn K (.ref fa) = true ∧ Binds K fd ps [] ∧ FnOk P w K mg base CX0 k fa fd ps (spC K (callT TT G k f))
  gl : ∀ (j : Nat) (x : Str) (d : D), T.gls[j]? = some x → G[j]? = some d → ∃ u v, mg x = some u ∧ RelV v u ∧ ∀ S, Rp K S v d
  bl : ∀ x ∈ T.bl, mg x = none
theorem endF_ok {S H : Hp} {io : List Nat} {vs : List V} {ws ws' : List Val} {m : Nat} {r : Res} {v0 : Val} {Q : VK}
    (e0 : RepEnv K S H (vs.map some) (ws.map some)) (er : endF io ws r = some (v0, ws'))
    (q : ∀ v S' H', Step (Roots H (vs.map some) (ws.map some)) S H S' H' → RepEnv K S' H' (vs.map some) (ws'.map some) → (∀ b, Roots H' (vs.map some) (ws'.map some) b → Roots H (vs.map some) (ws.map some) b ∨ H b = none) →
      RepV K S' H' v v0 → (∀ b, Root H' v v0 b → H b = none ∧ ¬ Roots H' (vs.map some) (ws'.map some) b) → Q v H') : 
    SPost K S H (vs.map some ++ List.replicate m none) (ws.map some ++ List.replicate m none) io { nx := fun _ H' => Q .non H', rt := Q } r := by
  have conv : ∀ {S' H' : Hp} {σ' : St} {env' : Env} {us : List Val}, Sst K S H (vs.map some ++ List.replicate m none) (ws.map some ++ List.replicate m none) io S' H' σ' env' → outs io env' 0 ws = some us →
      Step (Roots H (vs.map some) (ws.map some)) S H S' H' ∧ RepEnv K S' H' (vs.map some) (us.map some) ∧ (∀ b, Roots H' (vs.map some) (us.map some) b → Roots H' σ' env' b) ∧ (∀ b, Roots H' σ' env' b → Roots H (vs.map some) (ws.map some) b ∨ H b = none) := fun {S' H' σ' env' us} a o => by
    have st : Step (Roots H (vs.map some) (ws.map some)) S H S' H' := a.step.mono fun b => roots_start.mp
    obtain ⟨k1, k2⟩ := outs_ok e0 st a.rep a.keep o
    exact ⟨st, k1, k2, fun b hb => (a.sub b hb).imp roots_start.mp id⟩
  cases r with
  | nx e =>
    obtain ⟨us, g1, g2⟩ := Option.map_eq_some_iff.mp (show (outs io e 0 ws).map (fun us => ((.d .none : Val), us)) = some _ from er)
    cases g2
    intro S' H' σ' a
    obtain ⟨st, k1, k2, k3⟩ := conv a g1
    exact q .non S' H' st k1 (fun b hb => k3 b (k2 b hb)) .non fun b z => z.elim
  | bk e => cases er
  | ct e => cases er
  | rt rv e =>
    cases rv with
    | v u =>
      obtain ⟨us, g1, g2⟩ := Option.map_eq_some_iff.mp (show (outs io e 0 ws).map (fun us => (u, us)) = some _ from er)
      cases g2
      intro v S' H' σ' a rr nn
      obtain ⟨st, k1, k2, k3⟩ := conv a g1
      exact q v S' H' st k1 (fun b hb => k3 b (k2 b hb)) rr.1 fun b hb => ⟨nn _ rfl b hb, fun z => rr.2 b hb (k2 b z)⟩
    | ali i =>
      have er : (if i ∈ io then none else if ws.any isSt then (fz e (.ali i)).bind fun (x, e) => (outs io e 0 ws).map fun us => ((.d x : Val), us)
        else (rd e i).bind fun w => (outs io e 0 ws).map fun us => (w, us)) = some (v0, ws') := er
      obtain ⟨hi, er⟩ := (Option.ite_none_left_eq_some ..).mp er
      intro v S' H' σ' a rr nn
      split at er
      · obtain ⟨⟨x, e2⟩, g1, er⟩ := Option.bind_eq_some_iff.mp er
        obtain ⟨us, g2, er⟩ := Option.map_eq_some_iff.mp er
        cases er
        obtain ⟨S2, p2, r2, _⟩ := fz_ok (psv_refl a.rep rr fun w z => nomatch z) g1
        obtain ⟨st, k1, k2, k3⟩ := conv (a.trans (Sst.of p2)) g2
        exact q v S2 H' st k1 (fun b hb => k3 b (k2 b hb)) r2 fun b z => z.elim
      · rename_i hst
        obtain ⟨u, g1, er⟩ := Option.bind_eq_some_iff.mp er
        obtain ⟨us, g2, er⟩ := Option.map_eq_some_iff.mp er
        cases er
        obtain ⟨st, k1, k2, k3⟩ := conv a g2
        have hv : slotV σ' i = some v := rr
        obtain ⟨v', q1, q2⟩ := a.rep.get i _ g1
        rw [hv] at q1; cases q1
        refine q v S' H' st k1 (fun b hb => k3 b (k2 b hb)) q2 fun b hb => ?_
        have nr := io_root e0 a.rep a.keep g2 (by simpa using hst) hi g1 hv hb
        refine ⟨(k3 b ⟨i, _, v, g1, hv, hb⟩).resolve_left nr, fun z => ?_⟩
        obtain ⟨j, w1, x1, z1, z2, z3⟩ := z
        rw [rd_map] at z1
        rw [slotV_map] at z2
        rcases outs_get g2 z1 with ⟨y1, y2, _⟩ | ⟨_, _, y⟩
        · rw [Nat.zero_add] at y1 y2
          exact a.rep.dis i j _ _ v x1 b (fun z => hi (z ▸ y1)) g1 hv y2 (by rw [a.keep j y1, slotV_start]; exact z2) hb z3
        · exact noRoot y z3
end
end Ev

namespace Ev
open PySem L2
section
variable {P : Program} {w : World} {K : PySem.W.Frag} {mg : Str → Option Value} {base : Heap} {TT : List Fd} {G : List D} {T : Tab} {N ps : List Str} {k : Nat}
theorem callT_len {io : List Nat} {np ns : Nat} {body : List MS} {i : Nat} {ws : List Val} {r : Val × List Val} (hT : TT[i]? = some (.py np ns io body)) (h : callT TT G (k + 1) i ws = some r) :
    ws.length = np ∧ np ≤ ns ∧ (evSs ⟨callT TT G k, ioT TT, G⟩ io body (ws.map some ++ List.replicate (ns - np) none)).bind (endF io ws) = some r := by
  have h : (match TT[i]? with
    | some (.py np ns io body) => if ws.length = np ∧ np ≤ ns then (evSs ⟨callT TT G k, ioT TT, G⟩ io body (ws.map some ++ List.replicate (ns - np) none)).bind (endF io ws) else none
    | some (.pr _ g) => g ws
    | none => none) = some r := h
  rw [hT] at h
  obtain ⟨h1, h2⟩ := (Option.ite_none_right_eq_some ..).mp h
  exact ⟨h1.1, h1.2, h2⟩
theorem loc_of {sc : Scope} {x : Str} (h : locB sc x = true) : Loc sc x := locB_p h
theorem xok_of {qual : Str} {st : Stmt} {f : Addr} {cdv : Value} {A : Around} {outer : List PySem.Env} {s : Shared} {H : Hp} {E : XK} (hgd : T.rp = true → A.guards = some []) (NM : Names P w K mg base TT G T k) (hn : N.Nodup)
    (hr : Room k (A.deeper (PyProof.Rows.envOfC qual (defScope st) s.heap.objs.size f cdv))) :
    XOk ⟨callT TT G k, ioT TT, G⟩ T N (defScope st) (defScope st) k (cxOf CX0 P w K mg base N qual (defScope st) f cdv A outer s H E).nox :=
  ⟨rfl, rfl, rfl, hn, hr, fun x hx => ⟨loc_of hx, .inl rfl⟩, NM.fn, NM.gl, NM.bl, hgd⟩
theorem fn_ev {x qual : Str} {st : Stmt} {f : Addr} {fd : FuncData} {io : List Nat} {body : List MS} {i : Nat} (F : Fun K x qual st f fd) (Sc : FnScope N ps (defScope st))
    (hT : TT[i]? = some (.py ps.length N.length io body)) (hrp : T.rp = false) (ok : okSs T N (defScope st) body (defBody st) = true) (NM : Names P w K mg base TT G T k) :
    FnOk P w K mg base CX0 (k + 1) f fd ps (spC K (callT TT G (k + 1) i)) := by
  refine F.ok Sc (fun vs H Q E h => ?_) (fun cdv A outer s H vs Q E hr h => ?_)
  · obtain ⟨S, ws, w0, ws', e0, e1, _⟩ := h
    have := e0.len
    simp only [List.length_map] at this
    rw [this]
    exact (callT_len hT e1).1
  · obtain ⟨S, ws, w0, ws', e0, e1, q⟩ := h
    obtain ⟨h1, h2, e1⟩ := callT_len hT e1
    obtain ⟨r, g1, g2⟩ := Option.bind_eq_some_iff.mp e1
    have hl := e0.len
    simp only [List.length_map] at hl
    have e : L2.start N vs = vs.map some ++ List.replicate (N.length - ps.length) none := by
      unfold L2.start
      rw [hl, h1]
    refine ⟨_, (sndSs ⟨callT TT G k, ioT TT, G⟩ T N body).s io (xok_of (fun z => by rw [hrp] at z; cases z) NM Sc.nd hr) PySem.PassesOwn.never ok, S, _, r, ?_, g1, ?_⟩
    · rw [e]
      exact rep_start e0
    · rw [e]
      exact endF_ok e0 g2 q
end
end Ev

namespace Ev
open PySem L2
section
variable {K : PySem.W.Frag} {S S' H H' : Hp}
/-- the state of the draws, and a number -/
theorem st_args {vs : List V} {i m : Int} {cs : List Int} (e0 : RepEnv K S H (vs.map some) ([.st i cs, .d (.int m)].map some)) :
    ∃ a c, vs = [.ref a, .int m] ∧ S a = none ∧ S c = none ∧ H a = some (.lst [.int i, .ref c]) ∧ H c = some (.lst (cs.map V.int)) ∧ a ≠ c := by
  have hl := e0.len
  simp only [List.length_map, List.length_cons, List.length_nil] at hl
  obtain ⟨v0, v1, rfl⟩ : ∃ v0 v1, vs = [v0, v1] := by
    match vs, hl with
    | [v0, v1], _ => exact ⟨v0, v1, rfl⟩
  obtain ⟨x0, g0, a, c, rfl, h1, h2, h3, h4⟩ := e0.get 0 (.st i cs) rfl
  obtain ⟨x1, g1, r1⟩ := e0.get 1 (.d (.int m)) rfl
  have g0 : some v0 = some (V.ref a) := g0
  have g1 : some v1 = some x1 := g1
  cases g0
  cases g1
  cases (show Rp K S v1 (.int m) from r1)
  refine ⟨a, c, rfl, h1, h2, h3, h4, fun z => ?_⟩
  subst z
  rw [h3] at h4
  injection h4 with h4
  injection h4 with h4
  match cs, h4 with
  | [_, _], h4 => simp at h4
theorem st_back {a c : Addr} {i i' m : Int} {cs cs' : List Int} (e0 : RepEnv K S H ([V.ref a, .int m].map some) ([.st i cs, .d (.int m)].map some)) (ha : S a = none) (hc : S c = none) (h1 : H a = some (.lst [.int i, .ref c])) (h2 : H c = some (.lst (cs.map V.int)))
    (k1 : H' a = some (.lst [.int i', .ref c])) (k2 : H' c = some (.lst (cs'.map V.int))) (ko : ∀ b, b ≠ a → b ≠ c → H' b = H b) :
    Step (Roots H ([V.ref a, .int m].map some) ([.st i cs, .d (.int m)].map some)) S H S H' ∧ RepEnv K S H' ([V.ref a, .int m].map some) ([.st i' cs', .d (.int m)].map some) ∧
      ∀ b, Roots H' ([V.ref a, .int m].map some) ([.st i' cs', .d (.int m)].map some) b → Roots H ([V.ref a, .int m].map some) ([.st i cs, .d (.int m)].map some) b ∨ H b = none := by
  have ra : Roots H ([V.ref a, .int m].map some) ([.st i cs, .d (.int m)].map some) a := ⟨0, .st i cs, .ref a, rfl, rfl, .inl rfl⟩
  have rc : Roots H ([V.ref a, .int m].map some) ([.st i cs, .d (.int m)].map some) c := ⟨0, .st i cs, .ref a, rfl, rfl, .inr ⟨a, _, rfl, h1⟩⟩
  have sm : Same S H' := fun b o e => by
    rw [ko b (fun z => by rw [z, ha] at e; cases e) (fun z => by rw [z, hc] at e; cases e)]
    exact e0.same b o e
  refine ⟨⟨Same.refl S, sm, fun b o e n => ?_, fun b e => .inl e, fun b e => ?_⟩, ⟨sm, rfl, fun j w e => ?_, fun j j' w w' v v' b ne e1 e2 e3 e4 r1 r2 => ?_⟩, fun b hb => ?_⟩
  · rw [ko b (fun z => n (z ▸ ra)) (fun z => n (z ▸ rc))]
    exact e
  · by_cases z : b = a
    · rw [z, k1]; simp
    · by_cases z2 : b = c
      · rw [z2, k2]; simp
      · rw [ko b z z2]; exact e
  · match j, e with
    | 0, e =>
      have e : some (Val.st i' cs') = some w := e
      cases e
      exact ⟨.ref a, rfl, a, c, rfl, ha, hc, k1, k2⟩
    | 1, e =>
      have e : some (Val.d (.int m)) = some w := e
      cases e
      exact ⟨.int m, rfl, .int m⟩
    | j + 2, e =>
      have e : none = some w := e
      cases e
  · match j, j', e1, e3 with
    | 0, 0, _, _ => exact ne rfl
    | 1, _, e1, _ =>
      have e : some (Val.d (.int m)) = some w := e1
      cases e; exact r1
    | 0, 1, _, e3 =>
      have e : some (Val.d (.int m)) = some w' := e3
      cases e; exact r2
    | 0, j + 2, _, e3 =>
      have e : none = some w' := e3
      cases e
    | j + 2, _, e1, _ =>
      have e : none = some w := e1
      cases e
  · obtain ⟨j, w, v, e1, e2, e3⟩ := hb
    match j, e1, e2 with
    | 0, e1, e2 =>
      have e : some (Val.st i' cs') = some w := e1
      cases e
      have e : some (V.ref a) = some v := e2
      cases e
      rcases e3 with z | ⟨a', x, z1, z2⟩
      · cases z; exact .inl ra
      · cases z1
        rw [k1] at z2
        cases z2
        exact .inl rc
    | 1, e1, _ =>
      have e : some (Val.d (.int m)) = some w := e1
      cases e; exact e3.elim
    | j + 2, e1, _ =>
      have e : none = some w := e1
      cases e
end
end Ev

namespace Ev
open PySem L2
section
variable {P : Program} {w : World} {K : PySem.W.Frag} {mg : Str → Option Value} {base : Heap} {TT : List Fd} {G : List D} {T : Tab} {N ps : List Str} {k : Nat}
/-- a def as the top has written it -/
def DefAt (K : PySem.W.Frag) (mg : Str → Option Value) (x : Str) (st : Stmt) : Prop := ∃ f fd, mg x = some (.ref f) ∧ PySem.W.keepIn K (.ref f) = true ∧ Fun K x x st f fd
theorem def_at {h : Heap} (X : K.In h) (Gn : h.Ns mainGlobals mg) {x : Str} {st : Stmt} {f : Addr} {oc kV doc pm cdv ct : Value} {od an : Option Addr} {osl : Array (Option Value)} (a : PySem.W.nsIn K mainGlobals x = some (some (.ref f)))
    (l : K.lookup f = some ⟨oc, od, .func (PySem.W.fnOf x x (defArgs st) (defBody st) (defScope st) .none kV doc pm an cdv ct), osl⟩) (c : PySem.W.codeIn K cdv x = true) (kp : PySem.W.keepIn K (.ref f) = true) : DefAt K mg x st :=
  ⟨f, _, PySem.W.mg_of X Gn a, kp, fun_mk l c kp⟩
def DefOk (P : Program) (w : World) (K : PySem.W.Frag) (mg : Str → Option Value) (base : Heap) (TT : List Fd) (G : List D) (T : Tab) (f : Nat) (x : Str) : Prop :=
  ∃ fa fd ps, mg x = some (.ref fa) ∧ PySem.W.keepIn K (.ref fa) = true ∧ Binds K fd ps [] ∧ ∀ k, Names P w K mg base TT G T k → FnOk P w K mg base CX0 (k + 1) fa fd ps (spC K (callT TT G (k + 1) f))
theorem defOk_py {x : Str} {st : Stmt} {io : List Nat} {body : List MS} {i : Nat} (d : DefAt K mg x st) (b : ∀ f fd, Fun K x x st f fd → Binds K fd ps []) (Sc : FnScope N ps (defScope st)) (hT : TT[i]? = some (.py ps.length N.length io body))
    (hrp : T.rp = false) (ok : okSs T N (defScope st) body (defBody st) = true) : DefOk P w K mg base TT G T i x := by
  obtain ⟨f, fd, h1, h2, h3⟩ := d
  exact ⟨f, fd, ps, h1, h2, b f fd h3, fun k NM => fn_ev h3 Sc hT hrp ok NM⟩
theorem defOk_pr {x : Str} {st : Stmt} {io : List Nat} {g : List Val → Option (Val × List Val)} {i : Nat} (d : DefAt K mg x st) (b : ∀ f fd, Fun K x x st f fd → Binds K fd ps []) (hT : TT[i]? = some (.pr io g))
    (ok : ∀ f fd, Fun K x x st f fd → FnOk P w K mg base CX0 1 f fd ps (spC K g)) : DefOk P w K mg base TT G T i x := by
  obtain ⟨f, fd, h1, h2, h3⟩ := d
  refine ⟨f, fd, ps, h1, h2, b f fd h3, fun k NM => ?_⟩
  have e : callT TT G (k + 1) i = g := by
    funext ws
    show (match TT[i]? with
      | some (.py np ns io body) => if ws.length = np ∧ np ≤ ns then (evSs ⟨callT TT G k, ioT TT, G⟩ io body (ws.map some ++ List.replicate (ns - np) none)).bind (endF io ws) else none
      | some (.pr _ g) => g ws
      | none => none) = g ws
    rw [hT]
  rw [e]
  exact (ok f fd h3).mono (by omega)
def DefsOk (P : Program) (w : World) (K : PySem.W.Frag) (mg : Str → Option Value) (base : Heap) (TT : List Fd) (G : List D) (T : Tab) : Nat → List Str → Prop
  | _, [] => True
  | i, x :: xs => DefOk P w K mg base TT G T i x ∧ DefsOk P w K mg base TT G T (i + 1) xs
theorem defs_get {xs : List Str} {j f : Nat} {x : Str} (h : DefsOk P w K mg base TT G T j xs) (e : xs[f]? = some x) : DefOk P w K mg base TT G T (j + f) x := by
  induction xs generalizing j f with
  | nil => simp at e
  | cons y ys ih =>
    cases f with
    | zero =>
      simp at e
      subst e
      exact h.1
    | succ f =>
      have := ih h.2 (show ys[f]? = some x by simpa using e)
      rw [show j + 1 + f = j + (f + 1) by omega] at this
      exact this
theorem names_ok (hd : DefsOk P w K mg base TT G T 0 T.fns) (gl : ∀ (j : Nat) (x : Str) (d : D), T.gls[j]? = some x → G[j]? = some d → ∃ u v, mg x = some u ∧ RelV v u ∧ ∀ S, Rp K S v d) (bl : ∀ x ∈ T.bl, mg x = none) :
    ∀ k, Names P w K mg base TT G T k
  | 0 => ⟨fun f x e => by
      have := defs_get hd e
      rw [Nat.zero_add] at this
      obtain ⟨fa, fd, ps, h1, h2, h3, _⟩ := this
      refine ⟨fa, fd, ps, h1, h2, h3, ⟨fun vs H Q E h => ?_, fun A outer s H args us vs Q E hr e0 hb r h => ?_⟩⟩
      · obtain ⟨S, ws, w0, ws', _, z, _⟩ := h
        exact absurd (show (none : Option (Val × List Val)) = some _ from z) (by simp)
      · obtain ⟨S, ws, w0, ws', _, z, _⟩ := h
        exact absurd (show (none : Option (Val × List Val)) = some _ from z) (by simp), gl, bl⟩
  | k + 1 => ⟨fun f x e => by
      have := defs_get hd e
      rw [Nat.zero_add] at this
      obtain ⟨fa, fd, ps, h1, h2, h3, h4⟩ := this
      exact ⟨fa, fd, ps, h1, h2, h3, h4 k (names_ok hd gl bl k)⟩, gl, bl⟩
/-- the law's own promise -/
theorem law_sp {H : Hp} {a : Addr} {ns : List Int} {g : List Val → Option (Val × List Val)} {ws : List Val} {E : XK} (hO : Only H) (hS : SqL K H a (ns.map V.int)) (h : g [.scr ns] = some (.d (.bool true), ws)) : spC K g [.ref a] H (fun v _ => v = .bl true) E := by
  refine ⟨H, [.scr ns], _, _, ⟨Same.refl H, rfl, fun i w e => ?_, fun i j w w' v v' b ne e1 e2 e3 e4 r1 r2 => ?_⟩, h, fun v S' H' _ _ _ r _ => ?_⟩
  · match i, e with
    | 0, e =>
      have e : some (Val.scr ns) = some w := e
      cases e
      refine ⟨.ref a, rfl, a, rfl, ?_⟩
      rcases hS with (z | z) | z
      · rcases hO a with y | ⟨o, xs, y⟩
        · rw [z] at y; cases y
        · rw [z] at y; cases y
      · exact .inl z
      · exact .inr z
    | i + 1, e =>
      have e : none = some w := e
      cases e
  · match i, e1 with
    | 0, e =>
      have e : some (Val.scr ns) = some w := e
      cases e
      exact r1
    | i + 1, e =>
      have e : none = some w := e
      cases e
  · cases (show Rp K S' v (.bool true) from r)
    rfl
/-- one call of a def, from where nothing is being shown: the body's walk at this caller alone -/
theorem fn_here {A : Around} {outer : List PySem.Env} {qual x : Str} {st : Stmt} {f : Addr} {fd : FuncData} {s : Shared} {H : Hp} {args : Args} {us : List Value} {vs : List V} {Q : VK} {E : XK}
    (F : Fun K x qual st f fd) (Sc : FnScope N ps (defScope st)) (hl : vs.length = ps.length)
    (walk : ∀ cdv : Value, Room k (A.deeper (PyProof.Rows.envOfC qual (defScope st) s.heap.objs.size f cdv)) → ∃ t, PSs (cxOf CX0 P w K mg base N qual (defScope st) f cdv A outer s H E).nox (defBody st) t ∧ t { nx := fun _ H' => Q .non H', rt := Q } (L2.start N vs) H)
    (room : Room (k + 1) A) (e0 : Env0 P w K mg base A outer s H) (bnd : BindsTo s fd args (ps.zip us)) (rv : Vals vs us) : codeAny (model P w) A (.call (.ref f) args) (CR CX0 outer P w H s Q E) s := by
  obtain ⟨oc, od, kV, doc, pm, an, cdv, ct, osl, rfl, lk, hcd⟩ := F.ex
  have inS : K.In s.heap := e0.mod.kin.keeps (fun b o e => (e0.bs b o e).left)
  refine codeAny_call_function room.depth (inS f _ lk) rfl Sc.co Sc.gen rfl (PySem.W.codeRec_of inS hcd) (bnd _ _ _ _ ?_)
  refine wpAny_newFunctionEnv_cells Sc.kind (fun ⟨y, _⟩ hy => ?_) fun env he s1 y => ?_
  · rcases Sc.par y (List.of_mem_zip hy).left with q | q
    · exact Or.inl q
    · exact Or.inr (And.intro q (PySem.W.cellsFrom_some _ _ _ (Or.inl q)))
  · subst he
    refine ⟨(e0.mod.nolimit.keeps (fun b o e => (e0.bs b o e).left)).keeps y.toInCall.keep, codeAny_func ?_⟩
    obtain ⟨t, ht, hq⟩ := walk cdv (room.deeper _)
    have I0 := inv_start (CX := CX0) (E := E) Sc room.hd e0 hl rv y
    refine wpAny_mono (ht.nox.run [] s1 (L2.start N vs) H _ I0 hq) (fun fl s' hs => ?_) (fun e s' hs => hs)
    match fl, hs with
    | .ret u, ⟨v, σ', H', J, r1, q⟩ => exact ⟨v, H', J.os, J.bare, J.base, J.hok, r1, q⟩
    | .next, ⟨σ', H', J, q⟩ => exact ⟨V.non, H', J.os, J.bare, J.base, J.hok, (show RelV V.non Value.none from rfl), q⟩
    | .brk, ⟨_, _, _, q⟩ => exact (q : False).elim
    | .cont, ⟨_, _, _, q⟩ => exact (q : False).elim
/-- the law's call at the head, from its run at the caller alone -/
theorem head_call {mb : Str → Option Value} {fa a : Addr} {s₁ : Shared} {vs : List Value} {ns : List Int}
    (KX : K.In s₁.heap) (hns : s₁.heap.Ns mainGlobals mg) (hb : s₁.heap.Ns builtinsNs mb) (hbb : ∀ x : Str, x ≠ "__name__" → mb x = bootBuiltins x) (hlim : s₁.heap.NoLimit) (hg : s₁.gens = #[])
    (ha : s₁.heap.get? a = some { cls := .type "list", data := .seq vs.toArray }) (hi : PyProof.Rows.IntsAre vs ns) (hl : ns.length ≤ sizeLine)
    (run : ∀ (base : Heap) (H : Hp), K.In base → base.Ns mainGlobals mg → Only H → SqL K H a (ns.map V.int) → Env0 P w K mg base callerA [] s₁ H → codeAny (model P w) callerA (.call (.ref fa) ⟨[.ref a], []⟩) (CR CX0 [] P w H s₁ (fun v _ => v = .bl true) (fun _ _ _ => False)) s₁) :
    codeAny (model P w) callerA (.call (.ref fa) ⟨[.ref a], []⟩) (fun r s' => r = .ok (.ret (.bool true)) ∧ OldK s₁.heap s'.heap ∧ s'.os = s₁.os ∧ PyProof.Rows.AllBare s'.gens) s₁ := by
  have rv := vals_ints hi
  have lv := hi.length
  have core : ∀ H : Hp, Only H → SqL K H a (ns.map V.int) → HOk P w H s₁.heap → (∀ b, H b ≠ none → b = a ∧ K.lookup a = none) →
      codeAny (model P w) callerA (.call (.ref fa) ⟨[.ref a], []⟩) (fun r s' => r = .ok (.ret (.bool true)) ∧ OldK s₁.heap s'.heap ∧ s'.os = s₁.os ∧ PyProof.Rows.AllBare s'.gens) s₁ := by
    intro H hO hS hok hA
    have free : ∀ b : Addr, b ≠ a → H b = none := fun b n => Classical.byContradiction fun z => n (hA b z).1
    have dictFree : ∀ {b : Addr} {o : Obj} {es : Array DictEntry} {ep : Nat}, s₁.heap.get? b = some o → o.data = .dict es ep → H b = none := fun {b o es ep} e d => free b fun z => by
      subst z
      rw [ha] at e
      cases e
      exact nomatch (show Data.seq vs.toArray _ = Data.dict es ep from d)
    have nsB : ∀ {b : Addr} {m : Str → Option Value}, s₁.heap.Ns b m → (hidT s₁.heap H).Ns b m := fun ⟨o, es, ep, e, d, r⟩ => ⟨o, es, ep, hidT_get e (dictFree e d), d, r⟩
    have inB : K.In (hidT s₁.heap H) := fun b o e => hidT_get (KX b o e) (Classical.byContradiction fun z => by
      obtain ⟨z1, z2⟩ := hA b z
      rw [z1, z2] at e
      cases e)
    have hM : Mod K mg (hidT s₁.heap H) := ⟨inB, nsB hns, ⟨mb, nsB hb, hbb⟩, let ⟨mc, h1, h2⟩ := hlim; ⟨mc, nsB h1, h2⟩⟩
    have env : Env0 P w K mg (hidT s₁.heap H) callerA [] s₁ H := ⟨rfl, hM, fun b o e => of_hidT e, Nat.le_of_eq (hidT_size _ _), trivial, (fun b hb => nomatch hb), hok, .of_eq hg⟩
    refine codeAny_mono (run _ H inB (nsB hns) hO hS env) fun r s' h => ?_
    match r, h with
    | .ok (.ret u), h =>
      obtain ⟨v, H', os, bare, un, hok', r', q⟩ := h
      subst q
      obtain rfl : u = Value.bool true := r'
      refine ⟨rfl, OldK.of_keep fun b o e => ?_, os, bare⟩
      cases q : H b with
      | none => exact un.keep b o e q (fun z => by cases z) (by simp)
      | some u =>
        rcases hO b with z | ⟨ob, xs, z⟩
        · rw [q] at z; cases z
        · obtain ⟨e1, _⟩ := hok b _ z
          rw [e] at e1; cases e1
          exact (hok' b _ (un.frzs b _ _ z)).1
  cases hk : K.lookup a with
  | some o =>
    have e := KX a o hk
    rw [ha] at e
    cases e
    exact core (fun _ => none) (fun _ => Or.inl rfl) (Or.inr ⟨_, vs.toArray, _, hk, rfl, rfl, rfl, (by rw [List.size_toArray, lv]; exact hl), (by simpa using rv)⟩) (fun b u z => nomatch (show (none : Option HO) = some u from z)) (fun b z => (z rfl).elim)
  | none =>
    have off : ∀ b : Addr, b ≠ a → (if b = a then some (HO.frz { cls := .type "list", data := .seq vs.toArray } (.lst (ns.map V.int))) else none) = none := fun b n => if_neg n
    refine core (fun b => if b = a then some (HO.frz { cls := .type "list", data := .seq vs.toArray } (.lst (ns.map V.int))) else none) (fun b => ?_) (Or.inl (Or.inr ⟨{ cls := .type "list", data := .seq vs.toArray }, if_pos rfl⟩)) (fun b u z => ?_) (fun b z => ⟨Classical.byContradiction fun n => z (off b n), hk⟩)
    · by_cases n : b = a
      · exact Or.inr ⟨_, _, if_pos n⟩
      · exact Or.inl (off b n)
    · by_cases n : b = a
      · subst n
        cases (if_pos rfl).symm.trans z
        exact ⟨ha, (by rw [List.length_map]; exact hl), vs, _, rv, ha⟩
      · cases (off b n).symm.trans z
theorem law_walk {l : PySem.W.OpenLaw} {q : Program} {loose : List Str} {XP : (Str → Option Value) → Heap → Prop} {YP : World → Heap → Prop} {d : DefRec} {KK : Params → PySem.W.Frag} {f : Nat} {st : Stmt} {body : List MS} (hn : l.most = some 63) (hdf : d.params.defaults = []) (hr : Room (k + 1) callerA)
    (hY : ∀ (w : World) (h : Heap), YP w h → (KK w.params).In h)
    (hb : ∀ (K : PySem.W.Frag) f fd, Fun K d.name d.name st f fd → ∀ (s : Shared) (u : Value), BindsTo s fd ⟨[u], []⟩ [("script", u)])
    (F : ∀ (w : World) (mg : Str → Option Value) (h : Heap), (KK w.params).In h → h.Ns mainGlobals mg → DefAt (KK w.params) mg d.name st ∧ ∀ base : Heap, Names l.prog w (KK w.params) mg base TT G T k)
    (Sc : FnScope N ["script"] (defScope st)) (hT : TT[f]? = some (.py 1 N.length [] body)) (ok : okSs { T with rp := true } N (defScope st) body (defBody st) = true) (main : ∀ ns : List Int, ns.length ≤ 63 → ∃ ws, callT TT G (k + 1) f [.scr ns] = some (.d (.bool true), ws)) :
    PySem.W.WalkO q loose XP YP l.row.toRowW d [] (fun f vs => PySem.call f vs) := by
  refine Att.attach_call hn hdf fun w s₀ s₁ mg mb fa o pm cd doc a vs ns Gd Y ho hd hcd hmg hobj hints hlen hg => ?_
  obtain ⟨⟨f1, fd1, g1, g2, g3⟩, g4⟩ := F w mg _ (hY w _ Y) Gd.T.g
  rw [hmg] at g1
  cases g1
  refine head_call (hY w _ Y) Gd.T.g Gd.T.b Gd.T.builtins Gd.T.nolimit hg hobj hints (Nat.le_trans hlen (by decide)) fun base H _ _ hO hS e0 => ?_
  obtain ⟨ws, hm⟩ := main ns hlen
  have sp := law_sp (E := fun _ _ _ => False) hO hS hm
  refine fn_here (ps := ["script"]) (vs := [.ref a]) (us := [.ref a]) g3 Sc rfl (fun cdv room => ?_) hr e0 (hb _ _ _ g3 s₁ _) (.cons rfl .nil)
  obtain ⟨S, us, w0, us', r0, r1, r2⟩ := sp
  obtain ⟨h1, h2, r3⟩ := callT_len hT r1
  obtain ⟨r, c1, c2⟩ := Option.bind_eq_some_iff.mp r3
  have hl := r0.len
  simp only [List.length_map] at hl
  have NM : Names l.prog w (KK w.params) mg base TT G { T with rp := true } k := ⟨(g4 base).fn, (g4 base).gl, (g4 base).bl⟩
  have e : L2.start N [V.ref a] = [V.ref a].map some ++ List.replicate (N.length - 1) none := rfl
  refine ⟨_, (sndSs ⟨callT TT G k, ioT TT, G⟩ { T with rp := true } N body).s [] (xok_of (fun _ => rfl) NM Sc.nd room) PySem.PassesOwn.never ok, S, _, r, ?_, c1, ?_⟩
  · rw [e]
    exact rep_start r0
  · rw [e]
    exact endF_ok r0 c2 r2
end
end Ev

namespace Ev
open PySem L2
/-! ### the pure side: what the evaluator answers -/
section
variable {Γ : Ctx} {L : List Nat} {env e1 e2 : Env} {P Q : Res → Prop}
def OK (o : Option Res) (P : Res → Prop) : Prop := ∃ r, o = some r ∧ P r
theorem OK.imp {o : Option Res} (h : OK o P) (k : ∀ r, P r → Q r) : OK o Q := h.elim fun r z => ⟨r, z.1, k r z.2⟩
def thenP (Γ : Ctx) (L : List Nat) (ss : List MS) (P : Res → Prop) : Res → Prop
  | .nx e => OK (evSs Γ L ss e) P
  | r => P r
theorem ok_nil (h : P (.nx env)) : OK (evSs Γ L [] env) P := ⟨_, by rw [evSs], h⟩
theorem ok_cons {s : MS} {ss : List MS} (h : OK (evS Γ L s env) (thenP Γ L ss P)) : OK (evSs Γ L (s :: ss) env) P := by
  obtain ⟨r, h1, h2⟩ := h
  rw [OK, evSs, h1]
  cases r <;> exact (by first | exact h2 | exact ⟨_, rfl, h2⟩)
theorem ok_one {s : MS} (h : OK (evS Γ L s env) P) : OK (evSs Γ L [s] env) P := by
  refine ok_cons (h.imp fun r z => ?_)
  cases r with
  | nx e => exact ok_nil z
  | _ => exact z
theorem ok_step {s : MS} {ss : List MS} (h : evS Γ L s env = some (.nx e1)) (k : OK (evSs Γ L ss e1) P) : OK (evSs Γ L (s :: ss) env) P := ok_cons ⟨_, h, k⟩
theorem ok_ret {e : ME} {ss : List MS} {r : Rv} (h : ev Γ e env = some (r, e1)) (k : P (.rt r e1)) : OK (evSs Γ L (.ret e :: ss) env) P := ok_cons ⟨.rt r e1, by rw [evS, h]; rfl, k⟩
theorem ok_ifs {c : ME} {a b : List MS} {k : Bool} (h : evC Γ c env = some (k, e1)) (h1 : k = true → OK (evSs Γ L a e1) P) (h2 : k = false → OK (evSs Γ L b e1) P) : OK (evS Γ L (.ifs c a b) env) P := by
  rw [OK, evS, h]
  cases k with
  | true => exact h1 rfl
  | false => exact h2 rfl
theorem whN_mono {c : Env → Option (Bool × Env)} {b : Env → Option Res} : ∀ {n : Nat} {env : Env} {r : Res}, whN c b n env = some r → whN c b (n + 1) env = some r
  | 0, env, r, h => by simp [whN] at h
  | n + 1, env, r, h => by
    rw [whN] at h ⊢
    obtain ⟨⟨k, e1⟩, g1, h⟩ := Option.bind_eq_some_iff.mp h
    rw [g1]
    show (if k then _ else _) = _
    have h : (if k then (b e1).bind fun r => match r with
      | .nx e2 => whN c b n e2
      | .ct e2 => whN c b n e2
      | .bk e2 => some (.nx e2)
      | .rt v e2 => some (.rt v e2)
    else some (.nx e1)) = some r := h
    cases k with
    | false => exact h
    | true =>
      simp only [if_true] at h ⊢
      obtain ⟨rb, g2, h⟩ := Option.bind_eq_some_iff.mp h
      rw [g2]
      cases rb with
      | nx e => exact whN_mono h
      | ct e => exact whN_mono h
      | bk e => exact h
      | rt v e => exact h
theorem whN_le {c : Env → Option (Bool × Env)} {b : Env → Option Res} {n m : Nat} {env : Env} {r : Res} (h : whN c b n env = some r) (hm : n ≤ m) : whN c b m env = some r := by
  induction hm with
  | refl => exact h
  | step _ ih => exact whN_mono ih
theorem whD_of {c : Env → Option (Bool × Env)} {b : Env → Option Res} {n : Nat} {env : Env} {r : Res} (h : whN c b n env = some r) : whD c b env = some r := by
  unfold whD
  have hx : ∃ n, (whN c b n env).isSome = true := ⟨n, by rw [h]; rfl⟩
  rw [dif_pos hx]
  have hc := Classical.choose_spec hx
  obtain ⟨r', e⟩ := Option.isSome_iff_exists.mp hc
  rw [e]
  have a := whN_le h (Nat.le_max_left n (Classical.choose hx))
  have b := whN_le e (Nat.le_max_right n (Classical.choose hx))
  rw [a] at b
  exact b.symm
def loopP (I : Env → Prop) (Q : Res → Prop) : Res → Prop
  | .nx e => I e
  | .ct e => I e
  | .bk e => Q (.nx e)
  | .rt v e => Q (.rt v e)
theorem ok_whl {c : ME} {b : List MS} (I : Nat → Env → Prop) (h : ∀ m env, I m env → ∃ k e1, evC Γ c env = some (k, e1) ∧ (k = true → OK (evSs Γ L b e1) (loopP (fun e => ∃ m', m' < m ∧ I m' e) Q)) ∧ (k = false → Q (.nx e1))) {m : Nat} (h0 : I m env) :
    OK (evS Γ L (.whl c b) env) Q := by
  have key : ∀ m env, I m env → ∃ n, OK (whN (evC Γ c) (evSs Γ L b) n env) Q := by
    intro m
    induction m using Nat.strongRecOn with
    | _ m ih =>
      intro env hi
      obtain ⟨k, e1, g1, g2, g3⟩ := h m env hi
      cases k with
      | false => exact ⟨1, .nx e1, by rw [whN, g1]; rfl, g3 rfl⟩
      | true =>
        obtain ⟨r, g4, g5⟩ := g2 rfl
        cases r with
        | nx e =>
          obtain ⟨m', hm, hi'⟩ := g5
          obtain ⟨n, r', q1, q2⟩ := ih m' hm e hi'
          exact ⟨n + 1, r', by rw [whN, g1]; show (evSs Γ L b e1).bind _ = _; rw [g4]; exact q1, q2⟩
        | ct e =>
          obtain ⟨m', hm, hi'⟩ := g5
          obtain ⟨n, r', q1, q2⟩ := ih m' hm e hi'
          exact ⟨n + 1, r', by rw [whN, g1]; show (evSs Γ L b e1).bind _ = _; rw [g4]; exact q1, q2⟩
        | bk e => exact ⟨1, .nx e, by rw [whN, g1]; show (evSs Γ L b e1).bind _ = _; rw [g4]; rfl, g5⟩
        | rt v e => exact ⟨1, .rt v e, by rw [whN, g1]; show (evSs Γ L b e1).bind _ = _; rw [g4]; rfl, g5⟩
  obtain ⟨n, r, q1, q2⟩ := key m env h0
  exact ⟨r, by rw [evS]; exact whD_of q1, q2⟩
theorem ok_for {tg : Tg} {it : MI} {b : List MS} {s : Src} (hs : evI Γ it env = some (s, e1)) (I : Nat → Env → Prop) (h0 : I 0 e1)
    (h : ∀ i x e, s.items[i]? = some x → I i e → gOk s.g e ∧ ∃ e2, bindT (s.lk ++ L) tg x e = some e2 ∧ OK (evSs Γ (s.lk ++ L) b e2) (loopP (I (i + 1)) Q)) (hend : ∀ e, I s.items.length e → gOk s.g e ∧ Q (.nx e)) :
    OK (evS Γ L (.for_ tg it b) env) Q := by
  have key : ∀ (xs : List D) (i : Nat) (e : Env), s.items.drop i = xs → i ≤ s.items.length → I i e → OK (forD (evSs Γ (s.lk ++ L) b) (bindT (s.lk ++ L) tg) s.g xs e) Q := by
    intro xs
    induction xs with
    | nil =>
      intro i e hx hi hI
      have : i = s.items.length := by
        have := congrArg List.length hx
        rw [List.length_drop] at this
        simp at this
        omega
      subst this
      obtain ⟨g1, g2⟩ := hend e hI
      exact ⟨_, by rw [forD, if_pos g1], g2⟩
    | cons x xs ih =>
      intro i e hx hi hI
      have hl : i < s.items.length := by
        have := congrArg List.length hx
        rw [List.length_drop] at this
        simp at this
        omega
      have hg : s.items[i]? = some x := by
        have := congrArg List.head? hx
        rw [List.head?_drop] at this
        simpa using this
      have hx' : s.items.drop (i + 1) = xs := by
        have := congrArg List.tail hx
        rw [List.tail_drop] at this
        exact this
      obtain ⟨g1, e2, g2, r, g3, g4⟩ := h i x e hg hI
      rw [OK, forD, if_pos g1, g2]
      show ∃ r, (evSs Γ (s.lk ++ L) b e2).bind _ = some r ∧ Q r
      rw [g3]
      cases r with
      | nx e3 => exact ih (i + 1) e3 hx' hl g4
      | ct e3 => exact ih (i + 1) e3 hx' hl g4
      | bk e3 => exact ⟨_, rfl, g4⟩
      | rt v e3 => exact ⟨_, rfl, g4⟩
  rw [OK, evS, hs]
  exact key _ 0 e1 rfl (Nat.zero_le _) h0
open Classical in
theorem lc_inv {elt cond : Env → Option (D × Env)} {bnd : D → Env → Option Env} {own : List Nat} {g : Option (Nat × List D)} {xs : List D} (I : Nat → List D → Env → Prop) (h0 : I 0 [] env)
    (h : ∀ i x ys e, xs[i]? = some x → I i ys e → gOk g e ∧ ∃ e1 c e2 b, bnd x e = some e1 ∧ cond e1 = some (c, e2) ∧ truD c = some b ∧
      (b = true → ∃ y e3, elt e2 = some (y, e3) ∧ I (i + 1) (ys ++ [y]) (wipeE e3 own)) ∧ (b = false → I (i + 1) ys (wipeE e2 own))) (hend : ∀ ys e, I xs.length ys e → gOk g e) :
    ∃ ys e, lcD elt cond bnd own g xs env = some (ys, e) ∧ I xs.length ys e := by
  have key : ∀ (zs : List D) (i : Nat) (ys : List D) (e : Env), xs.drop i = zs → i ≤ xs.length → I i ys e → ∃ ys' e', lcD elt cond bnd own g zs e = some (ys', e') ∧ I xs.length (ys ++ ys') e' := by
    intro zs
    induction zs with
    | nil =>
      intro i ys e hx hi hI
      have : i = xs.length := by
        have := congrArg List.length hx
        rw [List.length_drop] at this
        simp at this
        omega
      subst this
      exact ⟨[], e, by rw [lcD, if_pos (hend _ _ hI)], by simpa using hI⟩
    | cons x zs ih =>
      intro i ys e hx hi hI
      have hl : i < xs.length := by
        have := congrArg List.length hx
        rw [List.length_drop] at this
        simp at this
        omega
      have hg : xs[i]? = some x := by
        have := congrArg List.head? hx
        rw [List.head?_drop] at this
        simpa using this
      have hx' : xs.drop (i + 1) = zs := by
        have := congrArg List.tail hx
        rw [List.tail_drop] at this
        exact this
      obtain ⟨g1, e1, c, e2, b, q1, q2, q3, q4, q5⟩ := h i x ys e hg hI
      rw [lcD, if_pos g1, q1]
      show ∃ ys' e', ((cond e1).bind _) = some (ys', e') ∧ _
      rw [q2]
      show ∃ ys' e', ((truD c).bind _) = some (ys', e') ∧ _
      rw [q3]
      cases b with
      | true =>
        obtain ⟨y, e3, k1, k2⟩ := q4 rfl
        obtain ⟨ys', e', k3, k4⟩ := ih (i + 1) (ys ++ [y]) _ hx' hl k2
        refine ⟨y :: ys', e', ?_, by simpa using k4⟩
        show ((elt e2).bind _) = _
        rw [k1]
        show (lcD elt cond bnd own g zs (wipeE e3 own)).map _ = _
        rw [k3]
        rfl
      | false =>
        obtain ⟨ys', e', k3, k4⟩ := ih (i + 1) ys _ hx' hl (q5 rfl)
        exact ⟨ys', e', k3, k4⟩
  obtain ⟨ys, e, k1, k2⟩ := key xs 0 [] env rfl (Nat.zero_le _) h0
  exact ⟨ys, e, k1, by simpa using k2⟩
theorem call_py {TT : List Fd} {G : List D} {k f np ns : Nat} {io : List Nat} {body : List MS} {ws : List Val} {res : Val × List Val} (hT : TT[f]? = some (.py np ns io body)) (hl : ws.length = np) (hn : np ≤ ns)
    (h : OK (evSs ⟨callT TT G k, ioT TT, G⟩ io body (ws.map some ++ List.replicate (ns - np) none)) fun r => endF io ws r = some res) : callT TT G (k + 1) f ws = some res := by
  obtain ⟨r, h1, h2⟩ := h
  rw [callT]
  simp only [hT]
  rw [if_pos ⟨hl, hn⟩, h1]
  exact h2
end
end Ev

namespace Ev
open PySem L2
/-! ### plain lemmas for every law -/
mutual
theorem eqv_self : ∀ d : D, d.plain = true → d.eqv d = true
  | .none, _ => by simp [PyData.eqv]
  | .bool b, _ => by simp [PyData.eqv]
  | .int i, _ => by simp [PyData.eqv]
  | .str s, _ => by simp [PyData.eqv]
  | .list xs, h => by simp only [PyData.eqv]; exact eqvs_self xs h
  | .tuple xs, h => by simp only [PyData.eqv]; exact eqvs_self xs h
  | .dict _, h => by cases h
theorem eqvs_self : ∀ xs : List D, PyData.plainAll xs = true → PyData.eqvAll xs xs = true
  | [], _ => by simp [PyData.eqvAll]
  | x :: xs, h => by
    simp only [PyData.plainAll, Bool.and_eq_true] at h
    simp only [PyData.eqvAll, eqv_self x h.1, eqvs_self xs h.2, Bool.and_self]
end
theorem eqv_int {i j : Int} : PyData.eqv (.int i) (.int j) = decide (i = j) := by
  by_cases h : i = j <;> simp [PyData.eqv, h]
theorem eqv_none_int {j : Int} : PyData.eqv .none (.int j) = false := by simp [PyData.eqv]
theorem eqv_int_none {j : Int} : PyData.eqv (.int j) .none = false := by simp [PyData.eqv]
theorem eqv_none : PyData.eqv .none .none = true := by simp [PyData.eqv]
theorem eqv_bool {a b : Bool} : PyData.eqv (.bool a) (.bool b) = (a == b) := by cases a <;> cases b <;> simp [PyData.eqv]
theorem ok_int {i : Int} : okD (.int i) = true := by simp [okD, PyData.plain, PyData.depth]
theorem ok_bool {b : Bool} : okD (.bool b) = true := by simp [okD, PyData.plain, PyData.depth]
theorem ok_non : okD .none = true := by simp [okD, PyData.plain, PyData.depth]
theorem self_ne {x : D} (h : okD x = true) : cmpD .ne x x = some false := by
  have : cmpD .ne x x = if okD x && okD x then some (!x.eqv x) else none := by
    cases x <;> rfl
  rw [this, h, eqv_self x (okD_p h).1]
  rfl
theorem self_eq {x : D} (h : okD x = true) : cmpD .eq x x = some true := by
  have : cmpD .eq x x = if okD x && okD x then some (x.eqv x) else none := by
    cases x <;> rfl
  rw [this, h, eqv_self x (okD_p h).1]
  rfl
theorem cmp_eq {x y : D} (h : okD x = true) (k : okD y = true) : cmpD .eq x y = some (x.eqv y) := by
  have : cmpD .eq x y = if okD x && okD y then some (x.eqv y) else none := by
    cases x <;> cases y <;> rfl
  rw [this, h, k]
  rfl
theorem cmp_ne {x y : D} (h : okD x = true) (k : okD y = true) : cmpD .ne x y = some (!x.eqv y) := by
  have : cmpD .ne x y = if okD x && okD y then some (!x.eqv y) else none := by
    cases x <;> cases y <;> rfl
  rw [this, h, k]
  rfl
/-! small data: a bound of the depth, a bound of the size -/
mutual
def smD : D → Bool
  | .none => true
  | .bool _ => true
  | .int i => decide (i.natAbs < 1000000)
  | .str x => x.cps.toList.all fun c => decide (c < 16 ^ 8)
  | .list xs => smAll xs
  | .tuple xs => smAll xs
  | .dict _ => false
def smAll : List D → Bool
  | [] => true
  | x :: xs => smD x && smAll xs
end
mutual
def szD : D → Nat
  | .none => 0
  | .bool _ => 0
  | .int _ => 21
  | .str x => x.cps.size
  | .list xs => szAll xs
  | .tuple xs => szAll xs
  | .dict _ => 0
def szAll : List D → Nat
  | [] => 0
  | x :: xs => szD x + 1 + szAll xs
end
theorem log_small {n : Nat} (h : n < 1000000) : n.log2 < 20 := by
  rcases Nat.eq_zero_or_pos n with z | z
  · subst z; decide
  · exact (Nat.log2_lt (by omega)).mpr (by omega)
theorem short_small {i : Int} (h : i.natAbs < 1000000) : (PyData.int i).shown.length ≤ 13 := by
  have := int_text_length_le10 (a := i) (k := 6) (by decide) (by omega)
  have e : (PyData.int i).shown.length ≤ (toString i).length := by
    simp only [PyData.shown]
    exact Nat.le_of_eq (ofString_length _)
  omega
mutual
theorem sm_facts : ∀ d : D, smD d = true → d.plain = true ∧ d.showable = true ∧ d.hasDict = false ∧ d.leavesShort 13 = true ∧ d.weight ≤ szD d
  | .none, _ => by simp [PyData.plain, PyData.showable, PyData.hasDict, PyData.leavesShort, PyData.weight, szD]
  | .bool _, _ => by simp [PyData.plain, PyData.showable, PyData.hasDict, PyData.leavesShort, PyData.weight, szD]
  | .int i, h => by
    have h : i.natAbs < 1000000 := of_decide_eq_true h
    have l := log_small h
    refine ⟨rfl, ?_, rfl, ?_, ?_⟩
    · simp only [PyData.showable]; exact decide_eq_true (by omega)
    · simp only [PyData.leavesShort]; exact decide_eq_true (short_small h)
    · simp only [PyData.weight, szD]; split <;> omega
  | .str x, h => by
    simp only [smD] at h
    refine ⟨rfl, rfl, rfl, ?_, ?_⟩
    · simp only [PyData.leavesShort]; exact h
    · simp only [PyData.weight, szD]; exact Nat.le_refl _
  | .list xs, h => by
    simp only [smD] at h
    obtain ⟨a, b, c, d, e⟩ := sms_facts xs h
    simp only [PyData.plain, PyData.showable, PyData.hasDict, PyData.leavesShort, PyData.weight, szD]
    exact ⟨a, b, c, d, e⟩
  | .tuple xs, h => by
    simp only [smD] at h
    obtain ⟨a, b, c, d, e⟩ := sms_facts xs h
    simp only [PyData.plain, PyData.showable, PyData.hasDict, PyData.leavesShort, PyData.weight, szD]
    exact ⟨a, b, c, d, e⟩
  | .dict _, h => by cases h
theorem sms_facts : ∀ xs : List D, smAll xs = true → PyData.plainAll xs = true ∧ PyData.showableAll xs = true ∧ PyData.hasDictAll xs = false ∧ PyData.leavesShortAll 13 xs = true ∧ PyData.weightAll xs ≤ szAll xs
  | [], _ => by simp [PyData.plainAll, PyData.showableAll, PyData.hasDictAll, PyData.leavesShortAll, PyData.weightAll, szAll]
  | x :: xs, h => by
    simp only [smAll, Bool.and_eq_true] at h
    obtain ⟨a, b, c, d, e⟩ := sm_facts x h.1
    obtain ⟨a', b', c', d', e'⟩ := sms_facts xs h.2
    simp only [PyData.plainAll, PyData.showableAll, PyData.hasDictAll, PyData.leavesShortAll, PyData.weightAll, szAll, a, b, c, d, a', b', c', d', Bool.and_self, Bool.or_self, true_and]
    omega
end
structure Sm (n c : Nat) (d : D) : Prop where
  sm : smD d = true
  dp : d.depth ≤ n
  sz : szD d ≤ c
theorem Sm.mono {n c n' c' : Nat} {d : D} (h : Sm n c d) (h1 : n ≤ n') (h2 : c ≤ c') : Sm n' c' d := ⟨h.sm, Nat.le_trans h.dp h1, Nat.le_trans h.sz h2⟩
theorem sm_none : Sm 0 0 .none := ⟨rfl, by simp [PyData.depth], by simp [szD]⟩
theorem sm_bool {b : Bool} : Sm 0 0 (.bool b) := ⟨rfl, by simp [PyData.depth], by simp [szD]⟩
theorem sm_int {i : Int} (h : i.natAbs < 1000000) : Sm 0 21 (.int i) := ⟨decide_eq_true h, by simp [PyData.depth], by simp [szD]⟩
theorem sm_nat {i : Nat} (h : i < 1000000) : Sm 0 21 (.int (i : Int)) := sm_int (by omega)
theorem sms_of {n c : Nat} : ∀ {xs : List D}, (∀ x ∈ xs, Sm n c x) → smAll xs = true ∧ PyData.depthAll xs ≤ n ∧ szAll xs ≤ xs.length * (c + 1)
  | [], _ => by simp [smAll, PyData.depthAll, szAll]
  | x :: xs, h => by
    obtain ⟨a, b, d⟩ := sms_of fun y hy => h y (List.mem_cons_of_mem _ hy)
    have k := h x (List.mem_cons_self ..)
    refine ⟨by simp only [smAll, k.sm, a, Bool.and_self], ?_, ?_⟩
    · rw [PyData.depthAll]; exact Nat.max_le.mpr ⟨k.dp, b⟩
    · rw [szAll, List.length_cons, Nat.succ_mul]
      have := k.sz
      omega
theorem sm_list {n c m : Nat} {xs : List D} (hl : xs.length ≤ m) (h : ∀ x ∈ xs, Sm n c x) : Sm (n + 1) (m * (c + 1)) (.list xs) := by
  obtain ⟨a, b, d⟩ := sms_of h
  refine ⟨a, by rw [PyData.depth]; omega, ?_⟩
  rw [szD]
  exact Nat.le_trans d (Nat.mul_le_mul_right _ hl)
theorem sm_tup {n c m : Nat} {xs : List D} (hl : xs.length ≤ m) (h : ∀ x ∈ xs, Sm n c x) : Sm (n + 1) (m * (c + 1)) (.tuple xs) := by
  obtain ⟨a, b, d⟩ := sms_of h
  refine ⟨a, by rw [PyData.depth]; omega, ?_⟩
  rw [szD]
  exact Nat.le_trans d (Nat.mul_le_mul_right _ hl)
theorem Sm.ok {n c : Nat} {d : D} (h : Sm n c d) (hn : n ≤ 60) : okD d = true := by
  unfold okD
  rw [(sm_facts d h.sm).1, Bool.true_and]
  exact decide_eq_true (Nat.le_trans h.dp hn)
theorem Sm.sh {n c : Nat} {d : D} (h : Sm n c d) (hn : n ≤ 60) (hc : c ≤ 1048576) : shB d = true := by
  obtain ⟨_, b, e, f, g⟩ := sm_facts d h.sm
  unfold shB
  have := PyData.shown_fits (B := 13) (by decide) (by decide) f (Nat.le_trans g (Nat.le_trans h.sz hc))
  simp only [b, e, Bool.not_false, Bool.and_self, Bool.true_and, Bool.and_eq_true, decide_eq_true_eq]
  exact ⟨Nat.le_trans h.dp hn, this⟩
/-! numbers -/
def nats (l : List Nat) : List D := l.map fun (n : Nat) => PyData.int (n : Int)
theorem rng_nat (n : Nat) : rngOf 0 (n : Int) = nats (List.range n) := by
  unfold rngOf nats
  rw [show ((n : Int) - 0).toNat = n by omega]
  refine List.map_congr_left fun k _ => ?_
  rw [Int.zero_add]
theorem rng_nat2 (i n : Nat) : rngOf (i : Int) (n : Int) = nats ((List.range (n - i)).map fun k => i + k) := by
  unfold rngOf nats
  rw [show ((n : Int) - (i : Int)).toNat = n - i by omega, List.map_map]
  refine List.map_congr_left fun k _ => ?_
  simp
theorem rngOk_nat {n : Nat} (h : n ≤ 1000000) : rngOk 0 (n : Int) = true := by
  unfold rngOk
  exact decide_eq_true (by omega)
theorem rngOk_nat2 {i n : Nat} (h : n ≤ 1000000) (k : i ≤ 1000000) : rngOk (i : Int) (n : Int) = true := by
  unfold rngOk
  exact decide_eq_true (by omega)
theorem mem_nats {a : Nat} {l : List Nat} (h : okD (.list (nats l)) = true) : memD (.int (a : Int)) (.list (nats l)) = some (decide (a ∈ l)) := by
  unfold memD
  simp only [ok_int, h, Bool.and_self, if_true, Option.some.injEq]
  rw [Bool.eq_iff_iff, List.any_eq_true, decide_eq_true_eq]
  constructor
  · rintro ⟨z, h1, h2⟩
    obtain ⟨b, h3, rfl⟩ := List.mem_map.mp h1
    rw [eqv_int] at h2
    have := of_decide_eq_true h2
    have : b = a := by omega
    exact this ▸ h3
  · intro h
    exact ⟨_, List.mem_map.mpr ⟨a, h, rfl⟩, by rw [eqv_int]; simp⟩
theorem none_mem_nats {l : List Nat} (h : okD (.list (nats l)) = true) : memD .none (.list (nats l)) = some false := by
  unfold memD
  simp only [ok_non, h, Bool.and_self, if_true, Option.some.injEq]
  rw [List.any_eq_false]
  intro x hx
  obtain ⟨b, _, rfl⟩ := List.mem_map.mp hx
  rw [eqv_int_none]
  simp
theorem sm_nats {l : List Nat} {m : Nat} (hl : l.length ≤ m) (h : ∀ n ∈ l, n < 1000000) : Sm 1 (m * 22) (.list (nats l)) := by
  refine sm_list (n := 0) (c := 21) (by simpa [nats] using hl) fun x hx => ?_
  obtain ⟨b, hb, rfl⟩ := List.mem_map.mp hx
  exact sm_nat (h b hb)
theorem bools_of (l : List Bool) : boolsOf (l.map PyData.bool) = some l := by
  induction l with
  | nil => rfl
  | cons b r ih => simp [boolsOf, ih]
theorem bools_map {α : Type} (f : α → Bool) (l : List α) : boolsOf (l.map (PyData.bool ∘ f)) = some (l.map f) := by rw [← List.map_map]; exact bools_of _
theorem ints_of (l : List Int) : intsOf (l.map PyData.int) = some l := by
  induction l with
  | nil => rfl
  | cons b r ih => simp [intsOf, ih]
theorem sIx_to {n i : Nat} (h : i ≤ n) : HT.sIx n n (some (i : Int)) = i := by
  rw [HT.sIx_nat]; exact Nat.min_eq_left h
theorem wipe_len : ∀ (own : List Nat) (env : Env), (wipeE env own).length = env.length
  | [], _ => rfl
  | i :: r, env => by rw [wipeE, List.length_set, wipe_len r env]
/-! a comprehension, as a function of its source -/
open Classical in
theorem lc_of {α : Type} {Γ : Ctx} {env : Env} {elt cond : ME} {tg : Tg} {it : MI} {own lk : List Nat} {g : Option (Nat × List D)} (enc : α → D) (l : List α) (p : α → Bool) (f : α → D)
    (hs : evI Γ it env = some (⟨l.map enc, lk, g⟩, env)) (hl : lk.all (fun j => decide (j ∉ own)) = true) (hg : gOk g (wipeE env own)) (hb : backOwn env (wipeE env own) own = env)
    (h : ∀ a ∈ l, ∃ e1, bindT lk tg (enc a) (wipeE env own) = some e1 ∧ evC Γ cond e1 = some (p a, e1) ∧ wipeE e1 own = wipeE env own ∧ (p a = true → ((ev Γ elt e1).bind fun (r, e') => fz e' r) = some (f a, e1))) :
    ev Γ (.lc elt tg it cond own) env = some (.v (.own ((l.filter p).map f)), env) := by
  obtain ⟨ys, e, h1, h2, h3⟩ := lc_inv (elt := fun e => (ev Γ elt e).bind fun (r, e') => fz e' r) (cond := fun e => (ev Γ cond e).bind fun (r, e') => (cur e' r).map fun x => (x, e')) (bnd := bindT lk tg) (own := own) (g := g) (xs := l.map enc) (env := wipeE env own)
    (fun i ys e => ys = ((l.take i).filter p).map f ∧ e = wipeE env own) ⟨by simp, rfl⟩
    (by
      rintro i x ys e hx ⟨rfl, rfl⟩
      rw [List.getElem?_map] at hx
      obtain ⟨a, ha, rfl⟩ := Option.map_eq_some_iff.mp hx
      have hm := List.mem_of_getElem? ha
      obtain ⟨e1, q1, q2, q3, q4⟩ := h a hm
      obtain ⟨⟨r, e2⟩, q5, q6⟩ := Option.bind_eq_some_iff.mp (show (ev Γ cond e1).bind _ = _ from q2)
      obtain ⟨b, q7, q8⟩ := Option.map_eq_some_iff.mp q6
      cases q8
      obtain ⟨c, q9, q10⟩ := Option.bind_eq_some_iff.mp (show (cur e1 r).bind truD = _ from q7)
      have tk : l.take (i + 1) = l.take i ++ [a] := by rw [List.take_add_one, ha]; rfl
      refine ⟨hg, e1, c, e1, p a, q1, ?_, q10, fun hk => ?_, fun hk => ?_⟩
      · show (ev Γ cond e1).bind _ = _
        rw [q5]
        show (cur e1 r).map _ = _
        rw [q9]; rfl
      · refine ⟨f a, e1, q4 hk, ?_, q3⟩
        rw [tk, List.filter_append, List.map_append]
        simp [hk]
      · refine ⟨?_, q3⟩
        rw [tk, List.filter_append, List.map_append]
        simp [hk])
    (fun ys e hh => by rw [hh.2]; exact hg)
  rw [List.length_map, List.take_length] at h2
  subst h2 h3
  rw [ev, hs]
  show (if lk.all (fun j => decide (j ∉ own)) = true then _ else _) = _
  rw [if_pos hl]
  refine (congrArg (Option.map _) h1).trans ?_
  show some (Rv.v (Val.own ((l.filter p).map f)), backOwn env (wipeE env own) own) = _
  rw [hb]
/-- .. that changes what it meets -/
theorem lc_run {Γ : Ctx} {env env1 : Env} {elt cond : ME} {tg : Tg} {it : MI} {own lk : List Nat} {g : Option (Nat × List D)} {xs : List D} (hs : evI Γ it env = some (⟨xs, lk, g⟩, env1)) (hl : lk.all (fun j => decide (j ∉ own)) = true)
    (I : Nat → List D → Env → Prop) (h0 : I 0 [] (wipeE env1 own))
    (h : ∀ i x ys e, xs[i]? = some x → I i ys e → gOk g e ∧ ∃ e1 b e2, bindT lk tg x e = some e1 ∧ evC Γ cond e1 = some (b, e2) ∧ (b = true → ∃ y e3, ((ev Γ elt e2).bind fun (r, e') => fz e' r) = some (y, e3) ∧ I (i + 1) (ys ++ [y]) (wipeE e3 own)) ∧ (b = false → I (i + 1) ys (wipeE e2 own))) (hend : ∀ ys e, I xs.length ys e → gOk g e) :
    ∃ ys e, I xs.length ys e ∧ ev Γ (.lc elt tg it cond own) env = some (.v (.own ys), backOwn env1 e own) := by
  obtain ⟨ys, e, h1, h2⟩ := lc_inv (elt := fun e => (ev Γ elt e).bind fun (r, e') => fz e' r) (cond := fun e => (ev Γ cond e).bind fun (r, e') => (cur e' r).map fun x => (x, e')) (bnd := bindT lk tg) (own := own) (g := g) (xs := xs) (env := wipeE env1 own) I h0
    (fun i x ys e hx hI => by
      obtain ⟨g1, e1, b, e2, q1, q2, q3, q4⟩ := h i x ys e hx hI
      obtain ⟨⟨r, e2'⟩, q5, q6⟩ := Option.bind_eq_some_iff.mp (show (ev Γ cond e1).bind _ = _ from q2)
      obtain ⟨b', q7, q8⟩ := Option.map_eq_some_iff.mp q6
      cases q8
      obtain ⟨c, q9, q10⟩ := Option.bind_eq_some_iff.mp (show (cur e2 r).bind truD = _ from q7)
      refine ⟨g1, e1, c, e2, b, q1, ?_, q10, q3, q4⟩
      show (ev Γ cond e1).bind _ = _
      rw [q5]
      show (cur e2 r).map _ = _
      rw [q9]; rfl) hend
  refine ⟨ys, e, h2, ?_⟩
  rw [ev, hs]
  show (if lk.all (fun j => decide (j ∉ own)) = true then _ else _) = _
  rw [if_pos hl]
  exact (congrArg (Option.map _) h1).trans rfl
theorem filter_tt {α : Type} (l : List α) : l.filter (fun _ => true) = l := List.filter_eq_self.mpr fun _ _ => rfl
/-- .. over a counted range -/
theorem evI_rng0 {Γ : Ctx} {env : Env} {e : ME} {i : Int} (h : ev Γ e env = some (.v (.d (.int i)), env)) (hn : rngOk 0 i = true) : evI Γ (.rng [e]) env = some (⟨rngOf 0 i, [], none⟩, env) := by
  simp [evI, evL, h, curs, cur, valD, rngSrc, hn]
theorem evI_rng {Γ : Ctx} {env : Env} {e : ME} {n : Nat} (h : ev Γ e env = some (.v (.d (.int (n : Int))), env)) (hn : n ≤ 1000000) : evI Γ (.rng [e]) env = some (⟨nats (List.range n), [], none⟩, env) := by
  rw [← rng_nat]
  exact evI_rng0 h (rngOk_nat hn)
theorem evI_rng20 {Γ : Ctx} {env : Env} {a b : ME} {i j : Int} (h : ev Γ a env = some (.v (.d (.int i)), env)) (h' : ev Γ b env = some (.v (.d (.int j)), env)) (hn : rngOk i j = true) : evI Γ (.rng [a, b]) env = some (⟨rngOf i j, [], none⟩, env) := by
  simp [evI, evL, h, h', curs, cur, valD, rngSrc, hn]
theorem app_step {Γ : Ctx} {L : List Nat} {env : Env} {i : Nat} {e : ME} {r : Rv} {x : D} {xs : List D} (h0 : rd env i = some (.own xs)) (h : ev Γ e env = some (r, env)) (hf : fz env r = some (x, env)) (hl : xs.length < sizeLine) :
    evS Γ L (.app i e) env = some (.nx (env.set i (some (.own (xs ++ [x]))))) := by
  simp only [evS, h0, isOwn, if_true, h, Option.bind_some, hf, hl]
theorem ext_step {Γ : Ctx} {L : List Nat} {env : Env} {i : Nat} {e : ME} {r : Rv} {xs ys : List D} (h0 : rd env i = some (.own xs)) (h : ev Γ e env = some (r, env)) (hf : cur env r = some (.list ys)) (hl : xs.length + ys.length ≤ sizeLine) :
    evS Γ L (.ext i e) env = some (.nx (env.set i (some (.own (xs ++ ys))))) := by
  simp only [evS, h0, isOwn, if_true, h, Option.bind_some, hf, hl]
theorem asg_step {Γ : Ctx} {L : List Nat} {env : Env} {i : Nat} {e : ME} {w : Val} (h : ev Γ e env = some (.v w, env)) (hi : i ∉ L) (hl : i < env.length) : evS Γ L (.asg (.nm i) e) env = some (.nx (env.set i (some w))) := by
  simp only [evS, h, Option.bind_some, asgn, setV, Option.map_some]
  rw [if_neg (fun z => z.elim hi (fun z => by omega)), Option.map_some]
theorem add_fits {α β : Type} {a : List α} {b : List β} (h : a.length ≤ 1000) (k : b.length ≤ 1000) : a.length + b.length ≤ sizeLine := by
  rw [sizeLine_eq]; omega
theorem cur_v {env : Env} {x : D} : cur env (.v (.d x)) = some x := rfl
theorem sli_to {Γ : Ctx} {env : Env} {a hi : ME} {r : Rv} {x : D} {j : Int} {w : Val} (h1 : ev Γ a env = some (r, env)) (h2 : cur env r = some x) (h3 : ev Γ hi env = some (.v (.d (.int j)), env)) (hn : isNoneC hi = false) (hs : sliD x none (some j) = some w) :
    ev Γ (.sli a (.con .none) hi) env = some (.v w, env) := by
  have h4 : ev Γ (.con .none) env = some (.v (.d .none), env) := by simp [ev]
  have h5 : isNoneC (.con .none) = true := rfl
  rw [ev, h1, Option.bind_some]
  simp [h3, h4, h5, h2, cur_v, part, hn, hs]
theorem sli_from {Γ : Ctx} {env : Env} {a lo : ME} {r : Rv} {x : D} {j : Int} {w : Val} (h1 : ev Γ a env = some (r, env)) (h2 : cur env r = some x) (h3 : ev Γ lo env = some (.v (.d (.int j)), env)) (hn : isNoneC lo = false) (hs : sliD x (some j) none = some w) :
    ev Γ (.sli a lo (.con .none)) env = some (.v w, env) := by
  have h4 : ev Γ (.con .none) env = some (.v (.d .none), env) := by simp [ev]
  have h5 : isNoneC (.con .none) = true := rfl
  rw [ev, h1, Option.bind_some]
  simp [h3, h4, h5, h2, cur_v, part, hn, hs]
theorem cut_to {α : Type} (xs : List α) (i : Nat) (h : i ≤ xs.length) : cut xs none (some (i : Int)) = xs.take i := by
  unfold cut
  rw [HT.sIx_none, HT.sIx_nat]
  simp [Nat.min_eq_left h]
theorem cut_from {α : Type} (xs : List α) (i : Nat) : cut xs (some (i : Int)) none = xs.drop i := by
  unfold cut
  rw [HT.sIx_none, HT.sIx_nat]
  rcases Nat.le_total i xs.length with h | h
  · rw [Nat.min_eq_left h, List.take_of_length_le (by rw [List.length_drop]; exact Nat.le_refl _)]
  · rw [Nat.min_eq_right h, List.drop_length, List.drop_of_length_le h]; simp
theorem back_none {io : List Nat} {keep : Bool} {env : Env} : ∀ {rs : List Rv} {p : Nat} {ws : List Val}, alis rs = [] → backArgs io keep p rs ws env = env
  | [], _, _, _ => by simp [backArgs]
  | .v _ :: rs, p, [], _ => by simp [backArgs]
  | .v _ :: rs, p, _ :: ws, h => by rw [backArgs]; exact back_none (show alis rs = [] from h)
  | .ali _ :: rs, _, _, h => by cases (show _ :: alis rs = [] from h)
theorem call_gen {Γ : Ctx} {env e1 e2 : Env} {f : Nat} {es : List ME} {rs : List Rv} {ws ws' : List Val} {v : Val} (h : evL Γ es env = some (rs, e1)) (hn : (alis rs).Nodup) (hw : argVals e1 (Γ.io f) 0 rs = some ws) (hc : Γ.C f ws = some (v, ws'))
    (hb : backArgs (Γ.io f) (flatV v && flatAll (Γ.io f) 0 ws') 0 rs ws' e1 = e2) : ev Γ (.call f es) env = some (.v v, e2) := by
  rw [ev, h, Option.bind_some]
  show doCall Γ f rs e1 = _
  rw [doCall, if_pos hn, hw, Option.bind_some, hc, Option.map_some]
  show some (Rv.v v, backArgs (Γ.io f) (flatV v && flatAll (Γ.io f) 0 ws') 0 rs ws' e1) = _
  rw [hb]
theorem call_pure {Γ : Ctx} {env : Env} {f : Nat} {es : List ME} {rs : List Rv} {ws ws' : List Val} {v : Val} (h : evL Γ es env = some (rs, env)) (hn : alis rs = []) (hw : argVals env (Γ.io f) 0 rs = some ws) (hc : Γ.C f ws = some (v, ws')) : ev Γ (.call f es) env = some (.v v, env) :=
  call_gen h (by rw [hn]; exact List.nodup_nil) hw hc (back_none hn)
theorem ok_intL (xs : List Int) : okD (.list (xs.map .int)) = true := by
  have h1 : PyData.plainAll (xs.map PyData.int) = true := PySem.W.plainAll_map xs
  have h2 : PyData.depthAll (xs.map PyData.int) ≤ 0 := PySem.W.depthAll_map xs
  unfold okD
  simp only [PyData.plain, h1, PyData.depth, Bool.true_and]
  exact decide_eq_true (by omega)
theorem ok_natL (l : List Nat) : okD (.list (nats l)) = true := by
  have e : nats l = (l.map fun n : Nat => (n : Int)).map PyData.int := by simp [nats]
  rw [e]
  exact ok_intL _
theorem cut_toA {α : Type} (xs : List α) (i : Nat) : cut xs none (some (i : Int)) = xs.take i := by
  unfold cut
  rw [HT.sIx_none, HT.sIx_nat]
  rcases Nat.le_total i xs.length with h | h
  · simp [Nat.min_eq_left h]
  · simp [Nat.min_eq_right h, List.take_of_length_le h]
/-! sorted lists of ints -/
def leI (a b : Int) : Bool := decide (a ≤ b)
theorem sortB_ints (l : List Int) : sortB (l.map PyData.int) = true := by
  unfold sortB alikeB
  rw [Bool.and_eq_true, Bool.or_eq_true]
  refine ⟨List.all_eq_true.mpr fun x hx => ?_, .inr (List.all_eq_true.mpr fun x hx => ?_)⟩
  · obtain ⟨a, _, rfl⟩ := List.mem_map.mp hx
    rw [ok_int, Bool.and_true]
    refine List.all_eq_true.mpr fun y hy => ?_
    obtain ⟨b, _, rfl⟩ := List.mem_map.mp hy
    rfl
  · obtain ⟨a, _, rfl⟩ := List.mem_map.mp hx
    rfl
theorem sorted_ints (l : List Int) : biSorted [.list (l.map PyData.int)] = some (.own ((l.mergeSort leI).map PyData.int)) := by
  unfold biSorted
  simp only [sortB_ints, if_true]
  rw [← List.map_mergeSort (r := leI) (s := W.dataLe false id) (f := PyData.int) fun a _ b _ => ?_]
  show decide (a ≤ b) = (!W.dataLt (.int b) (.int a))
  rw [W.dataLt_int]
  by_cases h : a ≤ b
  · rw [decide_eq_true h, decide_eq_false (by omega)]; rfl
  · rw [decide_eq_false h, decide_eq_true (by omega)]; rfl
def leN (a b : Nat) : Bool := decide (a ≤ b)
def sortN (l : List Nat) : List Nat := l.mergeSort leN
theorem sorted_nats (l : List Nat) : biSorted [.list (nats l)] = some (.own (nats (sortN l))) := by
  have e : nats l = (l.map fun n : Nat => (n : Int)).map PyData.int := by simp [nats]
  rw [e, sorted_ints, ← List.map_mergeSort (r := leN) (s := leI) (f := fun n : Nat => (n : Int)) fun a _ b _ => ?_]
  · simp [nats, sortN]
  · show decide (a ≤ b) = decide ((a : Int) ≤ (b : Int))
    exact decide_eq_decide.mpr (by omega)
theorem sortN_perm (l : List Nat) : (sortN l).Perm l := List.mergeSort_perm l leN
theorem sortN_pw (l : List Nat) : (sortN l).Pairwise (· ≤ ·) :=
  (List.pairwise_mergeSort (le := leN) (fun a b c h1 h2 => by
    have h1 : a ≤ b := of_decide_eq_true h1
    have h2 : b ≤ c := of_decide_eq_true h2
    exact decide_eq_true (by omega)) (fun a b => by
    unfold leN
    rcases Nat.le_total a b with h | h
    · rw [decide_eq_true h]; rfl
    · rw [decide_eq_true h]; simp) l).imp fun z => of_decide_eq_true z
theorem ints_nats (l : List Nat) : intsOf (nats l) = some (l.map fun n : Nat => (n : Int)) := by
  have e : nats l = (l.map fun n : Nat => (n : Int)).map PyData.int := by simp [nats]
  rw [e, ints_of]
/-- a rising list is its own set -/
theorem setI_rise {l : List Int} (h : l.Pairwise (· < ·)) : setI l = l := rise_unique (setI_pw l) h fun k => mem_setI
theorem setN_sort {l : List Nat} (h : l.Nodup) : setI ((sortN l).map fun n : Nat => (n : Int)) = (sortN l).map fun n : Nat => (n : Int) := by
  refine setI_rise ?_
  have nd : (sortN l).Nodup := (sortN_perm l).nodup_iff.mpr h
  have pw := sortN_pw l
  rw [List.pairwise_map]
  exact (List.Pairwise.and pw nd).imp fun z => by have := z.1; have := z.2; omega
/-- the set of a list of numbers, rising -/
def setN (X : List Nat) : List Nat := (setI (X.map fun n : Nat => (n : Int))).map Int.toNat
theorem setI_sub : ∀ l : List Int, (setI l).length ≤ l.length
  | [] => by simp [setI]
  | x :: r => by
    have ih := setI_sub r
    have ins : ∀ m : List Int, (insI x m).length ≤ m.length + 1 := fun m => by
      induction m with
      | nil => simp [insI]
      | cons y t ih =>
        unfold insI
        split
        · simp
        · split
          · simp
          · simp only [List.length_cons]; omega
    have := ins (setI r)
    show (insI x (setI r)).length ≤ _
    rw [List.length_cons]
    omega
theorem setN_cast (X : List Nat) : (setN X).map (fun n : Nat => (n : Int)) = setI (X.map fun n : Nat => (n : Int)) := by
  unfold setN
  rw [List.map_map]
  refine (List.map_congr_left fun k hk => ?_).trans (List.map_id _)
  obtain ⟨n, _, rfl⟩ := List.mem_map.mp (mem_setI.mp hk)
  simp
theorem setN_D (X : List Nat) : (setI (X.map fun n : Nat => (n : Int))).map PyData.int = nats (setN X) := by
  rw [← setN_cast]
  simp [nats]
theorem mem_setN {X : List Nat} {k : Nat} : k ∈ setN X ↔ k ∈ X := by
  have h : (k : Int) ∈ (setN X).map (fun n : Nat => (n : Int)) ↔ (k : Int) ∈ X.map fun n : Nat => (n : Int) := by rw [setN_cast]; exact mem_setI
  have e : ∀ l : List Nat, (k : Int) ∈ l.map (fun n : Nat => (n : Int)) ↔ k ∈ l := fun l => by
    rw [List.mem_map]
    exact ⟨fun ⟨n, hn, z⟩ => by have : n = k := by omega
                                exact this ▸ hn, fun hn => ⟨k, hn, rfl⟩⟩
  exact (e _).symm.trans (h.trans (e _))
theorem setN_pw (X : List Nat) : (setN X).Pairwise (· < ·) := by
  have h := setI_pw (X.map fun n : Nat => (n : Int))
  rw [← setN_cast, List.pairwise_map] at h
  exact h.imp fun z => by omega
theorem setN_le (X : List Nat) : (setN X).length ≤ X.length := by
  have := setI_sub (X.map fun n : Nat => (n : Int))
  unfold setN
  rw [List.length_map]
  rwa [List.length_map] at this
theorem ssetD_natsB {X : List Nat} (h : X.length < 1000) (h2 : (setN X).length < 64) : ssetD (.list (nats X)) = some (.own (nats (setN X))) := by
  have hl : (X.map fun n : Nat => (n : Int)).length < 1000 := by rw [List.length_map]; exact h
  have hl2 : (setI (X.map fun n : Nat => (n : Int))).length < 64 := by
    unfold setN at h2
    rwa [List.length_map] at h2
  simp only [ssetD, ints_nats, Option.bind_some]
  rw [← setN_D]
  exact if_pos ⟨hl, hl2⟩
theorem ssetD_nats {X : List Nat} (h : X.length < 64) : ssetD (.list (nats X)) = some (.own (nats (setN X))) :=
  ssetD_natsB (by omega) (Nat.lt_of_le_of_lt (setN_le X) h)
theorem riseN_unique : ∀ {l m : List Nat}, l.Pairwise (· < ·) → m.Pairwise (· < ·) → (∀ k, k ∈ l ↔ k ∈ m) → l = m := fun {l m} h1 h2 h => by
  have a : (l.map fun n : Nat => (n : Int)) = m.map fun n : Nat => (n : Int) := rise_unique (by rw [List.pairwise_map]; exact h1.imp fun z => by omega) (by rw [List.pairwise_map]; exact h2.imp fun z => by omega) fun k => by
    simp only [List.mem_map]
    exact ⟨fun ⟨n, hn, e⟩ => ⟨n, (h n).mp hn, e⟩, fun ⟨n, hn, e⟩ => ⟨n, (h n).mpr hn, e⟩⟩
  have b := congrArg (List.map Int.toNat) a
  have e : ∀ l : List Nat, (l.map fun n : Nat => (n : Int)).map Int.toNat = l := fun l => by
    rw [List.map_map]
    exact (List.map_congr_left fun n _ => by simp).trans (List.map_id l)
  rw [e, e] at b
  exact b
theorem lrg_ev {Γ : Ctx} {env : Env} {e : ME} {k : Nat} (h : ev Γ e env = some (.v (.d (.int (k : Int))), env)) (hk : k ≤ 1000000) : ev Γ (.lrg1 e) env = some (.v (.own (nats (List.range k))), env) := by
  have key : ∀ i : Int, ev Γ e env = some (.v (.d (.int i)), env) → rngOk 0 i = true → ev Γ (.lrg1 e) env = some (.v (.own (rngOf 0 i)), env) := fun i h hi => by
    rw [ev, h]
    simp [cur_v, hi]
  rw [← rng_nat]
  exact key _ h (rngOk_nat hk)
theorem sort_id {l : List Int} (h : l.Pairwise (· ≤ ·)) : l.mergeSort leI = l := List.mergeSort_of_pairwise (h.imp fun z => decide_eq_true z)
theorem sort_pw (l : List Int) : (l.mergeSort leI).Pairwise (· ≤ ·) :=
  (List.pairwise_mergeSort (le := leI) (fun a b c h1 h2 => by
    have h1 : a ≤ b := of_decide_eq_true h1
    have h2 : b ≤ c := of_decide_eq_true h2
    exact decide_eq_true (by omega)) (fun a b => by
    unfold leI
    rcases Int.le_total a b with h | h
    · rw [decide_eq_true h]; rfl
    · rw [decide_eq_true h]; simp) l).imp fun z => of_decide_eq_true z
theorem ints_at {l : List Int} {i : Nat} {x : D} (h : (l.map PyData.int)[i]? = some x) : ∃ c, l[i]? = some c ∧ x = .int c := by
  rw [List.getElem?_map] at h
  obtain ⟨c, h1, h2⟩ := Option.map_eq_some_iff.mp h
  exact ⟨c, h1, h2.symm⟩
theorem ints_ix {l : List Int} {i : Nat} {c : Int} (h : l[i]? = some c) : idxD (.list (l.map PyData.int)) (.int (i : Int)) = some (.int c) := (atI_nat (by rw [List.getElem?_map, h]; rfl) : atI (l.map PyData.int) (i : Int) = _)
/-- how many of the first n hold -/
theorem filter_le {i c : Nat} {p : Nat → Bool} (h : ∀ j, p j = true → i ≤ j ∧ j < i + c) : ∀ n : Nat, ((List.range n).filter p).length ≤ min n (i + c) - i
  | 0 => by simp
  | n + 1 => by
    have ih := filter_le h n
    rw [List.range_succ, List.filter_append, List.length_append]
    by_cases hp : p n = true
    · obtain ⟨h1, h2⟩ := h n hp
      simp only [List.filter_cons, hp, if_true, List.filter_nil, List.length_singleton]
      omega
    · simp only [List.filter_cons, hp, Bool.false_eq_true, if_false, List.filter_nil, List.length_nil]
      omega
theorem filter_lt (r : Nat) : ∀ n : Nat, ((List.range n).filter fun j => decide (j < r)).length = min n r
  | 0 => by simp
  | n + 1 => by
    have ih := filter_lt r n
    rw [List.range_succ, List.filter_append, List.length_append, ih]
    by_cases hp : n < r
    · simp only [List.filter_cons, decide_eq_true hp, if_true, List.filter_nil, List.length_singleton]
      omega
    · simp only [List.filter_cons, decide_eq_false hp, List.filter_nil, List.length_nil]
      simp
      omega
theorem enum_at {xs : List D} : ∀ {k i : Nat} {x : D}, (enumOf k xs)[i]? = some x → ∃ y, xs[i]? = some y ∧ x = .tuple [.int ((k + i : Nat) : Int), y] := by
  induction xs with
  | nil => intro k i x h; simp [enumOf] at h
  | cons y ys ih =>
    intro k i x h
    cases i with
    | zero =>
      simp [enumOf] at h
      exact ⟨y, rfl, h.symm⟩
    | succ i =>
      obtain ⟨z, h1, h2⟩ := ih (k := k + 1) (i := i) (by simpa [enumOf] using h)
      exact ⟨z, by simpa using h1, by rw [h2, show k + 1 + i = k + (i + 1) by omega]⟩
theorem enum_len {xs : List D} : ∀ {k : Nat}, (enumOf k xs).length = xs.length := by
  induction xs with
  | nil => intro k; rfl
  | cons y ys ih => intro k; simp [enumOf, ih]
/-! draws -/
def TakeOk (C : Calls) (f : Nat) : Prop := ∀ (i m : Int) (cs : List Int), cs ≠ [] → 0 < m → m < 1073741824 → ∃ (d : Nat) (i' : Int) (cs' : List Int), (d : Int) < m ∧ cs' ≠ [] ∧ C f [.st i cs, .d (.int m)] = some (.d (.int (d : Int)), [.st i' cs', .d (.int m)])
theorem draw {Γ : Ctx} {env : Env} {f j : Nat} {e : ME} {i m : Int} {cs : List Int} (T : TakeOk Γ.C f) (hio : Γ.io f = [0]) (h0 : rd env j = some (.st i cs)) (hne : cs ≠ []) (h1 : ev Γ e env = some (.v (.d (.int m)), env)) (m0 : 0 < m) (m1 : m < 1073741824) :
    ∃ (d : Nat) (i' : Int) (cs' : List Int), (d : Int) < m ∧ cs' ≠ [] ∧ ev Γ (.call f [.var j, e]) env = some (.v (.d (.int (d : Int))), env.set j (some (.st i' cs'))) := by
  obtain ⟨d, i', cs', a, b, c⟩ := T i m cs hne m0 m1
  refine ⟨d, i', cs', a, b, call_gen (rs := [.ali j, .v (.d (.int m))]) (ws := [.st i cs, .d (.int m)]) (ws' := [.st i' cs', .d (.int m)]) (e1 := env) ?_ (by simp [alis]) ?_ c (by rw [hio]; simp [backArgs])⟩
  · simp [evL, ev, h0, h1]
  · rw [hio]
    simp [argVals, h0, nonIo, valD]
theorem evI_rngS {Γ : Ctx} {env e1 : Env} {e : ME} {i : Int} {n : Nat} (h : ev Γ e env = some (.v (.d (.int i)), e1)) (hi : i = (n : Int)) (hn : n ≤ 1000000) : evI Γ (.rng [e]) env = some (⟨nats (List.range n), [], none⟩, e1) := by
  have k : ∀ j : Int, ev Γ e env = some (.v (.d (.int j)), e1) → rngOk 0 j = true → evI Γ (.rng [e]) env = some (⟨rngOf 0 j, [], none⟩, e1) := fun j h hj => by
    simp [evI, evL, h, curs, cur, valD, rngSrc, hj]
  rw [← rng_nat, ← hi]
  exact k i h (by rw [hi]; exact rngOk_nat hn)
theorem ev_add {Γ : Ctx} {env e1 e2 : Env} {a b : ME} {i j : Int} (h : ev Γ a env = some (.v (.d (.int i)), e1)) (k : ev Γ b e1 = some (.v (.d (.int j)), e2)) : ev Γ (.bin .add a b) env = some (.v (.d (.int (i + j))), e2) := by
  rw [ev, h, Option.bind_some]
  simp [k, cur_v, binD]
theorem ev_con {Γ : Ctx} {env : Env} {c : D} : ev Γ (.con c) env = some (.v (.d c), env) := by rw [ev]
theorem ev_var {Γ : Ctx} {env : Env} {i : Nat} {x : D} (h : rd env i = some (.d x)) : ev Γ (.var i) env = some (.v (.d x), env) := by rw [ev, h]
theorem ev_ali {Γ : Ctx} {env : Env} {i : Nat} {xs : List D} (h : rd env i = some (.own xs)) : ev Γ (.var i) env = some (.ali i, env) := by rw [ev, h]
theorem ev_cmpS {Γ : Ctx} {env e1 e2 : Env} {op : COp} {a b : ME} {x y : D} {c : Bool} (h : ev Γ a env = some (.v (.d x), e1)) (k : ev Γ b e1 = some (.v (.d y), e2)) (hc : cmpD op x y = some c) : ev Γ (.cmp op a b) env = some (.v (.d (.bool c)), e2) := by
  rw [ev, h, Option.bind_some]
  simp [k, cur_v, hc]
theorem ev_sub {Γ : Ctx} {env e1 e2 : Env} {a b : ME} {i j : Int} (h : ev Γ a env = some (.v (.d (.int i)), e1)) (k : ev Γ b e1 = some (.v (.d (.int j)), e2)) : ev Γ (.bin .sub a b) env = some (.v (.d (.int (i - j))), e2) := by
  rw [ev, h, Option.bind_some]
  simp [k, cur_v, binD]
theorem ev_idxA {Γ : Ctx} {env : Env} {i : Nat} {b : ME} {xs : List D} {y z : D} (h : rd env i = some (.own xs)) (k : ev Γ b env = some (.v (.d y), env)) (hz : idxD (.list xs) y = some z) : ev Γ (.idx (.var i) b) env = some (.v (.d z), env) := by
  rw [ev, ev_ali h, Option.bind_some]
  have hc : cur env (.ali i) = some (.list xs) := by simp [cur, h, valD]
  simp [k, cur_v, hc, hz]
theorem ev_idxV {Γ : Ctx} {env e1 e2 : Env} {a b : ME} {x y z : D} (h : ev Γ a env = some (.v (.d x), e1)) (k : ev Γ b e1 = some (.v (.d y), e2)) (hz : idxD x y = some z) : ev Γ (.idx a b) env = some (.v (.d z), e2) := by
  rw [ev, h, Option.bind_some]
  simp [k, cur_v, hz]
theorem evC_b {Γ : Ctx} {env e1 : Env} {c : ME} {b : Bool} (h : ev Γ c env = some (.v (.d (.bool b)), e1)) : evC Γ c env = some (b, e1) := by
  rw [evC, h, Option.bind_some]
  simp [truR, cur_v, truD]
theorem ev_orF {Γ : Ctx} {env e1 : Env} {a b : ME} (h : ev Γ a env = some (.v (.d (.bool false)), e1)) : ev Γ (.orE a b) env = ev Γ b e1 := by
  rw [ev, h, Option.bind_some]
  simp [truR, cur_v, truD]
theorem ev_orT {Γ : Ctx} {env e1 : Env} {a b : ME} (h : ev Γ a env = some (.v (.d (.bool true)), e1)) : ev Γ (.orE a b) env = some (.v (.d (.bool true)), e1) := by
  rw [ev, h, Option.bind_some]
  simp [truR, cur_v, truD]
theorem ev_andT {Γ : Ctx} {env e1 : Env} {a b : ME} (h : ev Γ a env = some (.v (.d (.bool true)), e1)) : ev Γ (.andE a b) env = ev Γ b e1 := by
  rw [ev, h, Option.bind_some]
  simp [truR, cur_v, truD]
theorem ev_andF {Γ : Ctx} {env e1 : Env} {a b : ME} (h : ev Γ a env = some (.v (.d (.bool false)), e1)) : ev Γ (.andE a b) env = some (.v (.d (.bool false)), e1) := by
  rw [ev, h, Option.bind_some]
  simp [truR, cur_v, truD]
theorem ev_not {Γ : Ctx} {env e1 : Env} {a : ME} {b : Bool} (h : ev Γ a env = some (.v (.d (.bool b)), e1)) : ev Γ (.notE a) env = some (.v (.d (.bool (!b))), e1) := by
  rw [ev, h, Option.bind_some]
  simp [truR, cur_v, truD]
theorem asg_stepS {Γ : Ctx} {L : List Nat} {env e1 : Env} {i : Nat} {e : ME} {w : Val} (h : ev Γ e env = some (.v w, e1)) (hi : i ∉ L) (hl : i < e1.length) : evS Γ L (.asg (.nm i) e) env = some (.nx (e1.set i (some w))) := by
  simp only [evS, h, Option.bind_some, asgn, setV, Option.map_some]
  rw [if_neg (fun z => z.elim hi (fun z => by omega)), Option.map_some]
theorem app_stepS {Γ : Ctx} {L : List Nat} {env e1 e2 : Env} {i : Nat} {e : ME} {r : Rv} {x : D} {ys xs : List D} (h0 : rd env i = some (.own ys)) (h : ev Γ e env = some (r, e1)) (hf : fz e1 r = some (x, e2)) (h2 : rd e2 i = some (.own xs)) (hl : xs.length < sizeLine) :
    evS Γ L (.app i e) env = some (.nx (e2.set i (some (.own (xs ++ [x]))))) := by
  simp only [evS, h0, isOwn, if_true, h, Option.bind_some, hf, h2, hl]
theorem tru_evC {Γ : Ctx} {env : Env} : evC Γ (.con (.bool true)) env = some (true, env) := by
  simp [evC, ev, truR, cur, valD, truD]
end Ev

set_option exponentiation.threshold 3000
namespace Ev
open PySem L2
/-! law-neutral helpers of the pure side -/
abbrev dn (n : Nat) : Option Val := some (.d (.int (n : Int)))
abbrev di (i : Int) : Option Val := some (.d (.int i))
theorem ev_binS {Γ : Ctx} {env e1 e2 : Env} {op : BOp} {a b : ME} {x y : D} {w : Val} (h : ev Γ a env = some (.v (.d x), e1)) (k : ev Γ b e1 = some (.v (.d y), e2)) (hw : binD op x y = some w) : ev Γ (.bin op a b) env = some (.v w, e2) := by
  rw [ev, h, Option.bind_some]
  simp [k, cur_v, hw]
theorem nats_at {l : List Nat} {i : Nat} {x : D} (h : (nats l)[i]? = some x) : ∃ c, l[i]? = some c ∧ x = .int (c : Int) := by
  unfold nats at h
  rw [List.getElem?_map] at h
  obtain ⟨c, h1, h2⟩ := Option.map_eq_some_iff.mp h
  exact ⟨c, h1, h2.symm⟩
theorem nats_len (l : List Nat) : (nats l).length = l.length := by simp [nats]
theorem nats_app (l : List Nat) (n : Nat) : nats l ++ [PyData.int (n : Int)] = nats (l ++ [n]) := by simp [nats]
theorem nats_cat (l m : List Nat) : nats l ++ nats m = nats (l ++ m) := by simp [nats]
theorem nats_ix {l : List Nat} {i c : Nat} (h : l[i]? = some c) : idxD (.list (nats l)) (.int (i : Int)) = some (.int (c : Int)) := (atI_nat (by rw [nats, List.getElem?_map, h]; rfl) : atI (nats l) (i : Int) = _)
theorem first_bad {p : Nat → Bool} : ∀ m, p m = true → ∃ j, j ≤ m ∧ p j = true ∧ ∀ i, i < j → p i = false := fun m => by
  induction m using Nat.strongRecOn with
  | _ m ih =>
    intro h
    by_cases z : ∃ i, i < m ∧ p i = true
    · obtain ⟨i, hi, hp⟩ := z
      obtain ⟨j, h1, h2, h3⟩ := ih i hi hp
      exact ⟨j, by omega, h2, h3⟩
    · exact ⟨m, Nat.le_refl _, h, fun i hi => by
        cases q : p i
        · rfl
        · exact absurd ⟨i, hi, q⟩ z⟩
/-- the first of a rising list that holds the least one -/
theorem find_rise {p : Nat → Bool} : ∀ {l : List Nat}, l.Pairwise (· < ·) → ∀ {m : Nat}, m ∈ l → p m = true → (∀ i, i < m → p i = false) → l.find? p = some m
  | [], _, _, h, _, _ => by cases h
  | a :: r, hp, m, hm, h1, h2 => by
    obtain ⟨q1, q2⟩ := List.pairwise_cons.mp hp
    rw [List.find?_cons]
    rcases List.mem_cons.mp hm with e | e
    · subst e; rw [h1]
    · rw [h2 a (q1 m e)]
      exact find_rise q2 e h1 h2
theorem drop_at {α : Type} {l : List α} {i : Nat} {c : α} (h : l[i]? = some c) : l.drop i = c :: l.drop (i + 1) := by
  obtain ⟨h1, h2⟩ := List.getElem?_eq_some_iff.mp h
  rw [← h2]
  exact List.drop_eq_getElem_cons h1
def enc2 (f : Nat → Int) (m : Nat) : D := .tuple [.int (f m), .int (m : Int)]
theorem min_enc (f : Nat → Int) : ∀ (r : List Nat) (a : Nat), ∃ c ∈ a :: r, W.minD (enc2 f a) (r.map (enc2 f)) = enc2 f c ∧ ∀ x ∈ a :: r, f c ≤ f x
  | [], a => ⟨a, by simp, rfl, by simp⟩
  | y :: r, a => by
    have e : W.minD (enc2 f a) ((y :: r).map (enc2 f)) = W.minD (if W.dataLt (enc2 f y) (enc2 f a) then enc2 f y else enc2 f a) (r.map (enc2 f)) := rfl
    have hd : W.dataLt (enc2 f y) (enc2 f a) = decide (f y < f a ∨ (f y = f a ∧ (y : Int) < (a : Int))) := W.dataLt_ii ..
    rw [e, hd]
    by_cases h : f y < f a ∨ (f y = f a ∧ (y : Int) < (a : Int))
    · rw [decide_eq_true h, if_pos rfl]
      obtain ⟨c, hc, h1, h2⟩ := min_enc f r y
      refine ⟨c, List.mem_cons_of_mem _ hc, h1, fun x hx => ?_⟩
      rcases List.mem_cons.mp hx with q | q
      · subst q
        have := h2 y (List.mem_cons_self ..)
        omega
      · exact h2 x q
    · rw [decide_eq_false h, if_neg (by decide)]
      obtain ⟨c, hc, h1, h2⟩ := min_enc f r a
      refine ⟨c, ?_, h1, fun x hx => ?_⟩
      · rcases List.mem_cons.mp hc with q | q
        · rw [q]; simp
        · simp [q]
      · rcases List.mem_cons.mp hx with q | q
        · subst q; exact h2 x (List.mem_cons_self ..)
        · rcases List.mem_cons.mp q with q | q
          · subst q
            have := h2 a (List.mem_cons_self ..)
            omega
          · exact h2 x (List.mem_cons_of_mem _ q)
theorem minB_enc (f : Nat → Int) (l : List Nat) : minB (l.map (enc2 f)) = true := by
  unfold minB alikeB
  rw [Bool.and_eq_true]
  refine ⟨List.all_eq_true.mpr fun x hx => ?_, List.all_eq_true.mpr fun x hx => ?_⟩
  · obtain ⟨a, _, rfl⟩ := List.mem_map.mp hx
    rw [Bool.and_eq_true]
    refine ⟨List.all_eq_true.mpr fun y hy => ?_, by simp [okD, enc2, PyData.plain, PyData.plainAll, PyData.depth, PyData.depthAll]⟩
    obtain ⟨b, _, rfl⟩ := List.mem_map.mp hy
    simp [enc2, W.alike, W.alikeAll]
  · obtain ⟨a, _, rfl⟩ := List.mem_map.mp hx
    rfl
theorem log_i {i : Int} (h : i.natAbs < 2 ^ 900) : i.natAbs.log2 ≤ 900 := by
  rcases Nat.eq_zero_or_pos i.natAbs with z | z
  · rw [z]; simp [Nat.log2_zero]
  · exact Nat.le_of_lt ((Nat.log2_lt (by omega)).mpr h)
theorem mul_i {a b : Int} (ha : a.natAbs < 100000) (hb : b.natAbs < 100000) : binD .mul (.int a) (.int b) = some (.d (.int (a * b))) := by
  have up : (100000 : Nat) < 2 ^ 900 := Nat.lt_of_lt_of_le (show 100000 < 2 ^ 17 by decide) (Nat.pow_le_pow_right (by decide) (by decide))
  have h1 := log_i (Nat.lt_trans ha up)
  have h2 := log_i (Nat.lt_trans hb up)
  have : a.natAbs.log2 + b.natAbs.log2 < 1000000 := by omega
  simp only [binD, this, if_true]
theorem all_ev {Γ : Ctx} {env : Env} {me : ME} {α : Type} {l : List α} {p : α → Bool} (h : ev Γ me env = some (.v (.own (l.map fun k => .bool (p k))), env)) : ev Γ (.bi .all [me]) env = some (.v (.d (.bool (l.all p))), env) := by
  have hb := bools_map p l
  have he : (l.map fun k => PyData.bool (p k)) = l.map (PyData.bool ∘ p) := rfl
  rw [ev, evL, h, Option.bind_some]
  simp only [evL, Option.map_some, Option.bind_some, curs, cur, valD, biD, biAll, he, hb, List.all_map]
  rfl
theorem len_ev {Γ : Ctx} {env : Env} {me : ME} {xs : List D} (h : ev Γ me env = some (.v (.own xs), env)) : ev Γ (.bi .len [me]) env = some (.v (.d (.int (xs.length : Int))), env) := by
  rw [ev, evL, h, Option.bind_some]
  simp only [evL, Option.map_some, Option.bind_some, curs, cur, valD, biD, biLen]
theorem ne_own {Γ : Ctx} {env : Env} {a b : ME} {xs ys : List Nat} (h : ev Γ a env = some (.v (.own (nats xs)), env)) (k : ∃ r, ev Γ b env = some (r, env) ∧ cur env r = some (.list (nats ys))) : ev Γ (.cmp .ne a b) env = some (.v (.d (.bool (!(PyData.list (nats xs)).eqv (.list (nats ys))))), env) := by
  obtain ⟨r, k1, k2⟩ := k
  rw [ev, h, Option.bind_some]
  have hc : cur env (.v (.own (nats xs))) = some (.list (nats xs)) := rfl
  simp only [k1, Option.bind_some, hc, k2, cmp_ne (ok_natL xs) (ok_natL ys), Option.map_some]
theorem pos_all {α : Type} (l : List α) (p : α → Bool) : decide (0 < ((l.filter p).length : Int)) = !l.all fun x => !p x := by
  cases h : l.all fun x => !p x with
  | true =>
    have : l.filter p = [] := List.filter_eq_nil_iff.mpr fun x hx => by
      have := List.all_eq_true.mp h x hx
      simpa using this
    rw [this]; rfl
  | false =>
    obtain ⟨x, hx, hf⟩ := List.all_eq_false.mp h
    have hm : x ∈ l.filter p := List.mem_filter.mpr ⟨hx, by simpa using hf⟩
    have := List.length_pos_of_mem hm
    rw [decide_eq_true (by omega)]
    rfl
/-- the greatest of a bounded set -/
theorem greatest {p : Nat → Prop} : ∀ b, p 0 → ∃ T, T ≤ b ∧ p T ∧ ∀ m, m ≤ b → p m → m ≤ T
  | 0, h => ⟨0, by omega, h, fun m hm _ => hm⟩
  | b + 1, h => by
    by_cases z : p (b + 1)
    · exact ⟨b + 1, by omega, z, fun m hm _ => hm⟩
    · obtain ⟨T, h1, h2, h3⟩ := greatest b h
      exact ⟨T, by omega, h2, fun m hm q => h3 m (by
        rcases Nat.lt_or_ge b m with w | w
        · exact absurd (by rw [show b + 1 = m by omega]; exact q) z
        · exact w) q⟩
theorem split_len {α : Type} (l : List α) (p : α → Bool) : l.length = (l.filter p).length + (l.filter fun x => !p x).length := by
  induction l with
  | nil => rfl
  | cons a r ih =>
    cases h : p a with
    | true => rw [List.filter_cons_of_pos h, List.filter_cons_of_neg (by simp [h])]; simp only [List.length_cons]; omega
    | false => rw [List.filter_cons_of_neg (by simp [h]), List.filter_cons_of_pos (by simp [h])]; simp only [List.length_cons]; omega
theorem nodup_len {l m : List Nat} (hl : l.Nodup) (h : ∀ a ∈ l, a ∈ m) : l.length ≤ m.length := by
  induction l generalizing m with
  | nil => exact Nat.zero_le _
  | cons a r ih =>
    have hm := h a (List.mem_cons_self ..)
    obtain ⟨q1, q2⟩ := List.nodup_cons.mp hl
    have := ih (m := m.erase a) q2 fun b hb => (List.mem_erase_of_ne (by rintro rfl; exact q1 hb)).mpr (h b (List.mem_cons_of_mem _ hb))
    rw [List.length_erase_of_mem hm] at this
    have := List.length_pos_of_mem hm
    rw [List.length_cons]
    omega
theorem lst_ix {Γ : Ctx} {env e1 : Env} {es : List ME} {k : ME} {xs : List D} {c : Nat} {x : D} (h : ev Γ (.lst es) env = some (.v (.own xs), env)) (hk : ev Γ k env = some (.v (.d (.int (c : Int))), e1)) (hx : xs[c]? = some x) : ev Γ (.idx (.lst es) k) env = some (.v (.d x), e1) := by
  have h1 : cur e1 (.v (.own xs)) = some (.list xs) := rfl
  have h2 : cur e1 (.v (.d (.int (c : Int)))) = some (.int (c : Int)) := rfl
  have h3 : idxD (.list xs) (.int (c : Int)) = some x := (atI_nat hx : atI xs (c : Int) = _)
  rw [ev, h, Option.bind_some]
  simp only [hk, Option.bind_some, h1, h2, h3, Option.map_some]
theorem list_ix {Γ : Ctx} {env : Env} {i : Nat} {x : D} {j : Int} {xs : List D} (h : rd env i = some (.d x)) (hx : idxD x (.int j) = some (.list xs)) : ev Γ (.bi .list [(.idx (.var i) (.con (.int j)))]) env = some (.v (.own xs), env) := by
  rw [ev, evL, ev_idxV (ev_var h) ev_con hx, Option.bind_some]
  simp only [evL, Option.map_some, Option.bind_some, curs, cur_v, biD, biList]
theorem call_pureS {Γ : Ctx} {env e1 : Env} {f : Nat} {es : List ME} {rs : List Rv} {ws ws' : List Val} {v : Val} (h : evL Γ es env = some (rs, e1)) (hn : alis rs = []) (hw : argVals e1 (Γ.io f) 0 rs = some ws) (hc : Γ.C f ws = some (v, ws')) : ev Γ (.call f es) env = some (.v v, e1) :=
  call_gen h (by rw [hn]; exact List.nodup_nil) hw hc (back_none hn)
theorem ev_addL {Γ : Ctx} {env : Env} {a m : ME} {ra rb : Rv} {x y : List Nat} (h : ev Γ a env = some (ra, env)) (hc : cur env ra = some (.list (nats x))) (k : ev Γ m env = some (rb, env)) (kc : cur env rb = some (.list (nats y))) (hl : x.length ≤ 1000) (hl' : y.length ≤ 1000) :
    ev Γ (.bin .add a m) env = some (.v (.own (nats (x ++ y))), env) := by
  have fits : (nats x).length + (nats y).length ≤ sizeLine := add_fits (by rw [nats_len]; exact hl) (by rw [nats_len]; exact hl')
  rw [ev, h, Option.bind_some]
  simp only [k, Option.bind_some, hc, kc, binD, fits, if_true, Option.map_some, nats_cat]
/-! conditions -/
section
variable {Γ : Ctx} {env e1 : Env}
theorem evC_inv {c : ME} {p : Bool} (h : evC Γ c env = some (p, e1)) : ∃ r, ev Γ c env = some (r, e1) ∧ truR e1 r = some p := by
  unfold evC at h
  obtain ⟨⟨r, e⟩, h1, h2⟩ := Option.bind_eq_some_iff.mp h
  obtain ⟨k, h3, h4⟩ := Option.map_eq_some_iff.mp h2
  cases h4
  exact ⟨r, h1, h3⟩
theorem evC_r {c : ME} {p : Bool} {r : Rv} (h : ev Γ c env = some (r, e1)) (k : truR e1 r = some p) : evC Γ c env = some (p, e1) := by
  rw [evC, h, Option.bind_some]
  simp only [k, Option.map_some]
theorem evC_and {a b : ME} {p q : Bool} (h : evC Γ a env = some (p, env)) (k : p = true → evC Γ b env = some (q, env)) : evC Γ (.andE a b) env = some (p && q, env) := by
  obtain ⟨r, h1, h2⟩ := evC_inv h
  cases p with
  | true =>
    have e : ev Γ (.andE a b) env = ev Γ b env := by
      rw [ev, h1, Option.bind_some]
      simp only [h2, Option.bind_some, if_true]
    rw [evC, e]
    exact k rfl
  | false =>
    refine evC_r (r := r) ?_ h2
    rw [ev, h1, Option.bind_some]
    simp only [h2, Option.bind_some, Bool.false_eq_true, if_false]
theorem evC_or {a b : ME} {p q : Bool} (h : evC Γ a env = some (p, env)) (k : p = false → evC Γ b env = some (q, env)) : evC Γ (.orE a b) env = some (p || q, env) := by
  obtain ⟨r, h1, h2⟩ := evC_inv h
  cases p with
  | false =>
    have e : ev Γ (.orE a b) env = ev Γ b env := by
      rw [ev, h1, Option.bind_some]
      simp only [h2, Option.bind_some, Bool.false_eq_true, if_false]
    rw [evC, e]
    exact k rfl
  | true =>
    refine evC_r (r := r) ?_ h2
    rw [ev, h1, Option.bind_some]
    simp only [h2, Option.bind_some, if_true]
theorem ev_notC {a : ME} {p : Bool} (h : evC Γ a env = some (p, e1)) : ev Γ (.notE a) env = some (.v (.d (.bool (!p))), e1) := by
  obtain ⟨r, h1, h2⟩ := evC_inv h
  rw [ev, h1, Option.bind_some]
  simp only [h2, Option.map_some]
theorem evC_not {a : ME} {p : Bool} (h : evC Γ a env = some (p, e1)) : evC Γ (.notE a) env = some (!p, e1) := evC_b (ev_notC h)
theorem ev_ite {c a b : ME} {p : Bool} (h : evC Γ c env = some (p, e1)) : ev Γ (.ite c a b) env = if p then ev Γ a e1 else ev Γ b e1 := by
  obtain ⟨r, h1, h2⟩ := evC_inv h
  rw [ev, h1, Option.bind_some]
  simp only [h2, Option.bind_some]
theorem evC_ite {c a b : ME} {p : Bool} (h : evC Γ c env = some (p, e1)) : evC Γ (.ite c a b) env = if p then evC Γ a e1 else evC Γ b e1 := by
  rw [evC, ev_ite h]
  cases p <;> rfl
theorem evC_list {i : Nat} {xs : List D} (h : rd env i = some (.own xs) ∨ rd env i = some (.d (.list xs))) : evC Γ (.var i) env = some (!xs.isEmpty, env) := by
  rcases h with h | h
  · refine evC_r (ev_ali h) ?_
    simp [truR, cur, h, valD, truD]
  · refine evC_r (ev_var h) ?_
    simp [truR, cur_v, truD]
theorem evC_cmp {op : COp} {a b : ME} {x y : D} {c : Bool} {e2 : Env} (h : ev Γ a env = some (.v (.d x), e1)) (k : ev Γ b e1 = some (.v (.d y), e2)) (hc : cmpD op x y = some c) : evC Γ (.cmp op a b) env = some (c, e2) := evC_b (ev_cmpS h k hc)
theorem ev_bool {c : ME} {p : Bool} (h : ev Γ c env = some (.v (.d (.bool p)), e1)) : evC Γ c env = some (p, e1) := evC_b h
theorem ev_chain {op op' : COp} {a b c : ME} {x y z : D} {p q : Bool} (h1 : ev Γ a env = some (.v (.d x), env)) (h2 : ev Γ b env = some (.v (.d y), env)) (h3 : ev Γ c env = some (.v (.d z), env)) (k1 : cmpD op x y = some p) (k2 : cmpD op' y z = some q) :
    ev Γ (.chain op op' a b c) env = some (.v (.d (.bool (p && q))), env) := by
  rw [ev, h1, Option.bind_some]
  simp only [h2, Option.bind_some, cur_v, k1]
  cases p with
  | false => simp
  | true =>
    simp only [if_true, h3, Option.bind_some, cur_v, k2, Option.map_some, Bool.true_and]
theorem any_ev {me : ME} {α : Type} {l : List α} {p : α → Bool} (h : ev Γ me env = some (.v (.own (l.map fun k => .bool (p k))), e1)) : ev Γ (.bi .any [me]) env = some (.v (.d (.bool (l.any p))), e1) := by
  have hb := bools_map p l
  have he : (l.map fun k => PyData.bool (p k)) = l.map (PyData.bool ∘ p) := rfl
  rw [ev, evL, h, Option.bind_some]
  simp only [evL, Option.map_some, Option.bind_some, curs, cur, valD, biD, biAny, he, hb, List.any_map]
  rfl
theorem len_evR {me : ME} {r : Rv} {xs : List D} (h : ev Γ me env = some (r, e1)) (hc : cur e1 r = some (.list xs)) : ev Γ (.bi .len [me]) env = some (.v (.d (.int (xs.length : Int))), e1) := by
  rw [ev, evL, h, Option.bind_some]
  simp only [evL, Option.map_some, Option.bind_some, curs, hc, biD, biLen]
theorem len_var {i : Nat} {xs : List D} (h : rd env i = some (.own xs) ∨ rd env i = some (.d (.list xs))) : ev Γ (.bi .len [(.var i)]) env = some (.v (.d (.int (xs.length : Int))), env) := by
  rcases h with h | h
  · exact len_evR (ev_ali h) (by simp [cur, h, valD])
  · exact len_evR (ev_var h) cur_v
theorem idx_var {i : Nat} {b : ME} {xs : List D} {y z : D} (h : rd env i = some (.own xs) ∨ rd env i = some (.d (.list xs))) (k : ev Γ b env = some (.v (.d y), env)) (hz : idxD (.list xs) y = some z) : ev Γ (.idx (.var i) b) env = some (.v (.d z), env) := by
  rcases h with h | h
  · exact ev_idxA h k hz
  · exact ev_idxV (ev_var h) k hz
end
theorem cmp_neB {p q : Bool} : cmpD .ne (.bool p) (.bool q) = some (p != q) := by
  rw [cmp_ne ok_bool ok_bool, eqv_bool]
  cases p <;> cases q <;> rfl
theorem ge_nat {a b : Nat} : cmpD .ge (.int (a : Int)) (.int (b : Int)) = some (decide (b ≤ a)) := by
  simp only [cmpD, Option.some.injEq]; exact decide_eq_decide.mpr (by omega)
theorem gt_nat {a b : Nat} : cmpD .gt (.int (a : Int)) (.int (b : Int)) = some (decide (b < a)) := by
  simp only [cmpD, Option.some.injEq]; exact decide_eq_decide.mpr (by omega)
theorem le_nat {a b : Nat} : cmpD .le (.int (a : Int)) (.int (b : Int)) = some (decide (a ≤ b)) := by
  simp only [cmpD, Option.some.injEq]; exact decide_eq_decide.mpr (by omega)
theorem lt_nat {a b : Nat} : cmpD .lt (.int (a : Int)) (.int (b : Int)) = some (decide (a < b)) := by
  simp only [cmpD, Option.some.injEq]; exact decide_eq_decide.mpr (by omega)
theorem eq_nat {a b : Nat} : cmpD .eq (.int (a : Int)) (.int (b : Int)) = some (decide (a = b)) := by
  rw [cmp_eq ok_int ok_int, eqv_int]; exact congrArg some (decide_eq_decide.mpr (by omega))
theorem ne_nat {a b : Nat} : cmpD .ne (.int (a : Int)) (.int (b : Int)) = some (!decide (a = b)) := by
  rw [cmp_ne ok_int ok_int, eqv_int]; exact congrArg (fun z => some (!z)) (decide_eq_decide.mpr (by omega))
theorem mem_natsI {a : Int} {l : List Nat} : memD (.int a) (.list (nats l)) = some (l.any fun m => decide ((m : Int) = a)) := by
  unfold memD
  simp only [ok_int, ok_natL l, Bool.and_self, if_true, Option.some.injEq]
  unfold nats
  rw [List.any_map]
  simp only [Function.comp_def, eqv_int]
/-! least and greatest -/
theorem minB_nats (l : List Nat) : minB (nats l) = true := by
  unfold minB alikeB nats
  rw [Bool.and_eq_true]
  refine ⟨List.all_eq_true.mpr fun x hx => ?_, List.all_eq_true.mpr fun x hx => ?_⟩
  · obtain ⟨a, _, rfl⟩ := List.mem_map.mp hx
    rw [Bool.and_eq_true]
    refine ⟨List.all_eq_true.mpr fun y hy => ?_, ok_int⟩
    obtain ⟨b, _, rfl⟩ := List.mem_map.mp hy
    simp [W.alike]
  · obtain ⟨a, _, rfl⟩ := List.mem_map.mp hx
    rfl
theorem fold_min : ∀ (l : List Nat) (a : Nat), (l.map fun n : Nat => (n : Int)).foldl min (a : Int) = ((l.foldl min a : Nat) : Int)
  | [], a => rfl
  | x :: r, a => by
    rw [List.map_cons, List.foldl_cons, List.foldl_cons, show min (a : Int) (x : Int) = ((min a x : Nat) : Int) by omega, fold_min r (min a x)]
theorem fold_max : ∀ (l : List Nat) (a : Nat), (l.map fun n : Nat => (n : Int)).foldl max (a : Int) = ((l.foldl max a : Nat) : Int)
  | [], a => rfl
  | x :: r, a => by
    rw [List.map_cons, List.foldl_cons, List.foldl_cons, show max (a : Int) (x : Int) = ((max a x : Nat) : Int) by omega, fold_max r (max a x)]
theorem min_nats {l : List Nat} {m : Nat} (h : l.min? = some m) : biMin1 [.list (nats l)] = some (.d (.int (m : Int))) := by
  cases l with
  | nil => cases h
  | cons a r =>
    rw [List.min?_cons'] at h
    cases h
    have e : biMin1 [.list (nats (a :: r))] = if minB (nats (a :: r)) then some (.d (W.minD (.int (a : Int)) (nats r))) else none := rfl
    have e2 : nats r = (r.map fun n : Nat => (n : Int)).map PyData.int := by simp [nats]
    rw [e, minB_nats, if_pos rfl, e2, W.minD_ints, fold_min]
theorem max_nats {l : List Nat} {m : Nat} (h : l.max? = some m) : biMax1 [.list (nats l)] = some (.d (.int (m : Int))) := by
  cases l with
  | nil => cases h
  | cons a r =>
    rw [List.max?_cons'] at h
    cases h
    have e : biMax1 [.list (nats (a :: r))] = if minB (nats (a :: r)) then some (.d (W.maxD (.int (a : Int)) (nats r))) else none := rfl
    have e2 : nats r = (r.map fun n : Nat => (n : Int)).map PyData.int := by simp [nats]
    rw [e, minB_nats, if_pos rfl, e2, W.maxD_ints, fold_max]
theorem min_some {l : List Nat} (h : l ≠ []) : ∃ m, l.min? = some m ∧ m ∈ l ∧ ∀ x ∈ l, m ≤ x := by
  cases e : l.min? with
  | none => exact absurd (List.min?_eq_none_iff.mp e) h
  | some m => exact ⟨m, rfl, (List.min?_eq_some_iff.mp e).1, (List.min?_eq_some_iff.mp e).2⟩
theorem max_some {l : List Nat} (h : l ≠ []) : ∃ m, l.max? = some m ∧ m ∈ l ∧ ∀ x ∈ l, x ≤ m := by
  cases e : l.max? with
  | none => exact absurd (List.max?_eq_none_iff.mp e) h
  | some m => exact ⟨m, rfl, (List.max?_eq_some_iff.mp e).1, (List.max?_eq_some_iff.mp e).2⟩
theorem bi1_var {Γ : Ctx} {env : Env} {b : Bi} {i : Nat} {xs : List D} {w : Val} (h : rd env i = some (.own xs) ∨ rd env i = some (.d (.list xs))) (hw : biD b [.list xs] = some w) : ev Γ (.bi b [(.var i)]) env = some (.v w, env) := by
  rcases h with h | h
  · rw [ev, evL, ev_ali h, Option.bind_some]
    have hc : cur env (.ali i) = some (.list xs) := by simp [cur, h, valD]
    simp only [evL, Option.map_some, Option.bind_some, curs, hc, hw]
  · rw [ev, evL, ev_var h, Option.bind_some]
    simp only [evL, Option.map_some, Option.bind_some, curs, cur_v, hw]
/-! loops that go on or tell the first -/
def fsI {α : Type} (res : Nat → α → Option D) : Nat → List α → Option D
  | _, [] => none
  | i, a :: r => match res i a with
    | some d => some d
    | none => fsI res (i + 1) r
def fsE (J : Env → Prop) : Option D → Res → Prop
  | some d, r => ∃ e, r = .rt (.v (.d d)) e
  | none, r => ∃ e, J e ∧ r = .nx e
theorem for_first {α : Type} {Γ : Ctx} {L lk : List Nat} {g : Option (Nat × List D)} {tg : Tg} {it : MI} {b : List MS} {env e1 : Env} {items : List D} (enc : Nat → α → D) (l : List α) (res : Nat → α → Option D) (J : Env → Prop)
    (hs : evI Γ it env = some (⟨items, lk, g⟩, e1)) (hi : ∀ i x, items[i]? = some x → ∃ a, l[i]? = some a ∧ x = enc i a) (hlen : items.length = l.length) (hg : ∀ e, J e → gOk g e) (h0 : J e1)
    (h : ∀ i a e, l[i]? = some a → J e → ∃ e2, bindT (lk ++ L) tg (enc i a) e = some e2 ∧ OK (evSs Γ (lk ++ L) b e2) (fsE J (res i a))) : OK (evS Γ L (.for_ tg it b) env) (fsE J (fsI res 0 l)) := by
  refine ok_for hs (fun i e => J e ∧ fsI res 0 l = fsI res i (l.drop i)) ⟨h0, rfl⟩ ?_ ?_
  · rintro i x e hx ⟨hJ, hf⟩
    obtain ⟨a, ha, rfl⟩ := hi i x hx
    obtain ⟨e2, b1, r, b2, b3⟩ := h i a e ha hJ
    refine ⟨hg e hJ, e2, b1, r, b2, ?_⟩
    rw [drop_at ha, fsI] at hf
    cases hr : res i a with
    | some d =>
      rw [hr] at b3 hf
      obtain ⟨e', rfl⟩ := b3
      show fsE J (fsI res 0 l) _
      rw [hf]
      exact ⟨e', rfl⟩
    | none =>
      rw [hr] at b3 hf
      obtain ⟨e', c1, rfl⟩ := b3
      exact ⟨c1, hf⟩
  · rintro e ⟨hJ, hf⟩
    have hf : fsI res 0 l = fsI res items.length (l.drop items.length) := hf
    rw [hlen, List.drop_length] at hf
    refine ⟨hg e hJ, ?_⟩
    rw [hf]
    exact ⟨e, hJ, rfl⟩
theorem fsI_none {α : Type} {res : Nat → α → Option D} : ∀ {l : List α} {i : Nat}, fsI res i l = none ↔ ∀ k a, l[k]? = some a → res (i + k) a = none
  | [], i => by simp [fsI]
  | a :: r, i => by
    rw [fsI]
    cases h : res i a with
    | some d =>
      refine ⟨(fun z => nomatch z), fun z => ?_⟩
      have := z 0 a rfl
      rw [Nat.add_zero, h] at this
      cases this
    | none =>
      simp only
      rw [fsI_none]
      constructor
      · intro z k b hb
        cases k with
        | zero => cases hb; exact h
        | succ k => rw [show i + (k + 1) = i + 1 + k by omega]; exact z k b hb
      · intro z k b hb
        rw [show i + 1 + k = i + (k + 1) by omega]
        exact z (k + 1) b hb
theorem fsI_congr {α β : Type} {res : Nat → α → Option D} {res' : Nat → β → Option D} : ∀ {l : List α} {l' : List β} {i j : Nat}, l.length = l'.length → (∀ k a b, l[k]? = some a → l'[k]? = some b → res (i + k) a = res' (j + k) b) → fsI res i l = fsI res' j l'
  | [], [], _, _, _, _ => rfl
  | [], b :: r', _, _, h, _ => by simp at h
  | a :: r, [], _, _, h, _ => by simp at h
  | a :: r, b :: r', i, j, h, k => by
    have h0 := k 0 a b rfl rfl
    rw [Nat.add_zero, Nat.add_zero] at h0
    rw [fsI, fsI, h0]
    have := fsI_congr (l := r) (l' := r') (i := i + 1) (j := j + 1) (by simpa using h) fun n x y hx hy => by
      have := k (n + 1) x y hx hy
      rw [show i + 1 + n = i + (n + 1) by omega, show j + 1 + n = j + (n + 1) by omega]
      exact this
    rw [this]
end Ev

namespace Ev
open PySem L2
def top (i : Nat) : Stmt := PySem.Challenge.pw_mailwright_k70_digests_judged.main.body.getD i (.Pass ⟨0, 0, 0, 0⟩)
abbrev sTake : Stmt := top 11
abbrev sState : Stmt := top 10
def mixP (c i : Int) : Int := ((c * 48271 + i * 69621) % 2147483647 * 16807 + i * 7919) % 1000000007 / 7
def gTake : List Val → Option (Val × List Val)
  | [.st i cs, .d (.int m)] => if 0 < m ∧ m < 1073741824 then (cs[(i % (cs.length : Int)).toNat]?).map fun c =>
      if 1000000000000000000 ≤ c then (.d (.int (c % m)), [.st i (cs.set (i % (cs.length : Int)).toNat (c / m)), .d (.int m)])
      else (.d (.int (mixP c (i + 1) % m)), [.st (i + 1) cs, .d (.int m)]) else none
  | _ => none
theorem ite_of_t {b : Bool} {p q : Prop} (e : b = true) (h : p) : if b = true then p else q := by rw [if_pos e]; exact h
theorem ite_of_f {b : Bool} {p q : Prop} (e : b = false) (h : q) : if b = true then p else q := by rw [e, if_neg Bool.false_ne_true]; exact h
theorem gTake_p {ws : List Val} {r : Val × List Val} (e : gTake ws = some r) : ∃ i cs m, ws = [.st i cs, .d (.int m)] := by
  unfold gTake at e
  split at e
  · exact ⟨_, _, _, rfl⟩
  · cases e
section
variable {P : Program} {w : World} {K : PySem.W.Frag} {mg : Str → Option Value} {base : Heap}
theorem scTake : FnScope ["state", "most", "cells", "at", "cell", "mixed"] ["state", "most"] (defScope sTake) := ⟨rfl, rfl, rfl, by decide +kernel, rfl, by decide +kernel, by decide +kernel⟩
theorem ok_take {f : Addr} {fd : FuncData} (F : Fun K "_law_take" "_law_take" sTake f fd) (hl : mg "len" = none) (hi : mg "int" = none) : FnOk P w K mg base CX0 1 f fd ["state", "most"] (spC K gTake) := by
  refine F.ok scTake (fun vs H Q E h => ?_) (fun cdv A outer s H vs Q E hr h => ?_)
  · obtain ⟨S, ws, w0, ws', e0, e1, _⟩ := h
    obtain ⟨i, cs, m, rfl⟩ := gTake_p e1
    obtain ⟨a, c, rfl, _⟩ := st_args e0
    rfl
  · refine ⟨_, pss_cons (ps_set (i := 2) scTake.nd rfl (Or.inl rfl) (pe_ix ix_list (pv 0) pe_int (plainIx rfl)))
      (pss_cons (ps_set (i := 3) scTake.nd rfl (Or.inl rfl) (pe_op op_mod (pe_ix ix_list (pv 0) pe_int (plainIx rfl)) (pe_callB call_len_seq (by rfl) hl PySem.boot_len (pa_cons (pv 2) pa_nil))))
      (pss_cons (ps_set (i := 4) scTake.nd rfl (Or.inl rfl) (pe_ix ix_list (pv 2) (pv 3) (plainIx rfl)))
      (pss_cons (ps_if (pt_cmpR op_ge (pv 4) pe_int (nomark _))
        (pss_cons (ps_asg (pe_op op_fdiv (pv 4) (pv 1)) (pg_sub (pv 2) (pv 3) set_list (sub_asg rfl)) rfl rfl rfl) (pss_one (ps_ret (pe_op op_mod (pv 4) (pv 1))))) pss_nil)
      (pss_cons (ps_asg (pe_op op_add (pe_ix ix_list (pv 0) pe_int (plainIx rfl)) pe_int) (pg_sub (pv 0) pe_int set_list (sub_asg rfl)) rfl rfl rfl)
      (pss_cons (ps_set (i := 5) scTake.nd rfl (Or.inl rfl) (pe_op op_mod (pe_callTy call_int1 (by rfl) hi (by decide +kernel) (pa_cons (pe_op op_add (pe_op op_mul (pv 4) pe_int) (pe_op op_mul (pe_ix ix_list (pv 0) pe_int (plainIx rfl)) pe_int)) pa_nil)) pe_int))
      (pss_cons (ps_set (i := 5) scTake.nd rfl (Or.inl rfl) (pe_op op_mod (pe_callTy call_int1 (by rfl) hi (by decide +kernel) (pa_cons (pe_op op_add (pe_op op_mul (pv 5) pe_int) (pe_op op_mul (pe_ix ix_list (pv 0) pe_int (plainIx rfl)) pe_int)) pa_nil)) pe_int))
      (pss_one (ps_ret (pe_op op_mod (pe_op op_fdiv (pv 5) pe_int) (pv 1)))))))))), ?_⟩
    obtain ⟨S, ws, w0, ws', e0, e1, q⟩ := h
    obtain ⟨i, cs, m, rfl⟩ := gTake_p e1
    obtain ⟨a, c, rfl, ha, hc, h1, h2, hac⟩ := st_args e0
    have e1 : (if 0 < m ∧ m < 1073741824 then (cs[(i % (cs.length : Int)).toNat]?).map fun c =>
      if 1000000000000000000 ≤ c then ((.d (.int (c % m)) : Val), [Val.st i (cs.set (i % (cs.length : Int)).toNat (c / m)), .d (.int m)])
      else (.d (.int (mixP c (i + 1) % m)), [.st (i + 1) cs, .d (.int m)]) else none) = some (w0, ws') := e1
    obtain ⟨⟨hm0, hm1⟩, e1⟩ := (Option.ite_none_right_eq_some ..).mp e1
    obtain ⟨x, hx, e1⟩ := Option.map_eq_some_iff.mp e1
    have hlen : 0 < (cs.length : Int) := by
      have := (List.getElem?_eq_some_iff.mp hx).1
      omega
    generalize hj : (i % (cs.length : Int)).toNat = j at hx e1
    have hij : i % (cs.length : Int) = (j : Int) := by
      have := Int.emod_nonneg i (Int.ne_of_gt hlen)
      omega
    have hv : (cs.map V.int)[j]? = some (V.int x) := by rw [List.getElem?_map, hx]; rfl
    have hjl : ixN (cs.map V.int).length (j : Int) = some j := by
      have := (List.getElem?_eq_some_iff.mp hv).1
      unfold ixN
      rw [if_pos (by omega), if_pos (by omega)]
      rfl
    refine ⟨_, rfl, a, _, 1, .ref c, rfl, rfl, SqL.of h1, rfl, ?_⟩
    refine ⟨_, rfl, a, _, 0, .int i, rfl, rfl, SqL.of h1, rfl, ?_⟩
    refine ⟨_, rfl, c, _, rfl, .inl (SqL.of h2), i, _, rfl, rfl, by rw [List.length_map]; exact hlen, ?_⟩
    have hyj : V.int (i % ((cs.map V.int).length : Int)) = V.int (j : Int) := by rw [List.length_map, hij]
    refine ⟨_, rfl, _, rfl, c, _, (j : Int), .int x, rfl, hyj, SqL.of h2, atI_nat hv, ?_⟩
    refine ⟨_, rfl, x, _, rfl, rfl, _, rfl, ?_⟩
    by_cases hx18 : 1000000000000000000 ≤ x
    · rw [if_pos hx18] at e1
      cases e1
      have d2 := (st_back (m := m) (i' := i) (cs' := cs.set j (x / m)) (H' := upd H c (.lst ((cs.map V.int).set j (.int (x / m))))) e0 ha hc h1 h2 (by rw [upd_ne hac]; exact h1) (by rw [upd_same, List.map_set]) fun b n1 n2 => upd_ne n2)
      refine ite_of_t (decide_eq_true hx18) ?_
      refine ⟨_, rfl, _, rfl, x, m, rfl, rfl, ⟨hm0, hm1⟩, _, rfl, _, rfl, c, _, _, j, rfl, hyj, h2, hjl, ?_⟩
      refine ⟨_, rfl, _, rfl, x, m, rfl, rfl, hm0, ?_⟩
      exact q _ S _ d2.1 d2.2.1 d2.2.2 (.int _) fun b z => z.elim
    · rw [if_neg hx18] at e1
      cases e1
      have d2 := (st_back (m := m) (i' := i + 1) (cs' := cs) (H' := upd H a (.lst [.int (i + 1), .ref c])) e0 ha hc h1 h2 upd_same (by rw [upd_ne hac.symm]; exact h2) fun b n1 n2 => upd_ne n1)
      have l1 : SqL K (upd H a (.lst [.int (i + 1), .ref c])) a [.int (i + 1), .ref c] := SqL.of upd_same
      refine ite_of_f (decide_eq_false hx18) ?_
      refine ⟨_, rfl, a, _, 0, .int i, rfl, rfl, SqL.of h1, rfl, i, 1, rfl, rfl, _, rfl, a, _, 0, 0, rfl, rfl, h1, rfl, ?_⟩
      have cm : ∀ {x y : Int}, (-(2 ^ 64) < y ∧ y < 2 ^ 64) → CMul x y := fun h => .inr h
      refine ⟨_, rfl, x, _, rfl, rfl, cm (by decide), _, rfl, a, _, 0, .int (i + 1), rfl, rfl, l1, rfl, i + 1, _, rfl, rfl, cm (by decide), _, _, rfl, rfl, .inl ⟨_, rfl, _, _, rfl, rfl, (by show (0 : Int) < 2147483647; decide), ?_⟩⟩
      refine ⟨_, rfl, _, _, rfl, rfl, cm (by decide), _, rfl, a, _, 0, .int (i + 1), rfl, rfl, l1, rfl, i + 1, _, rfl, rfl, cm (by decide), _, _, rfl, rfl, .inl ⟨_, rfl, _, _, rfl, rfl, (by show (0 : Int) < 1000000007; decide), ?_⟩⟩
      refine ⟨_, rfl, _, _, rfl, rfl, ⟨by decide, by decide⟩, _, rfl, _, _, rfl, rfl, hm0, ?_⟩
      exact q _ S _ d2.1 d2.2.1 d2.2.2 (.int _) fun b z => z.elim
end
def cellsOf (ns : List Int) : List Int := if ns.length = 0 then [0] else ns.map fun x => if x < 0 then -x else x
def gState : List Val → Option (Val × List Val)
  | [.scr ns] => if ns.length ≤ 63 then some (.st 0 (cellsOf ns), [.scr ns]) else none
  | _ => none
theorem gState_p {ws : List Val} {r : Val × List Val} (e : gState ws = some r) : ∃ ns, ws = [.scr ns] ∧ ns.length ≤ 63 ∧ r = (.st 0 (cellsOf ns), [.scr ns]) := by
  unfold gState at e
  split at e
  · obtain ⟨h, e⟩ := (Option.ite_none_right_eq_some ..).mp e
    cases e
    exact ⟨_, rfl, h, rfl⟩
  · cases e
theorem scr_args {K : PySem.W.Frag} {S H : Hp} {vs : List V} {ns : List Int} (e0 : RepEnv K S H (vs.map some) ([.scr ns].map some)) : ∃ a, vs = [.ref a] ∧ SqZ K S a (ns.map V.int) := by
  have hl := e0.len
  simp only [List.length_map, List.length_cons, List.length_nil] at hl
  obtain ⟨v0, rfl⟩ : ∃ v0, vs = [v0] := by
    match vs, hl with
    | [v0], _ => exact ⟨v0, rfl⟩
  obtain ⟨x0, g0, a, rfl, h1⟩ := e0.get 0 (.scr ns) rfl
  have g0 : some v0 = some (V.ref a) := g0
  cases g0
  exact ⟨a, rfl, h1⟩
theorem scr_roots {H : Hp} {a b : Addr} {ns : List Int} : ¬ Roots H ([V.ref a].map some) ([.scr ns].map some) b := by
  rintro ⟨j, w, v, e1, e2, e3⟩
  match j, e1 with
  | 0, e1 =>
    have e : some (Val.scr ns) = some w := e1
    cases e
    exact e3
  | j + 1, e1 =>
    have e : none = some w := e1
    cases e
theorem scr_back {K : PySem.W.Frag} {S H H' : Hp} {a : Addr} {ns : List Int} (e0 : RepEnv K S H ([V.ref a].map some) ([.scr ns].map some)) (h : Same H H') :
    Step (Roots H ([V.ref a].map some) ([.scr ns].map some)) S H S H' ∧ RepEnv K S H' ([V.ref a].map some) ([.scr ns].map some) :=
  ⟨⟨Same.refl S, e0.same.trans h, fun b o e _ => h b o e, fun b e => .inl e, fun b e => by
    cases q : H b with
    | none => exact absurd q e
    | some o => rw [h b o q]; simp⟩, (e0.grow (Same.refl S) (e0.same.trans h) h fun b e => .inl e).1⟩
theorem cut63 {vs : List V} (h : vs.length ≤ 63) : cutV vs none (some 63) = vs := by
  unfold cutV
  rw [HT.sIx_none, show (some (63 : Int)) = some ((63 : Nat) : Int) from rfl, HT.sIx_nat, Nat.min_eq_right h, List.drop_zero, Nat.sub_zero, List.take_length]
def absI (x : Int) : Int := if x < 0 then -x else x
section
variable {P : Program} {w : World} {K : PySem.W.Frag} {mg : Str → Option Value} {base : Heap}
theorem scState : FnScope ["script", "cells", "cell"] ["script"] (defScope sState) := ⟨rfl, rfl, rfl, by decide +kernel, rfl, by decide +kernel, by decide +kernel⟩
theorem ok_state {f : Addr} {fd : FuncData} (F : Fun K "_law_state" "_law_state" sState f fd) (hl : mg "len" = none) (hi : mg "abs" = none) : FnOk P w K mg base CX0 1 f fd ["script"] (spC K gState) := by
  refine F.ok scState (fun vs H Q E h => ?_) (fun cdv A outer s H vs Q E hr h => ?_)
  · obtain ⟨S, ws, w0, ws', e0, e1, _⟩ := h
    obtain ⟨ns, rfl, _⟩ := gState_p e1
    obtain ⟨a, rfl, _⟩ := scr_args e0
    rfl
  · refine ⟨_, pss_cons (ps_setLc (i := 1) (own := [("cell", 2)]) (g := gName 2) (tt := tYes) (by rfl) scState.nd rfl rfl (sw_true rfl rfl rfl (by decide +kernel)) (pi_list (pe_slice sl_list (pv 0) po_none (po_some pe_int))) (blkOk_by (own := [("cell", 2)]) (N := ["script", "cells", "cell"]) (sc := defScope sState) (by decide +kernel)) (fun _ _ _ _ _ => pg_name (i := 2) scState.nd rfl (Or.inl rfl)) (fun _ _ _ _ _ => pts_nil) (fun _ _ _ _ _ => pe_callB call_abs (by rfl) hi (by decide +kernel) (pa_cons (pv 2) pa_nil)))
      (pss_cons (ps_if (pt_cmpR op_eq (pe_callB call_len_seq (by rfl) hl PySem.boot_len (pa_cons (pv 1) pa_nil)) pe_int (nomark _)) (pss_one (ps_set (i := 1) scState.nd rfl (Or.inl rfl) (pe_lst (pa_cons pe_int pa_nil)))) pss_nil)
      (pss_one (ps_ret (pe_lst (pa_cons pe_int (pa_cons (pv 1) pa_nil)))))), ?_⟩
    obtain ⟨S, ws, w0, ws', e0, e1, q⟩ := h
    obtain ⟨ns, rfl, hlen, e1⟩ := gState_p e1
    cases e1
    obtain ⟨a, rfl, hz⟩ := scr_args e0
    have hn : (ns.map V.int).length ≤ 63 := by simpa using hlen
    have hsq : SqL K H a (ns.map V.int) := (sqZ_mono (fun b o z _ => e0.same b o z) hz).sq
    refine ⟨_, rfl, ⟨63, rfl, a, _, rfl, hsq, fun p hp => ?_⟩⟩
    have sp : Same H (upd H p (.lst (cutV (ns.map V.int) none (some 63)))) := upd_same_of hp
    have hpx : (upd H p (.lst (cutV (ns.map V.int) none (some 63)))) p = some (.lst (ns.map V.int)) := by rw [upd_same, cut63 hn]
    generalize upd H p (.lst (cutV (ns.map V.int) none (some 63))) = H1 at sp hpx
    refine ⟨p, rfl, ⟨_, SqL.of hpx⟩, fun D hD => ?_⟩
    have hpD : p ≠ D := fun z => by rw [z, hD] at hpx; cases hpx
    have fin : ∀ (H3 : Hp) (D3 : Addr), Same H H3 → H3 D3 = some (.lst ((cellsOf ns).map V.int)) → H D3 = none → ∀ z, H3 z = none → Q (.ref z) (upd H3 z (.lst [.int 0, .ref D3])) := fun H3 D3 hs h3 hd z hz3 => by
      have s3 : Same H (upd H3 z (.lst [.int 0, .ref D3])) := hs.trans (upd_same_of hz3)
      obtain ⟨k1, k2⟩ := scr_back e0 s3
      have hzn : H z = none := hs.free hz3
      have hzD : D3 ≠ z := fun e => by rw [e, hz3] at h3; cases h3
      refine q _ S _ k1 k2 (fun b hb => absurd hb scr_roots) ⟨z, D3, rfl, e0.same.free hzn, e0.same.free hd, upd_same, by rw [upd_ne hzD]; exact h3⟩ fun b hb => ⟨?_, scr_roots⟩
      rcases hb with e | ⟨a', x, e, e2⟩
      · cases e; exact hzn
      · cases e
        rw [upd_same] at e2
        cases e2
        exact hd
    refine ⟨fun i m H2 => m = ns.length - i ∧ i ≤ ns.length ∧ Same H1 H2 ∧ H2 D = some (.lst (((ns.take i).map absI).map V.int)), ⟨_, rfl, Nat.zero_le _, upd_same_of hD, upd_same⟩, ?_⟩
    rintro i m H2 ⟨rfl, hi, hs, hDD⟩
    have hp2 := hs _ _ hpx
    by_cases hlt : i < ns.length
    · have hget : (ns.map V.int)[i]? = some (V.int ns[i]) := by rw [List.getElem?_map, List.getElem?_eq_getElem hlt]; rfl
      refine .inr ⟨⟨_, _, SqL.of hp2, hget⟩, fun H2 => ∃ m', m' < ns.length - i ∧ m' = ns.length - (i + 1) ∧ i + 1 ≤ ns.length ∧ Same H1 H2 ∧ H2 D = some (.lst (((ns.take (i + 1)).map absI).map V.int)), fun H' z => z, fun x H' hy => ?_⟩
      obtain ⟨rfl, hy⟩ := hy
      have hx := hy _ (SqL.of hp2)
      rw [hget] at hx
      cases hx
      refine ⟨rfl, ?_⟩
      refine ⟨_, rfl, _, rfl, _, hDD, by rw [List.length_map, List.length_map, List.length_take]; exact small1000 (by omega), ns.length - (i + 1), by omega, rfl, hlt, ?_, ?_⟩
      · exact fun b o e => by rw [upd_ne (ne_of_none e hD)]; exact hs b o e
      · rw [upd_same, List.take_add_one, List.getElem?_eq_getElem hlt, List.map_append, List.map_append]
        rfl
    · refine .inl ⟨⟨_, SqL.of hp2, by rw [List.length_map]; omega⟩, ?_⟩
      have hfin : H2 D = some (.lst ((ns.map absI).map V.int)) := by rw [hDD, List.take_of_length_le (by omega)]
      refine ⟨_, rfl, D, _, rfl, .inl (SqL.of hfin), rfl, _, rfl, ?_⟩
      have hHD : H D = none := sp.free hD
      by_cases h0 : ns.length = 0
      · refine ite_of_t (by rw [List.length_map, List.length_map, h0]; rfl) ?_
        refine ⟨by decide, fun D2 hD2 => ?_⟩
        refine ⟨_, rfl, (by show 2 ≤ sizeLine; decide), fun z hz3 => fin (upd H2 D2 (.lst [.int 0])) D2 ((sp.trans hs).trans (upd_same_of hD2)) (by rw [upd_same]; unfold cellsOf; rw [if_pos h0]; rfl) ((sp.trans hs).free hD2) z hz3⟩
      · refine ite_of_f ?_ ?_
        · rw [List.length_map, List.length_map]
          refine decide_eq_false fun e => h0 ?_
          injection e with e
          omega
        · exact ⟨_, rfl, (by show 2 ≤ sizeLine; decide), fun z hz3 => fin H2 D (sp.trans hs) (by rw [hfin]; unfold cellsOf; rw [if_neg h0]; rfl) hHD z hz3⟩
end

/-- is_quiet -/
def n0 : List Str := ["quiet", "minute", "day", "now", "start", "end"]
def b0 : List MS := [
  .asg (.nm 3) (.bin .md (.var 1) (.var 2)),
  .ret (.bi .any [(.lc (.ite (.cmp .lt (.var 4) (.var 5)) (.chain .le .lt (.var 4) (.var 3) (.var 5)) (.orE (.cmp .ge (.var 3) (.var 4)) (.cmp .lt (.var 3) (.var 5)))) (.tup [(.nm 4), (.nm 5)]) (.seq (.var 0)) (.con (.bool true)) [4, 5])])]
/-- minutes_for -/
def n1 : List Str := ["letters", "wait", "quiet", "day", "found", "come", "minute"]
def b1 : List MS := [
  .asg (.nm 4) (.lst []),
  .for_ (.nm 5) (.seq (.var 0)) [.ext 4 (.lc (.var 6) (.nm 6) (.rng [(.var 5), (.bin .add (.bin .add (.var 5) (.var 1)) (.con (.int 1)))]) (.notE (.call 0 [(.var 2), (.var 6), (.var 3)])) [6])],
  .ret (.sset (.var 4))]
/-- passed -/
def n2 : List Str := ["letters", "wait", "last", "minute", "at", "come"]
def b2 : List MS := [
  .for_ (.tup [(.nm 4), (.nm 5)]) (.enum (.var 0)) [.ifs (.andE (.cmp .gt (.var 5) (.var 2)) (.cmp .lt (.bin .add (.var 5) (.var 1)) (.var 3))) [.ret (.var 4)] []],
  .ret (.con .none)]
/-- digests -/
def n3 : List Str := ["letters", "wait", "gap", "quiet", "day", "minutes", "table", "ends", "at", "found", "able", "minute", "one"]
def b3 : List MS := [
  .asg (.nm 5) (.call 1 [(.var 0), (.var 1), (.var 3), (.var 4)]),
  .asg (.nm 6) (.call 5 [(.var 0), (.var 1), (.var 2), (.var 5)]),
  .ifs (.notE (.var 0)) [.ret (.tup [(.con (.str "digests")), (.lst []), (.var 6)])] [],
  .asg (.nm 7) (.lc (.var 8) (.tup [(.nm 8), (.nm 11)]) (.enum (.var 5)) (.andE (.cmp .notN (.idx (.var 6) (.var 8)) (.con .none)) (.cmp .ge (.var 11) (.bi .max1 [(.var 0)]))) [8, 11]),
  .ifs (.notE (.var 7)) [.ret (.tup [(.con (.str "never")), (.var 6)])] [],
  .asg (.nm 8) (.idx (.bi .min1 [(.lc (.tup [(.idx (.var 6) (.var 8)), (.var 8)]) (.nm 8) (.seq (.var 7)) (.con (.bool true)) [8])]) (.con (.int 1))),
  .asg (.nm 9) (.lst []),
  .whl (.cmp .notN (.var 8) (.con .none)) [.asg (.nm 9) (.bin .add (.lst [(.idx (.var 5) (.var 8))]) (.var 9)), .asg (.nm 10) (.lc (.var 12) (.nm 12) (.rng [(.var 8)]) (.andE (.call 4 [(.var 0), (.var 1), (.var 2), (.var 5), (.var 12), (.var 8)]) (.cmp .notN (.idx (.var 6) (.var 12)) (.con .none))) [12]), .asg (.nm 10) (.lc (.var 12) (.nm 12) (.seq (.var 10)) (.cmp .eq (.bin .add (.idx (.var 6) (.var 12)) (.con (.int 1))) (.idx (.var 6) (.var 8))) [12]), .asg (.nm 8) (.ite (.cmp .gt (.idx (.var 6) (.var 8)) (.con (.int 1))) (.idx (.var 10) (.con (.int 0))) (.con .none))],
  .ret (.tup [(.con (.str "digests")), (.var 9), (.var 6)])]
/-- follows -/
def n4 : List Str := ["letters", "wait", "gap", "minutes", "one", "other"]
def b4 : List MS := [
  .ret (.andE (.cmp .ge (.bin .sub (.idx (.var 3) (.var 5)) (.idx (.var 3) (.var 4))) (.var 2)) (.cmp .isN (.call 2 [(.var 0), (.var 1), (.idx (.var 3) (.var 4)), (.idx (.var 3) (.var 5))]) (.con .none)))]
/-- table_for -/
def n5 : List Str := ["letters", "wait", "gap", "minutes", "found", "at", "minute", "able", "rows", "one"]
def b5 : List MS := [
  .asg (.nm 4) (.lst []),
  .for_ (.tup [(.nm 5), (.nm 6)]) (.enum (.var 3)) [.asg (.nm 7) (.lc (.var 9) (.nm 9) (.rng [(.var 5)]) (.call 4 [(.var 0), (.var 1), (.var 2), (.var 3), (.var 9), (.var 5)]) [9]), .asg (.nm 8) (.lc (.bin .add (.idx (.var 4) (.var 9)) (.con (.int 1))) (.nm 9) (.seq (.var 7)) (.cmp .notN (.idx (.var 4) (.var 9)) (.con .none)) [9]), .ifs (.cmp .isN (.call 2 [(.var 0), (.var 1), (.neg (.con (.int 1))), (.var 6)]) (.con .none)) [.app 8 (.con (.int 1))] [], .app 4 (.ite (.var 8) (.bi .min1 [(.var 8)]) (.con .none))],
  .ret (.var 4)]
/-- digests_fault -/
def n6 : List Str := ["letters", "wait", "gap", "quiet", "day", "told", "minutes", "table", "at", "ends", "able", "rows", "minute", "one"]
def b6 : List MS := [
  .asg (.nm 6) (.call 1 [(.var 0), (.var 1), (.var 3), (.var 4)]),
  .asg (.nm 7) (.idx (.var 5) (.neg (.con (.int 1)))),
  .ifs (.cmp .ne (.bi .len [(.var 7)]) (.bi .len [(.var 6)])) [.ret (.tup [(.con (.str "table"))])] [],
  .for_ (.nm 8) (.rng [(.bi .len [(.var 6)])]) [.asg (.nm 10) (.lc (.var 13) (.nm 13) (.rng [(.var 8)]) (.call 4 [(.var 0), (.var 1), (.var 2), (.var 6), (.var 13), (.var 8)]) [13]), .asg (.nm 11) (.lc (.bin .add (.idx (.var 7) (.var 13)) (.con (.int 1))) (.nm 13) (.seq (.var 10)) (.cmp .notN (.idx (.var 7) (.var 13)) (.con .none)) [13]), .ifs (.cmp .isN (.call 2 [(.var 0), (.var 1), (.neg (.con (.int 1))), (.idx (.var 6) (.var 8))]) (.con .none)) [.app 11 (.con (.int 1))] [], .ifs (.cmp .ne (.cmp .isN (.idx (.var 7) (.var 8)) (.con .none)) (.notE (.var 11))) [.ret (.tup [(.con (.str "none")), (.var 8)])] [], .ifs (.andE (.var 11) (.cmp .gt (.idx (.var 7) (.var 8)) (.bi .min1 [(.var 11)]))) [.ret (.tup [(.con (.str "cost")), (.var 8)])] []],
  .asg (.nm 9) (.lc (.idx (.var 7) (.var 8)) (.tup [(.nm 8), (.nm 12)]) (.enum (.var 6)) (.andE (.cmp .notN (.idx (.var 7) (.var 8)) (.con .none)) (.cmp .ge (.var 12) (.bi .max1 [(.var 0)]))) [8, 12]),
  .ifs (.cmp .eq (.idx (.var 5) (.con (.int 0))) (.con (.str "never"))) [.ret (.ite (.andE (.var 0) (.notE (.var 9))) (.con .none) (.tup [(.con (.str "ends"))]))] [],
  .ret (.call 7 [(.var 0), (.var 1), (.var 2), (.var 6), (.var 9), (.idx (.var 5) (.con (.int 1)))])]
/-- found_fault -/
def n7 : List Str := ["letters", "wait", "gap", "minutes", "ends", "found", "place", "minute", "at", "come"]
def b7 : List MS := [
  .for_ (.tup [(.nm 6), (.nm 7)]) (.enum (.var 5)) [.ifs (.cmp .nmem (.var 7) (.var 3)) [.ret (.tup [(.con (.str "minute")), (.var 6)])] [], .ifs (.orE (.andE (.cmp .gt (.var 6) (.con (.int 0))) (.cmp .lt (.bin .sub (.var 7) (.idx (.var 5) (.bin .sub (.var 6) (.con (.int 1))))) (.var 2))) (.andE (.cmp .gt (.var 6) (.con (.int 0))) (.cmp .le (.var 7) (.idx (.var 5) (.bin .sub (.var 6) (.con (.int 1))))))) [.ret (.tup [(.con (.str "gap")), (.var 6)])] []],
  .for_ (.tup [(.nm 8), (.nm 9)]) (.enum (.var 0)) [.ifs (.notE (.bi .any [(.lc (.chain .le .le (.var 9) (.var 7) (.bin .add (.var 9) (.var 1))) (.nm 7) (.seq (.var 5)) (.con (.bool true)) [7])])) [.ret (.tup [(.con (.str "letter")), (.var 8)])] []],
  .ret (.ite (.orE (.andE (.notE (.var 0)) (.notE (.var 5))) (.andE (.var 4) (.cmp .le (.bi .len [(.var 5)]) (.bi .min1 [(.var 4)])))) (.con .none) (.tup [(.con (.str "more"))]))]
/-- _law_scene -/
def n10 : List Str := ["state", "most", "letters", "wait", "gap", "day", "quiet", "k"]
def b10 : List MS := [
  .asg (.nm 2) (.bi .sorted [(.lc (.call 9 [(.var 0), (.con (.int 20))]) (.nm 7) (.rng [(.call 9 [(.var 0), (.bin .add (.var 1) (.con (.int 1)))])]) (.con (.bool true)) [7])]),
  .par [3, 4] [(.call 9 [(.var 0), (.con (.int 8))]), (.bin .add (.con (.int 1)) (.call 9 [(.var 0), (.con (.int 6))]))],
  .asg (.nm 5) (.idx (.lst [(.con (.int 12)), (.con (.int 24))]) (.call 9 [(.var 0), (.con (.int 2))])),
  .asg (.nm 6) (.lc (.tup [(.call 9 [(.var 0), (.var 5)]), (.call 9 [(.var 0), (.var 5)])]) (.nm 7) (.rng [(.call 9 [(.var 0), (.con (.int 3))])]) (.con (.bool true)) [7]),
  .ret (.tup [(.var 2), (.var 3), (.var 4), (.var 6), (.var 5)])]
/-- _law_quiet -/
def n11 : List Str := ["quiet", "minute", "day", "now", "start", "end"]
def b11 : List MS := [
  .asg (.nm 3) (.bin .sub (.var 1) (.bin .mul (.bin .fdiv (.var 1) (.var 2)) (.var 2))),
  .for_ (.tup [(.nm 4), (.nm 5)]) (.seq (.var 0)) [.ifs (.orE (.andE (.cmp .lt (.var 4) (.var 5)) (.chain .le .lt (.var 4) (.var 3) (.var 5))) (.andE (.cmp .ge (.var 4) (.var 5)) (.orE (.cmp .ge (.var 3) (.var 4)) (.cmp .lt (.var 3) (.var 5))))) [.ret (.con (.bool true))] []],
  .ret (.con (.bool false))]
/-- _law_minutes -/
def n12 : List Str := ["letters", "wait", "quiet", "day", "minute", "come"]
def b12 : List MS := [
  .ret (.lc (.var 4) (.nm 4) (.rng [(.con (.int 40))]) (.andE (.notE (.call 11 [(.var 2), (.var 4), (.var 3)])) (.cmp .gt (.bi .len [(.lc (.var 5) (.nm 5) (.seq (.var 0)) (.chain .le .le (.var 5) (.var 4) (.bin .add (.var 5) (.var 1))) [5])]) (.con (.int 0)))) [4])]
/-- _law_passed -/
def n13 : List Str := ["letters", "wait", "last", "minute", "come"]
def b13 : List MS := [
  .ret (.cmp .gt (.bi .len [(.lc (.var 4) (.nm 4) (.seq (.var 0)) (.andE (.cmp .gt (.var 4) (.var 2)) (.cmp .lt (.bin .add (.var 4) (.var 1)) (.var 3))) [4])]) (.con (.int 0)))]
/-- _law_rows -/
def n14 : List Str := ["letters", "wait", "gap", "minutes", "table", "at", "rows", "one"]
def b14 : List MS := [
  .asg (.nm 6) (.ite (.notE (.call 13 [(.var 0), (.var 1), (.bin .sub (.con (.int 0)) (.con (.int 1))), (.idx (.var 3) (.var 5))])) (.lst [(.con (.int 1))]) (.lst [])),
  .for_ (.nm 7) (.rng [(.var 5)]) [.ifs (.andE (.cmp .ge (.bin .sub (.idx (.var 3) (.var 5)) (.idx (.var 3) (.var 7))) (.var 2)) (.andE (.notE (.call 13 [(.var 0), (.var 1), (.idx (.var 3) (.var 7)), (.idx (.var 3) (.var 5))])) (.cmp .notN (.idx (.var 4) (.var 7)) (.con .none)))) [.app 6 (.bin .add (.idx (.var 4) (.var 7)) (.con (.int 1)))] []],
  .ret (.var 6)]
/-- _law_fault -/
def n15 : List Str := ["letters", "wait", "gap", "quiet", "day", "told", "minutes", "table", "at", "ends", "found", "place", "rows", "minute"]
def b15 : List MS := [
  .asg (.nm 6) (.call 12 [(.var 0), (.var 1), (.var 3), (.var 4)]),
  .asg (.nm 7) (.idx (.var 5) (.neg (.con (.int 1)))),
  .ifs (.cmp .ne (.bi .len [(.var 7)]) (.bi .len [(.var 6)])) [.ret (.tup [(.con (.str "table"))])] [],
  .for_ (.nm 8) (.rng [(.bi .len [(.var 6)])]) [.asg (.nm 12) (.call 14 [(.var 0), (.var 1), (.var 2), (.var 6), (.var 7), (.var 8)]), .ifs (.cmp .ne (.cmp .isN (.idx (.var 7) (.var 8)) (.con .none)) (.cmp .eq (.bi .len [(.var 12)]) (.con (.int 0)))) [.ret (.tup [(.con (.str "none")), (.var 8)])] [], .ifs (.andE (.cmp .gt (.bi .len [(.var 12)]) (.con (.int 0))) (.cmp .gt (.idx (.var 7) (.var 8)) (.bi .min1 [(.var 12)]))) [.ret (.tup [(.con (.str "cost")), (.var 8)])] []],
  .asg (.nm 9) (.lc (.idx (.var 7) (.var 8)) (.nm 8) (.rng [(.bi .len [(.var 6)])]) (.andE (.cmp .notN (.idx (.var 7) (.var 8)) (.con .none)) (.cmp .ge (.idx (.var 6) (.var 8)) (.bi .max1 [(.var 0)]))) [8]),
  .ifs (.cmp .eq (.idx (.var 5) (.con (.int 0))) (.con (.str "never"))) [.ret (.ite (.andE (.cmp .gt (.bi .len [(.var 0)]) (.con (.int 0))) (.cmp .eq (.bi .len [(.var 9)]) (.con (.int 0)))) (.con .none) (.tup [(.con (.str "ends"))]))] [],
  .asg (.nm 10) (.idx (.var 5) (.con (.int 1))),
  .for_ (.nm 11) (.rng [(.bi .len [(.var 10)])]) [.ifs (.cmp .nmem (.idx (.var 10) (.var 11)) (.var 6)) [.ret (.tup [(.con (.str "minute")), (.var 11)])] [], .ifs (.andE (.cmp .gt (.var 11) (.con (.int 0))) (.cmp .lt (.bin .sub (.idx (.var 10) (.var 11)) (.idx (.var 10) (.bin .sub (.var 11) (.con (.int 1))))) (.var 2))) [.ret (.tup [(.con (.str "gap")), (.var 11)])] []],
  .for_ (.nm 8) (.rng [(.bi .len [(.var 0)])]) [.ifs (.cmp .eq (.bi .len [(.lc (.var 13) (.nm 13) (.seq (.var 10)) (.chain .le .le (.idx (.var 0) (.var 8)) (.var 13) (.bin .add (.idx (.var 0) (.var 8)) (.var 1))) [13])]) (.con (.int 0))) [.ret (.tup [(.con (.str "letter")), (.var 8)])] []],
  .ifs (.cmp .eq (.bi .len [(.var 0)]) (.con (.int 0))) [.ret (.ite (.cmp .eq (.bi .len [(.var 10)]) (.con (.int 0))) (.con .none) (.tup [(.con (.str "more"))]))] [],
  .ret (.ite (.andE (.cmp .gt (.bi .len [(.var 9)]) (.con (.int 0))) (.cmp .le (.bi .len [(.var 10)]) (.bi .min1 [(.var 9)]))) (.con .none) (.tup [(.con (.str "more"))]))]
/-- law -/
def n16 : List Str := ["script", "state", "letters", "wait", "gap", "quiet", "day", "kept", "told", "turn", "table", "found", "at", "kind", "word", "other"]
def b16 : List MS := [
  .asg (.nm 1) (.call 8 [(.var 0)]),
  .asg (.tup [(.nm 2), (.nm 3), (.nm 4), (.nm 5), (.nm 6)]) (.call 10 [(.var 1), (.con (.int 8))]),
  .asg (.nm 7) (.bi .repr [(.tup [(.var 2), (.var 5)])]),
  .asg (.nm 8) (.call 3 [(.var 2), (.var 3), (.var 4), (.var 5), (.var 6)]),
  .ifs (.orE (.cmp .notN (.call 15 [(.var 2), (.var 3), (.var 4), (.var 5), (.var 6), (.var 8)]) (.con .none)) (.cmp .notN (.call 6 [(.var 2), (.var 3), (.var 4), (.var 5), (.var 6), (.var 8)]) (.con .none))) [.ret (.con (.bool false))] [],
  .for_ (.nm 9) (.rng [(.con (.int 9))]) [.asg (.nm 10) (.bi .list [(.idx (.var 8) (.neg (.con (.int 1))))]), .asg (.nm 11) (.ite (.cmp .eq (.idx (.var 8) (.con (.int 0))) (.con (.str "digests"))) (.bi .list [(.idx (.var 8) (.con (.int 1)))]) (.bi .list [(.var 2)])), .asg (.nm 12) (.call 9 [(.var 1), (.bi .max2 [(.con (.int 1)), (.bi .len [(.var 11)])])]), .asg (.nm 13) (.call 9 [(.var 1), (.con (.int 7))]), .ifs (.cmp .eq (.var 13) (.con (.int 0))) [.asg (.nm 11) (.bin .add (.sli (.var 11) (.con .none) (.var 12)) (.sli (.var 11) (.bin .add (.var 12) (.con (.int 1))) (.con .none)))] [.ifs (.andE (.cmp .eq (.var 13) (.con (.int 1))) (.cmp .gt (.bi .len [(.var 11)]) (.con (.int 0)))) [.seti 11 (.var 12) (.bin .add (.idx (.var 11) (.var 12)) (.idx (.lst [(.con (.int 1)), (.bin .sub (.con (.int 0)) (.con (.int 1))), (.con (.int 5))]) (.call 9 [(.var 1), (.con (.int 3))])))] [.ifs (.cmp .eq (.var 13) (.con (.int 2))) [.asg (.nm 11) (.bi .sorted [(.bin .add (.var 11) (.lst [(.call 9 [(.var 1), (.con (.int 25))])]))])] [.ifs (.andE (.cmp .lt (.var 13) (.con (.int 5))) (.cmp .gt (.bi .len [(.var 10)]) (.con (.int 0)))) [.asg (.nm 12) (.call 9 [(.var 1), (.bi .len [(.var 10)])]), .seti 10 (.var 12) (.idx (.lst [(.con .none), (.con (.int 1)), (.con (.int 2)), (.con (.int 0))]) (.call 9 [(.var 1), (.con (.int 4))]))] [.ifs (.cmp .eq (.var 13) (.con (.int 5))) [.asg (.nm 10) (.bin .add (.sli (.var 10) (.con (.int 1)) (.con .none)) (.lst [(.con (.int 1)), (.con (.int 1))]))] []]]]], .asg (.nm 14) (.ite (.cmp .eq (.call 9 [(.var 1), (.con (.int 4))]) (.con (.int 0))) (.idx (.lst [(.con (.str "digests")), (.con (.str "never"))]) (.call 9 [(.var 1), (.con (.int 2))])) (.idx (.var 8) (.con (.int 0)))), .asg (.nm 15) (.ite (.cmp .eq (.var 14) (.con (.str "digests"))) (.tup [(.con (.str "digests")), (.var 11), (.var 10)]) (.tup [(.con (.str "never")), (.var 10)])), .ifs (.cmp .ne (.call 6 [(.var 2), (.var 3), (.var 4), (.var 5), (.var 6), (.var 15)]) (.call 15 [(.var 2), (.var 3), (.var 4), (.var 5), (.var 6), (.var 15)])) [.ret (.con (.bool false))] []],
  .ret (.cmp .eq (.bi .repr [(.tup [(.var 2), (.var 5)])]) (.var 7))]
def TT : List Fd := [.py 3 n0.length [] b0, .py 4 n1.length [] b1, .py 4 n2.length [] b2, .py 5 n3.length [] b3, .py 6 n4.length [] b4, .py 4 n5.length [] b5, .py 6 n6.length [] b6, .py 6 n7.length [] b7, .pr [] gState, .pr [0] gTake, .py 2 n10.length [0] b10, .py 3 n11.length [] b11, .py 4 n12.length [] b12, .py 4 n13.length [] b13, .py 6 n14.length [] b14, .py 6 n15.length [] b15, .py 1 n16.length [] b16]
def TB : Tab := ⟨["is_quiet", "minutes_for", "passed", "digests", "follows", "table_for", "digests_fault", "found_fault", "_law_state", "_law_take", "_law_scene", "_law_quiet", "_law_minutes", "_law_passed", "_law_rows", "_law_fault"], [], ["any", "range", "sorted", "set", "enumerate", "max", "min", "len", "repr", "list", "abs", "int"], false⟩
theorem s0 : FnScope n0 ["quiet", "minute", "day"] (defScope (top 1)) := ⟨rfl, rfl, rfl, by decide +kernel, rfl, by decide +kernel, by decide +kernel⟩
theorem k0 : okSs TB n0 (defScope (top 1)) b0 (defBody (top 1)) = true := by decide +kernel
theorem s1 : FnScope n1 ["letters", "wait", "quiet", "day"] (defScope (top 2)) := ⟨rfl, rfl, rfl, by decide +kernel, rfl, by decide +kernel, by decide +kernel⟩
theorem k1 : okSs TB n1 (defScope (top 2)) b1 (defBody (top 2)) = true := by decide +kernel
theorem s2 : FnScope n2 ["letters", "wait", "last", "minute"] (defScope (top 3)) := ⟨rfl, rfl, rfl, by decide +kernel, rfl, by decide +kernel, by decide +kernel⟩
theorem k2 : okSs TB n2 (defScope (top 3)) b2 (defBody (top 3)) = true := by decide +kernel
theorem s3 : FnScope n3 ["letters", "wait", "gap", "quiet", "day"] (defScope (top 4)) := ⟨rfl, rfl, rfl, by decide +kernel, rfl, by decide +kernel, by decide +kernel⟩
theorem k3 : okSs TB n3 (defScope (top 4)) b3 (defBody (top 4)) = true := by decide +kernel
theorem s4 : FnScope n4 ["letters", "wait", "gap", "minutes", "one", "other"] (defScope (top 5)) := ⟨rfl, rfl, rfl, by decide +kernel, rfl, by decide +kernel, by decide +kernel⟩
theorem k4 : okSs TB n4 (defScope (top 5)) b4 (defBody (top 5)) = true := by decide +kernel
theorem s5 : FnScope n5 ["letters", "wait", "gap", "minutes"] (defScope (top 6)) := ⟨rfl, rfl, rfl, by decide +kernel, rfl, by decide +kernel, by decide +kernel⟩
theorem k5 : okSs TB n5 (defScope (top 6)) b5 (defBody (top 6)) = true := by decide +kernel
theorem s6 : FnScope n6 ["letters", "wait", "gap", "quiet", "day", "told"] (defScope (top 7)) := ⟨rfl, rfl, rfl, by decide +kernel, rfl, by decide +kernel, by decide +kernel⟩
theorem k6 : okSs TB n6 (defScope (top 7)) b6 (defBody (top 7)) = true := by decide +kernel
theorem s7 : FnScope n7 ["letters", "wait", "gap", "minutes", "ends", "found"] (defScope (top 8)) := ⟨rfl, rfl, rfl, by decide +kernel, rfl, by decide +kernel, by decide +kernel⟩
theorem k7 : okSs TB n7 (defScope (top 8)) b7 (defBody (top 8)) = true := by decide +kernel
theorem s10 : FnScope n10 ["state", "most"] (defScope (top 12)) := ⟨rfl, rfl, rfl, by decide +kernel, rfl, by decide +kernel, by decide +kernel⟩
theorem k10 : okSs TB n10 (defScope (top 12)) b10 (defBody (top 12)) = true := by decide +kernel
theorem s11 : FnScope n11 ["quiet", "minute", "day"] (defScope (top 13)) := ⟨rfl, rfl, rfl, by decide +kernel, rfl, by decide +kernel, by decide +kernel⟩
theorem k11 : okSs TB n11 (defScope (top 13)) b11 (defBody (top 13)) = true := by decide +kernel
theorem s12 : FnScope n12 ["letters", "wait", "quiet", "day"] (defScope (top 14)) := ⟨rfl, rfl, rfl, by decide +kernel, rfl, by decide +kernel, by decide +kernel⟩
theorem k12 : okSs TB n12 (defScope (top 14)) b12 (defBody (top 14)) = true := by decide +kernel
theorem s13 : FnScope n13 ["letters", "wait", "last", "minute"] (defScope (top 15)) := ⟨rfl, rfl, rfl, by decide +kernel, rfl, by decide +kernel, by decide +kernel⟩
theorem k13 : okSs TB n13 (defScope (top 15)) b13 (defBody (top 15)) = true := by decide +kernel
theorem s14 : FnScope n14 ["letters", "wait", "gap", "minutes", "table", "at"] (defScope (top 16)) := ⟨rfl, rfl, rfl, by decide +kernel, rfl, by decide +kernel, by decide +kernel⟩
theorem k14 : okSs TB n14 (defScope (top 16)) b14 (defBody (top 16)) = true := by decide +kernel
theorem s15 : FnScope n15 ["letters", "wait", "gap", "quiet", "day", "told"] (defScope (top 17)) := ⟨rfl, rfl, rfl, by decide +kernel, rfl, by decide +kernel, by decide +kernel⟩
theorem k15 : okSs TB n15 (defScope (top 17)) b15 (defBody (top 17)) = true := by decide +kernel
theorem s16 : FnScope n16 ["script"] (defScope (top 18)) := ⟨rfl, rfl, rfl, by decide +kernel, rfl, by decide +kernel, by decide +kernel⟩
theorem k16 : okSs { TB with rp := true } n16 (defScope (top 18)) b16 (defBody (top 18)) = true := by decide +kernel
theorem all_ok {P : Program} {w : World} {K : PySem.W.Frag} {h : Heap} {mg : Str → Option Value} {f0 f1 f2 f3 f4 f5 f6 f7 f8 f9 f10 f11 f12 f13 f14 f15 f16 : Addr} (X : K.In h) (Gn : h.Ns mainGlobals mg)
    {od0 an0 od1 an1 od2 an2 od3 an3 od4 an4 od5 an5 od6 an6 od7 an7 od8 an8 od9 an9 od10 an10 od11 an11 od12 an12 od13 an13 od14 an14 od15 an15 od16 an16 : Option Addr} {sl0 sl1 sl2 sl3 sl4 sl5 sl6 sl7 sl8 sl9 sl10 sl11 sl12 sl13 sl14 sl15 sl16 : Array (Option Value)} {oc0 kV0 dc0 pm0 cd0 ct0 oc1 kV1 dc1 pm1 cd1 ct1 oc2 kV2 dc2 pm2 cd2 ct2 oc3 kV3 dc3 pm3 cd3 ct3 oc4 kV4 dc4 pm4 cd4 ct4 oc5 kV5 dc5 pm5 cd5 ct5 oc6 kV6 dc6 pm6 cd6 ct6 oc7 kV7 dc7 pm7 cd7 ct7 oc8 kV8 dc8 pm8 cd8 ct8 oc9 kV9 dc9 pm9 cd9 ct9 oc10 kV10 dc10 pm10 cd10 ct10 oc11 kV11 dc11 pm11 cd11 ct11 oc12 kV12 dc12 pm12 cd12 ct12 oc13 kV13 dc13 pm13 cd13 ct13 oc14 kV14 dc14 pm14 cd14 ct14 oc15 kV15 dc15 pm15 cd15 ct15 oc16 kV16 dc16 pm16 cd16 ct16 : Value}
    (a0 : PySem.W.nsIn K mainGlobals "is_quiet" = some (some (.ref f0))) (l0 : K.lookup f0 = some ⟨oc0, od0, .func (PySem.W.fnOf "is_quiet" "is_quiet" (defArgs (top 1)) (defBody (top 1)) (defScope (top 1)) .none kV0 dc0 pm0 an0 cd0 ct0), sl0⟩) (c0 : PySem.W.codeIn K cd0 "is_quiet" = true) (e0 : PySem.W.keepIn K (.ref f0) = true)
    (a1 : PySem.W.nsIn K mainGlobals "minutes_for" = some (some (.ref f1))) (l1 : K.lookup f1 = some ⟨oc1, od1, .func (PySem.W.fnOf "minutes_for" "minutes_for" (defArgs (top 2)) (defBody (top 2)) (defScope (top 2)) .none kV1 dc1 pm1 an1 cd1 ct1), sl1⟩) (c1 : PySem.W.codeIn K cd1 "minutes_for" = true) (e1 : PySem.W.keepIn K (.ref f1) = true)
    (a2 : PySem.W.nsIn K mainGlobals "passed" = some (some (.ref f2))) (l2 : K.lookup f2 = some ⟨oc2, od2, .func (PySem.W.fnOf "passed" "passed" (defArgs (top 3)) (defBody (top 3)) (defScope (top 3)) .none kV2 dc2 pm2 an2 cd2 ct2), sl2⟩) (c2 : PySem.W.codeIn K cd2 "passed" = true) (e2 : PySem.W.keepIn K (.ref f2) = true)
    (a3 : PySem.W.nsIn K mainGlobals "digests" = some (some (.ref f3))) (l3 : K.lookup f3 = some ⟨oc3, od3, .func (PySem.W.fnOf "digests" "digests" (defArgs (top 4)) (defBody (top 4)) (defScope (top 4)) .none kV3 dc3 pm3 an3 cd3 ct3), sl3⟩) (c3 : PySem.W.codeIn K cd3 "digests" = true) (e3 : PySem.W.keepIn K (.ref f3) = true)
    (a4 : PySem.W.nsIn K mainGlobals "follows" = some (some (.ref f4))) (l4 : K.lookup f4 = some ⟨oc4, od4, .func (PySem.W.fnOf "follows" "follows" (defArgs (top 5)) (defBody (top 5)) (defScope (top 5)) .none kV4 dc4 pm4 an4 cd4 ct4), sl4⟩) (c4 : PySem.W.codeIn K cd4 "follows" = true) (e4 : PySem.W.keepIn K (.ref f4) = true)
    (a5 : PySem.W.nsIn K mainGlobals "table_for" = some (some (.ref f5))) (l5 : K.lookup f5 = some ⟨oc5, od5, .func (PySem.W.fnOf "table_for" "table_for" (defArgs (top 6)) (defBody (top 6)) (defScope (top 6)) .none kV5 dc5 pm5 an5 cd5 ct5), sl5⟩) (c5 : PySem.W.codeIn K cd5 "table_for" = true) (e5 : PySem.W.keepIn K (.ref f5) = true)
    (a6 : PySem.W.nsIn K mainGlobals "digests_fault" = some (some (.ref f6))) (l6 : K.lookup f6 = some ⟨oc6, od6, .func (PySem.W.fnOf "digests_fault" "digests_fault" (defArgs (top 7)) (defBody (top 7)) (defScope (top 7)) .none kV6 dc6 pm6 an6 cd6 ct6), sl6⟩) (c6 : PySem.W.codeIn K cd6 "digests_fault" = true) (e6 : PySem.W.keepIn K (.ref f6) = true)
    (a7 : PySem.W.nsIn K mainGlobals "found_fault" = some (some (.ref f7))) (l7 : K.lookup f7 = some ⟨oc7, od7, .func (PySem.W.fnOf "found_fault" "found_fault" (defArgs (top 8)) (defBody (top 8)) (defScope (top 8)) .none kV7 dc7 pm7 an7 cd7 ct7), sl7⟩) (c7 : PySem.W.codeIn K cd7 "found_fault" = true) (e7 : PySem.W.keepIn K (.ref f7) = true)
    (a8 : PySem.W.nsIn K mainGlobals "_law_state" = some (some (.ref f8))) (l8 : K.lookup f8 = some ⟨oc8, od8, .func (PySem.W.fnOf "_law_state" "_law_state" (defArgs (top 10)) (defBody (top 10)) (defScope (top 10)) .none kV8 dc8 pm8 an8 cd8 ct8), sl8⟩) (c8 : PySem.W.codeIn K cd8 "_law_state" = true) (e8 : PySem.W.keepIn K (.ref f8) = true)
    (a9 : PySem.W.nsIn K mainGlobals "_law_take" = some (some (.ref f9))) (l9 : K.lookup f9 = some ⟨oc9, od9, .func (PySem.W.fnOf "_law_take" "_law_take" (defArgs (top 11)) (defBody (top 11)) (defScope (top 11)) .none kV9 dc9 pm9 an9 cd9 ct9), sl9⟩) (c9 : PySem.W.codeIn K cd9 "_law_take" = true) (e9 : PySem.W.keepIn K (.ref f9) = true)
    (a10 : PySem.W.nsIn K mainGlobals "_law_scene" = some (some (.ref f10))) (l10 : K.lookup f10 = some ⟨oc10, od10, .func (PySem.W.fnOf "_law_scene" "_law_scene" (defArgs (top 12)) (defBody (top 12)) (defScope (top 12)) .none kV10 dc10 pm10 an10 cd10 ct10), sl10⟩) (c10 : PySem.W.codeIn K cd10 "_law_scene" = true) (e10 : PySem.W.keepIn K (.ref f10) = true)
    (a11 : PySem.W.nsIn K mainGlobals "_law_quiet" = some (some (.ref f11))) (l11 : K.lookup f11 = some ⟨oc11, od11, .func (PySem.W.fnOf "_law_quiet" "_law_quiet" (defArgs (top 13)) (defBody (top 13)) (defScope (top 13)) .none kV11 dc11 pm11 an11 cd11 ct11), sl11⟩) (c11 : PySem.W.codeIn K cd11 "_law_quiet" = true) (e11 : PySem.W.keepIn K (.ref f11) = true)
    (a12 : PySem.W.nsIn K mainGlobals "_law_minutes" = some (some (.ref f12))) (l12 : K.lookup f12 = some ⟨oc12, od12, .func (PySem.W.fnOf "_law_minutes" "_law_minutes" (defArgs (top 14)) (defBody (top 14)) (defScope (top 14)) .none kV12 dc12 pm12 an12 cd12 ct12), sl12⟩) (c12 : PySem.W.codeIn K cd12 "_law_minutes" = true) (e12 : PySem.W.keepIn K (.ref f12) = true)
    (a13 : PySem.W.nsIn K mainGlobals "_law_passed" = some (some (.ref f13))) (l13 : K.lookup f13 = some ⟨oc13, od13, .func (PySem.W.fnOf "_law_passed" "_law_passed" (defArgs (top 15)) (defBody (top 15)) (defScope (top 15)) .none kV13 dc13 pm13 an13 cd13 ct13), sl13⟩) (c13 : PySem.W.codeIn K cd13 "_law_passed" = true) (e13 : PySem.W.keepIn K (.ref f13) = true)
    (a14 : PySem.W.nsIn K mainGlobals "_law_rows" = some (some (.ref f14))) (l14 : K.lookup f14 = some ⟨oc14, od14, .func (PySem.W.fnOf "_law_rows" "_law_rows" (defArgs (top 16)) (defBody (top 16)) (defScope (top 16)) .none kV14 dc14 pm14 an14 cd14 ct14), sl14⟩) (c14 : PySem.W.codeIn K cd14 "_law_rows" = true) (e14 : PySem.W.keepIn K (.ref f14) = true)
    (a15 : PySem.W.nsIn K mainGlobals "_law_fault" = some (some (.ref f15))) (l15 : K.lookup f15 = some ⟨oc15, od15, .func (PySem.W.fnOf "_law_fault" "_law_fault" (defArgs (top 17)) (defBody (top 17)) (defScope (top 17)) .none kV15 dc15 pm15 an15 cd15 ct15), sl15⟩) (c15 : PySem.W.codeIn K cd15 "_law_fault" = true) (e15 : PySem.W.keepIn K (.ref f15) = true)
    (a16 : PySem.W.nsIn K mainGlobals "law" = some (some (.ref f16))) (l16 : K.lookup f16 = some ⟨oc16, od16, .func (PySem.W.fnOf "law" "law" (defArgs (top 18)) (defBody (top 18)) (defScope (top 18)) .none kV16 dc16 pm16 an16 cd16 ct16), sl16⟩) (c16 : PySem.W.codeIn K cd16 "law" = true) (e16 : PySem.W.keepIn K (.ref f16) = true)
    (z0 : PySem.W.nsIn K mainGlobals "any" = some none)
    (z1 : PySem.W.nsIn K mainGlobals "range" = some none)
    (z2 : PySem.W.nsIn K mainGlobals "sorted" = some none)
    (z3 : PySem.W.nsIn K mainGlobals "set" = some none)
    (z4 : PySem.W.nsIn K mainGlobals "enumerate" = some none)
    (z5 : PySem.W.nsIn K mainGlobals "max" = some none)
    (z6 : PySem.W.nsIn K mainGlobals "min" = some none)
    (z7 : PySem.W.nsIn K mainGlobals "len" = some none)
    (z8 : PySem.W.nsIn K mainGlobals "repr" = some none)
    (z9 : PySem.W.nsIn K mainGlobals "list" = some none)
    (z10 : PySem.W.nsIn K mainGlobals "abs" = some none)
    (z11 : PySem.W.nsIn K mainGlobals "int" = some none)
    : DefAt K mg "law" (top 18) ∧ ∀ (base : Heap) (k : Nat), Names P w K mg base TT [] TB k := by
  have d0 := def_at X Gn a0 l0 c0 e0
  have d1 := def_at X Gn a1 l1 c1 e1
  have d2 := def_at X Gn a2 l2 c2 e2
  have d3 := def_at X Gn a3 l3 c3 e3
  have d4 := def_at X Gn a4 l4 c4 e4
  have d5 := def_at X Gn a5 l5 c5 e5
  have d6 := def_at X Gn a6 l6 c6 e6
  have d7 := def_at X Gn a7 l7 c7 e7
  have d8 := def_at X Gn a8 l8 c8 e8
  have d9 := def_at X Gn a9 l9 c9 e9
  have d10 := def_at X Gn a10 l10 c10 e10
  have d11 := def_at X Gn a11 l11 c11 e11
  have d12 := def_at X Gn a12 l12 c12 e12
  have d13 := def_at X Gn a13 l13 c13 e13
  have d14 := def_at X Gn a14 l14 c14 e14
  have d15 := def_at X Gn a15 l15 c15 e15
  have d16 := def_at X Gn a16 l16 c16 e16
  have y0 := PySem.W.mg_none_of X Gn z0
  have y1 := PySem.W.mg_none_of X Gn z1
  have y2 := PySem.W.mg_none_of X Gn z2
  have y3 := PySem.W.mg_none_of X Gn z3
  have y4 := PySem.W.mg_none_of X Gn z4
  have y5 := PySem.W.mg_none_of X Gn z5
  have y6 := PySem.W.mg_none_of X Gn z6
  have y7 := PySem.W.mg_none_of X Gn z7
  have y8 := PySem.W.mg_none_of X Gn z8
  have y9 := PySem.W.mg_none_of X Gn z9
  have y10 := PySem.W.mg_none_of X Gn z10
  have y11 := PySem.W.mg_none_of X Gn z11
  refine ⟨d16, fun base => names_ok ⟨?q0, ?q1, ?q2, ?q3, ?q4, ?q5, ?q6, ?q7, ?q8, ?q9, ?q10, ?q11, ?q12, ?q13, ?q14, ?q15, trivial⟩ (fun j x d e => by simp [TB] at e) (fun x hx => ?_)⟩
  case q0 => exact defOk_py (ps := ["quiet", "minute", "day"]) d0 (fun f fd F => F.binds (ps := ["quiet", "minute", "day"]) fun _ _ _ _ _ _ us hl => match us, hl with | [_, _, _], _ => rfl) s0 rfl rfl k0
  case q1 => exact defOk_py (ps := ["letters", "wait", "quiet", "day"]) d1 (fun f fd F => F.binds (ps := ["letters", "wait", "quiet", "day"]) fun _ _ _ _ _ _ us hl => match us, hl with | [_, _, _, _], _ => rfl) s1 rfl rfl k1
  case q2 => exact defOk_py (ps := ["letters", "wait", "last", "minute"]) d2 (fun f fd F => F.binds (ps := ["letters", "wait", "last", "minute"]) fun _ _ _ _ _ _ us hl => match us, hl with | [_, _, _, _], _ => rfl) s2 rfl rfl k2
  case q3 => exact defOk_py (ps := ["letters", "wait", "gap", "quiet", "day"]) d3 (fun f fd F => F.binds (ps := ["letters", "wait", "gap", "quiet", "day"]) fun _ _ _ _ _ _ us hl => match us, hl with | [_, _, _, _, _], _ => rfl) s3 rfl rfl k3
  case q4 => exact defOk_py (ps := ["letters", "wait", "gap", "minutes", "one", "other"]) d4 (fun f fd F => F.binds (ps := ["letters", "wait", "gap", "minutes", "one", "other"]) fun _ _ _ _ _ _ us hl => match us, hl with | [_, _, _, _, _, _], _ => rfl) s4 rfl rfl k4
  case q5 => exact defOk_py (ps := ["letters", "wait", "gap", "minutes"]) d5 (fun f fd F => F.binds (ps := ["letters", "wait", "gap", "minutes"]) fun _ _ _ _ _ _ us hl => match us, hl with | [_, _, _, _], _ => rfl) s5 rfl rfl k5
  case q6 => exact defOk_py (ps := ["letters", "wait", "gap", "quiet", "day", "told"]) d6 (fun f fd F => F.binds (ps := ["letters", "wait", "gap", "quiet", "day", "told"]) fun _ _ _ _ _ _ us hl => match us, hl with | [_, _, _, _, _, _], _ => rfl) s6 rfl rfl k6
  case q7 => exact defOk_py (ps := ["letters", "wait", "gap", "minutes", "ends", "found"]) d7 (fun f fd F => F.binds (ps := ["letters", "wait", "gap", "minutes", "ends", "found"]) fun _ _ _ _ _ _ us hl => match us, hl with | [_, _, _, _, _, _], _ => rfl) s7 rfl rfl k7
  case q8 => exact defOk_pr (ps := ["script"]) d8 (fun f fd F => F.binds (ps := ["script"]) fun _ _ _ _ _ _ us hl => match us, hl with | [_], _ => rfl) rfl fun f fd F => ok_state F y7 y10
  case q9 => exact defOk_pr (ps := ["state", "most"]) d9 (fun f fd F => F.binds (ps := ["state", "most"]) fun _ _ _ _ _ _ us hl => match us, hl with | [_, _], _ => rfl) rfl fun f fd F => ok_take F y7 y11
  case q10 => exact defOk_py (ps := ["state", "most"]) d10 (fun f fd F => F.binds (ps := ["state", "most"]) fun _ _ _ _ _ _ us hl => match us, hl with | [_, _], _ => rfl) s10 rfl rfl k10
  case q11 => exact defOk_py (ps := ["quiet", "minute", "day"]) d11 (fun f fd F => F.binds (ps := ["quiet", "minute", "day"]) fun _ _ _ _ _ _ us hl => match us, hl with | [_, _, _], _ => rfl) s11 rfl rfl k11
  case q12 => exact defOk_py (ps := ["letters", "wait", "quiet", "day"]) d12 (fun f fd F => F.binds (ps := ["letters", "wait", "quiet", "day"]) fun _ _ _ _ _ _ us hl => match us, hl with | [_, _, _, _], _ => rfl) s12 rfl rfl k12
  case q13 => exact defOk_py (ps := ["letters", "wait", "last", "minute"]) d13 (fun f fd F => F.binds (ps := ["letters", "wait", "last", "minute"]) fun _ _ _ _ _ _ us hl => match us, hl with | [_, _, _, _], _ => rfl) s13 rfl rfl k13
  case q14 => exact defOk_py (ps := ["letters", "wait", "gap", "minutes", "table", "at"]) d14 (fun f fd F => F.binds (ps := ["letters", "wait", "gap", "minutes", "table", "at"]) fun _ _ _ _ _ _ us hl => match us, hl with | [_, _, _, _, _, _], _ => rfl) s14 rfl rfl k14
  case q15 => exact defOk_py (ps := ["letters", "wait", "gap", "quiet", "day", "told"]) d15 (fun f fd F => F.binds (ps := ["letters", "wait", "gap", "quiet", "day", "told"]) fun _ _ _ _ _ _ us hl => match us, hl with | [_, _, _, _, _, _], _ => rfl) s15 rfl rfl k15
  have hx : x ∈ (["any", "range", "sorted", "set", "enumerate", "max", "min", "len", "repr", "list", "abs", "int"] : List Str) := hx
  simp only [List.mem_cons, List.not_mem_nil, or_false] at hx
  rcases hx with rfl | rfl | rfl | rfl | rfl | rfl | rfl | rfl | rfl | rfl | rfl | rfl
  · exact y0
  · exact y1
  · exact y2
  · exact y3
  · exact y4
  · exact y5
  · exact y6
  · exact y7
  · exact y8
  · exact y9
  · exact y10
  · exact y11
theorem io0 : ioT TT 0 = [] := rfl
theorem io1 : ioT TT 1 = [] := rfl
theorem io2 : ioT TT 2 = [] := rfl
theorem io3 : ioT TT 3 = [] := rfl
theorem io4 : ioT TT 4 = [] := rfl
theorem io5 : ioT TT 5 = [] := rfl
theorem io6 : ioT TT 6 = [] := rfl
theorem io7 : ioT TT 7 = [] := rfl
theorem io8 : ioT TT 8 = [] := rfl
theorem io9 : ioT TT 9 = [0] := rfl
theorem io10 : ioT TT 10 = [0] := rfl
theorem io11 : ioT TT 11 = [] := rfl
theorem io12 : ioT TT 12 = [] := rfl
theorem io13 : ioT TT 13 = [] := rfl
theorem io14 : ioT TT 14 = [] := rfl
theorem io15 : ioT TT 15 = [] := rfl
theorem io16 : ioT TT 16 = [] := rfl
theorem take_ok (k : Nat) {i m : Int} {cs : List Int} (hc : cs ≠ []) (h0 : 0 < m) (h1 : m < 1073741824) : ∃ (d : Nat) (i' : Int) (cs' : List Int), (d : Int) < m ∧ cs' ≠ [] ∧ callT TT [] (k + 1) 9 [.st i cs, .d (.int m)] = some (.d (.int (d : Int)), [.st i' cs', .d (.int m)]) := by
  have hl : 0 < (cs.length : Int) := by
    have := List.length_pos_iff.mpr hc
    omega
  have q1 := Int.emod_nonneg i (Int.ne_of_gt hl)
  have q2 := Int.emod_lt_of_pos i hl
  have hj : (i % (cs.length : Int)).toNat < cs.length := by omega
  have hx : cs[(i % (cs.length : Int)).toNat]? = some (cs[(i % (cs.length : Int)).toNat]) := List.getElem?_eq_getElem hj
  have e : callT TT [] (k + 1) 9 [.st i cs, .d (.int m)] = gTake [.st i cs, .d (.int m)] := rfl
  rw [e, gTake, if_pos ⟨h0, h1⟩, hx]
  generalize cs[(i % (cs.length : Int)).toNat] = x
  have nat : ∀ y : Int, ((y % m).toNat : Int) = y % m ∧ y % m < m := fun y => ⟨Int.toNat_of_nonneg (Int.emod_nonneg y (Int.ne_of_gt h0)), Int.emod_lt_of_pos y h0⟩
  by_cases hz : 1000000000000000000 ≤ x
  · exact ⟨(x % m).toNat, i, cs.set (i % (cs.length : Int)).toNat (x / m), by rw [(nat x).1]; exact (nat x).2, by intro z; have := congrArg List.length z; rw [List.length_set] at this; exact hc (List.length_eq_zero_iff.mp this), by rw [Option.map_some, if_pos hz, (nat x).1]⟩
  · exact ⟨(mixP x (i + 1) % m).toNat, i + 1, cs, by rw [(nat _).1]; exact (nat _).2, hc, by rw [Option.map_some, if_neg hz, (nat _).1]⟩
theorem state_ok (k : Nat) {ns : List Int} (h : ns.length ≤ 63) : ∃ (i : Int) (cs : List Int), cs ≠ [] ∧ callT TT [] (k + 1) 8 [.scr ns] = some (.st i cs, [.scr ns]) := by
  refine ⟨0, cellsOf ns, ?_, ?_⟩
  · unfold cellsOf
    split
    · simp
    · rename_i h
      intro z
      have := congrArg List.length z
      rw [List.length_map] at this
      exact h this
  · show gState [.scr ns] = _
    rw [gState, if_pos h]
theorem takeOk (k : Nat) : TakeOk (callT TT [] (k + 1)) 9 := fun i m cs hc h0 h1 => take_ok k hc h0 h1
set_option exponentiation.threshold 3000
abbrev Pr := Nat × Nat
def pD (p : Pr) : D := .tuple [.int (p.1 : Int), .int (p.2 : Int)]
def qD (q : List Pr) : D := .list (q.map pD)
def lD (l : List Nat) : D := .list (nats l)
def isq1 (now : Nat) (p : Pr) : Bool := if p.1 < p.2 then decide (p.1 ≤ now) && decide (now < p.2) else decide (p.1 ≤ now) || decide (now < p.2)
def isq (q : List Pr) (m d : Nat) : Bool := q.any (isq1 (m % d))
theorem bool_or {Γ : Ctx} {env : Env} {a b : ME} {p q : Bool} (h : ev Γ a env = some (.v (.d (.bool p)), env)) (k : p = false → ev Γ b env = some (.v (.d (.bool q)), env)) : ev Γ (.orE a b) env = some (.v (.d (.bool (p || q))), env) := by
  cases p with
  | true => rw [ev_orT h]; rfl
  | false => rw [ev_orF h]; exact k rfl
theorem bool_and {Γ : Ctx} {env : Env} {a b : ME} {p q : Bool} (h : ev Γ a env = some (.v (.d (.bool p)), env)) (k : p = true → ev Γ b env = some (.v (.d (.bool q)), env)) : ev Γ (.andE a b) env = some (.v (.d (.bool (p && q))), env) := by
  cases p with
  | false => rw [ev_andF h]; rfl
  | true => rw [ev_andT h]; exact k rfl
theorem quiet_ok (k : Nat) {q : List Pr} {m d : Nat} (hd : 0 < d) : callT TT [] (k + 1) 0 [.d (qD q), .d (.int (m : Int)), .d (.int (d : Int))] = some (.d (.bool (isq q m d)), [.d (qD q), .d (.int (m : Int)), .d (.int (d : Int))]) := by
  refine call_py rfl rfl (by decide) ?_
  show OK (evSs _ [] b0 [some (.d (qD q)), dn m, dn d, none, none, none]) _
  generalize callT TT [] k = C
  refine ok_step (e1 := [some (.d (qD q)), dn m, dn d, dn (m % d), none, none]) (asg_step (ev_binS (op := .md) (ev_var (x := .int (m : Int)) rfl) (ev_var (x := .int (d : Int)) rfl) ?_) (by simp) (by simp)) ?_
  · have : (0 : Int) < (d : Int) := by omega
    simp only [binD, this, if_true, Int.natCast_emod]
  refine ok_ret (r := .v (.d (.bool (isq q m d)))) (e1 := [some (.d (qD q)), dn m, dn d, dn (m % d), none, none]) ?_ (by simp [endF, outs])
  refine any_ev (l := q) (p := isq1 (m % d)) ?_
  rw [lc_of (lk := []) (g := none) pD q (fun _ => true) (fun p => .bool (isq1 (m % d) p)) (by simp [evI, ev, rd, srcOf, valD, itemsD, qD]) rfl trivial (by simp [backOwn, wipeE, rd]) fun p hp => ?_]
  · rw [filter_tt]
  · refine ⟨[some (.d (qD q)), dn m, dn d, dn (m % d), dn p.1, dn p.2], by simp [bindT, bindTs, pD, wipeE], tru_evC, by simp [wipeE], fun _ => ?_⟩
    have e1 := evC_cmp (Γ := ⟨C, ioT TT, []⟩) (env := [some (.d (qD q)), dn m, dn d, dn (m % d), dn p.1, dn p.2]) (op := .lt) (ev_var (i := 4) rfl) (ev_var (i := 5) rfl) lt_nat
    rw [ev_ite e1]
    by_cases hlt : p.1 < p.2
    · rw [decide_eq_true hlt, if_pos rfl, ev_chain (ev_var rfl) (ev_var rfl) (ev_var rfl) le_nat lt_nat, Option.bind_some]
      simp only [fz, valD, Option.map_some, isq1, if_pos hlt]
    · rw [decide_eq_false hlt, if_neg (by decide), bool_or (ev_cmpS (ev_var rfl) (ev_var rfl) ge_nat) (fun _ => ev_cmpS (ev_var rfl) (ev_var rfl) lt_nat), Option.bind_some]
      simp only [fz, valD, Option.map_some, isq1, if_neg hlt]
theorem fsI_any {α : Type} (p : α → Bool) : ∀ (l : List α) (i : Nat), fsI (fun _ a => if p a then some (PyData.bool true) else none) i l = if l.any p then some (.bool true) else none
  | [], i => rfl
  | a :: r, i => by
    rw [fsI, fsI_any p r (i + 1), List.any_cons]
    cases p a <;> simp
theorem lquiet_ok (k : Nat) {q : List Pr} {m d : Nat} (hd : 0 < d) (hm : m < 1000) (hd2 : d < 1000) : callT TT [] (k + 1) 11 [.d (qD q), .d (.int (m : Int)), .d (.int (d : Int))] = some (.d (.bool (isq q m d)), [.d (qD q), .d (.int (m : Int)), .d (.int (d : Int))]) := by
  refine call_py rfl rfl (by decide) ?_
  show OK (evSs _ [] b11 [some (.d (qD q)), dn m, dn d, none, none, none]) _
  generalize callT TT [] k = C
  refine ok_step (e1 := [some (.d (qD q)), dn m, dn d, dn (m % d), none, none]) (asg_step (w := .d (.int ((m % d : Nat) : Int))) ?_ (by simp) (by simp)) ?_
  · have e1 : ev ⟨C, ioT TT, []⟩ (.bin .fdiv (.var 1) (.var 2)) [some (.d (qD q)), dn m, dn d, none, none, none] = some (.v (.d (.int ((m / d : Nat) : Int))), [some (.d (qD q)), dn m, dn d, none, none, none]) := by
      refine ev_binS (op := .fdiv) (ev_var (x := .int (m : Int)) rfl) (ev_var (x := .int (d : Int)) rfl) ?_
      have h1 : (0 : Int) < (d : Int) := by omega
      have h2 : (d : Int).natAbs.log2 < 9000 := by
        have := log_i (i := (d : Int)) (Nat.lt_of_lt_of_le (show (d : Int).natAbs < 2 ^ 10 by omega) (Nat.pow_le_pow_right (by decide) (by decide)))
        omega
      simp only [binD, h1, h2, and_self, if_true, Int.natCast_ediv]
    have hle : m / d ≤ m := Nat.div_le_self m d
    have hz : ((m / d : Nat) : Int).natAbs < 100000 := by rw [Int.natAbs_natCast]; omega
    have e2 := ev_sub (ev_var (Γ := ⟨C, ioT TT, []⟩) (env := [some (.d (qD q)), dn m, dn d, none, none, none]) (i := 1) rfl) (ev_binS (op := .mul) e1 (ev_var (i := 2) rfl) (mul_i hz (by omega)))
    rw [e2]
    have := Nat.div_add_mod m d
    have h3 : ((m / d : Nat) : Int) * (d : Int) = ((d * (m / d) : Nat) : Int) := by rw [Int.natCast_mul, Int.mul_comm]
    rw [h3, show (m : Int) - ((d * (m / d) : Nat) : Int) = ((m % d : Nat) : Int) by omega]
  refine ok_cons ((for_first (lk := []) (g := none) (items := q.map pD) (env := [some (.d (qD q)), dn m, dn d, dn (m % d), none, none]) (fun _ => pD) q (fun _ p => if isq1 (m % d) p then some (.bool true) else none) (fun e => ∃ x4 x5, e = [some (.d (qD q)), dn m, dn d, dn (m % d), x4, x5]) (by simp [evI, ev, rd, srcOf, valD, itemsD, qD]) (fun i x hx => ?_) (by simp) (fun _ _ => trivial) ⟨none, none, rfl⟩ ?_).imp ?_)
  · rw [List.getElem?_map] at hx
    obtain ⟨a, h1, h2⟩ := Option.map_eq_some_iff.mp hx
    exact ⟨a, h1, h2.symm⟩
  · rintro i p e hp ⟨x4, x5, rfl⟩
    refine ⟨[some (.d (qD q)), dn m, dn d, dn (m % d), dn p.1, dn p.2], by simp [bindT, bindTs, pD], ?_⟩
    have hc : evC ⟨C, ioT TT, []⟩ (.orE (.andE (.cmp .lt (.var 4) (.var 5)) (.chain .le .lt (.var 4) (.var 3) (.var 5))) (.andE (.cmp .ge (.var 4) (.var 5)) (.orE (.cmp .ge (.var 3) (.var 4)) (.cmp .lt (.var 3) (.var 5))))) [some (.d (qD q)), dn m, dn d, dn (m % d), dn p.1, dn p.2] = some (isq1 (m % d) p, [some (.d (qD q)), dn m, dn d, dn (m % d), dn p.1, dn p.2]) := by
      rw [evC_or (evC_and (evC_cmp (op := .lt) (ev_var (i := 4) rfl) (ev_var (i := 5) rfl) lt_nat) fun _ => evC_b (ev_chain (ev_var rfl) (ev_var rfl) (ev_var rfl) le_nat lt_nat)) fun _ => evC_and (evC_cmp (op := .ge) (ev_var (i := 4) rfl) (ev_var (i := 5) rfl) ge_nat) fun _ => evC_or (evC_cmp (op := .ge) (ev_var (i := 3) rfl) (ev_var (i := 4) rfl) ge_nat) fun _ => evC_cmp (op := .lt) (ev_var (i := 3) rfl) (ev_var (i := 5) rfl) lt_nat]
      unfold isq1
      by_cases hlt : p.1 < p.2
      · simp [hlt, Nat.not_le.mpr hlt]
      · simp [hlt, Nat.not_lt.mp hlt]
    refine ok_one (ok_ifs hc (fun hk => ?_) fun hk => ok_nil ?_)
    · rw [hk]; exact ok_ret ev_con ⟨_, rfl⟩
    · rw [hk]; exact ⟨_, ⟨_, _, rfl⟩, rfl⟩
  · intro r hr
    rw [fsI_any] at hr
    cases hq : q.any (isq1 (m % d)) with
    | true =>
      rw [hq] at hr
      obtain ⟨e, rfl⟩ := hr
      have : isq q m d = true := hq
      show endF _ _ _ = _
      simp [endF, outs, this]
    | false =>
      rw [hq] at hr
      obtain ⟨e, ⟨x4, x5, rfl⟩, rfl⟩ := hr
      have : isq q m d = false := hq
      exact ok_ret ev_con (by simp [endF, outs, this])
/-! scenes -/
structure Sc where
  ls : List Nat
  w : Nat
  g : Nat
  q : List Pr
  d : Nat
structure ScOk (s : Sc) : Prop where
  len : s.ls.length ≤ 8
  each : ∀ c ∈ s.ls, c < 20
  w : s.w ≤ 7
  g0 : 0 < s.g
  g : s.g ≤ 6
  d0 : 0 < s.d
  d : s.d ≤ 24
  ql : s.q.length ≤ 2
  q : ∀ p ∈ s.q, p.1 < 24 ∧ p.2 < 24
def near (s : Sc) (m : Nat) : Bool := s.ls.any fun c => decide (c ≤ m) && decide (m ≤ c + s.w)
def mins (s : Sc) : List Nat := (List.range 40).filter fun m => !isq s.q m s.d && near s m
def accM (s : Sc) (l : List Nat) : List Nat := l.flatMap fun c => ((List.range (s.w + 1)).map fun k => c + k).filter fun m => !isq s.q m s.d
theorem accM_len (s : Sc) : ∀ l : List Nat, (accM s l).length ≤ l.length * (s.w + 1)
  | [] => Nat.zero_le _
  | c :: r => by
    have ih := accM_len s r
    have h1 : (((List.range (s.w + 1)).map fun k => c + k).filter fun m => !isq s.q m s.d).length ≤ s.w + 1 := Nat.le_trans (List.length_filter_le _ _) (by simp)
    unfold accM at ih ⊢
    rw [List.flatMap_cons, List.length_append, List.length_cons, Nat.add_mul]
    omega
theorem accM_mem {s : Sc} {l : List Nat} {m : Nat} : m ∈ accM s l ↔ isq s.q m s.d = false ∧ ∃ c ∈ l, c ≤ m ∧ m ≤ c + s.w := by
  unfold accM
  rw [List.mem_flatMap]
  constructor
  · rintro ⟨c, hc, h⟩
    obtain ⟨h1, h2⟩ := List.mem_filter.mp h
    obtain ⟨k, hk, rfl⟩ := List.mem_map.mp h1
    have := List.mem_range.mp hk
    exact ⟨by simpa using h2, c, hc, by omega, by omega⟩
  · rintro ⟨h, c, hc, h1, h2⟩
    exact ⟨c, hc, List.mem_filter.mpr ⟨List.mem_map.mpr ⟨m - c, List.mem_range.mpr (by omega), by omega⟩, by simpa using h⟩⟩
theorem setN_acc {s : Sc} (h : ScOk s) : setN (accM s s.ls) = mins s := by
  refine riseN_unique (setN_pw _) (List.Pairwise.sublist List.filter_sublist List.pairwise_lt_range) fun m => ?_
  rw [mem_setN, accM_mem, mins, List.mem_filter]
  simp only [Bool.and_eq_true, Bool.not_eq_true', near, List.any_eq_true, decide_eq_true_eq, List.mem_range]
  constructor
  · rintro ⟨h1, c, hc, h2, h3⟩
    have := h.each c hc
    have := h.w
    exact ⟨by omega, h1, c, hc, h2, h3⟩
  · rintro ⟨_, h1, c, hc, h2, h3⟩
    exact ⟨h1, c, hc, h2, h3⟩
theorem minutes_ok (k : Nat) {s : Sc} (h : ScOk s) : callT TT [] (k + 2) 1 [.d (lD s.ls), .d (.int (s.w : Int)), .d (qD s.q), .d (.int (s.d : Int))] = some (.own (nats (mins s)), [.d (lD s.ls), .d (.int (s.w : Int)), .d (qD s.q), .d (.int (s.d : Int))]) := by
  have c0 := fun m => quiet_ok k (q := s.q) (m := m) h.d0
  have hl := h.len
  have hw := h.w
  refine call_py rfl rfl (by decide) ?_
  show OK (evSs _ [] b1 [some (.d (lD s.ls)), dn s.w, some (.d (qD s.q)), dn s.d, none, none, none]) _
  generalize callT TT [] (k + 1) = C at c0 ⊢
  refine ok_step (e1 := [some (.d (lD s.ls)), dn s.w, some (.d (qD s.q)), dn s.d, some (.own (nats [])), none, none]) (asg_step (by simp [ev, evF, nats]) (by simp) (by simp)) ?_
  refine ok_cons (ok_for (s := ⟨nats s.ls, [], none⟩) (e1 := [some (.d (lD s.ls)), dn s.w, some (.d (qD s.q)), dn s.d, some (.own (nats [])), none, none]) (by simp [evI, ev, rd, srcOf, valD, itemsD, lD])
    (fun i e => ∃ x5, e = [some (.d (lD s.ls)), dn s.w, some (.d (qD s.q)), dn s.d, some (.own (nats (accM s (s.ls.take i)))), x5, none]) ⟨none, rfl⟩ ?_ ?_)
  · rintro i x e hx ⟨x5, rfl⟩
    obtain ⟨c, hc, rfl⟩ := nats_at hx
    have htk : s.ls.take (i + 1) = s.ls.take i ++ [c] := by rw [List.take_succ, hc]; rfl
    have hc20 := h.each c (List.mem_of_getElem? hc)
    have hlen : (accM s (s.ls.take i)).length ≤ 64 := by
      refine Nat.le_trans (accM_len s _) ?_
      have h1 : (s.ls.take i).length ≤ 8 := by rw [List.length_take]; omega
      exact Nat.mul_le_mul h1 (show s.w + 1 ≤ 8 by omega)
    have hsp : accM s (s.ls.take i ++ [c]) = accM s (s.ls.take i) ++ ((List.range (s.w + 1)).map fun k => c + k).filter fun m => !isq s.q m s.d := by
      unfold accM
      rw [List.flatMap_append]
      simp
    rw [htk, hsp]
    generalize accM s (s.ls.take i) = A at hlen
    refine ⟨trivial, [some (.d (lD s.ls)), dn s.w, some (.d (qD s.q)), dn s.d, some (.own (nats A)), dn c, none], by simp [bindT], ?_⟩
    have hn : (List.range (c + s.w + 1 - c)).map (fun k => c + k) = (List.range (s.w + 1)).map fun k => c + k := by rw [show c + s.w + 1 - c = s.w + 1 by omega]
    have er : evI ⟨C, ioT TT, []⟩ (.rng [(.var 5), (.bin .add (.bin .add (.var 5) (.var 1)) (.con (.int 1)))]) [some (.d (lD s.ls)), dn s.w, some (.d (qD s.q)), dn s.d, some (.own (nats A)), dn c, none] = some (⟨nats ((List.range (s.w + 1)).map fun k => c + k), [], none⟩, [some (.d (lD s.ls)), dn s.w, some (.d (qD s.q)), dn s.d, some (.own (nats A)), dn c, none]) := by
      rw [← hn, ← rng_nat2]
      refine evI_rng20 (ev_var rfl) ?_ (rngOk_nat2 (by omega) (by omega))
      exact ev_add (i := (c : Int) + (s.w : Int)) (j := 1) (ev_add (ev_var rfl) (ev_var rfl)) ev_con
    have hlc : ev ⟨C, ioT TT, []⟩ (.lc (.var 6) (.nm 6) (.rng [(.var 5), (.bin .add (.bin .add (.var 5) (.var 1)) (.con (.int 1)))]) (.notE (.call 0 [(.var 2), (.var 6), (.var 3)])) [6]) [some (.d (lD s.ls)), dn s.w, some (.d (qD s.q)), dn s.d, some (.own (nats A)), dn c, none] = some (.v (.own (nats (((List.range (s.w + 1)).map fun k => c + k).filter fun m => !isq s.q m s.d))), [some (.d (lD s.ls)), dn s.w, some (.d (qD s.q)), dn s.d, some (.own (nats A)), dn c, none]) := by
      refine lc_of (lk := []) (g := none) (fun n : Nat => PyData.int (n : Int)) ((List.range (s.w + 1)).map fun k => c + k) (fun m => !isq s.q m s.d) (fun n : Nat => PyData.int (n : Int)) er rfl trivial (by simp [backOwn, wipeE, rd]) fun m hm => ?_
      refine ⟨[some (.d (lD s.ls)), dn s.w, some (.d (qD s.q)), dn s.d, some (.own (nats A)), dn c, dn m], by simp [bindT, wipeE], evC_b (ev_not (call_pure (rs := [.v (.d (qD s.q)), .v (.d (.int (m : Int))), .v (.d (.int (s.d : Int)))]) (by simp [evL, ev, rd]) rfl (by simp [argVals, io0, nonIo, valD]) (c0 m))), by simp [wipeE], fun _ => by simp [ev, rd, fz, valD]⟩
    have hB : (((List.range (s.w + 1)).map fun k => c + k).filter fun m => !isq s.q m s.d).length ≤ 8 := Nat.le_trans (List.length_filter_le _ _) (by simp; omega)
    refine ok_one ⟨_, ext_step rfl hlc rfl (by rw [nats_len, nats_len, sizeLine_eq]; omega), ?_⟩
    refine ⟨dn c, ?_⟩
    rw [nats_cat]
    rfl
  · rintro e ⟨x5, rfl⟩
    refine ⟨trivial, ?_⟩
    rw [show (Src.items ⟨nats s.ls, [], none⟩).length = s.ls.length from nats_len _, List.take_length]
    have hlen : (accM s s.ls).length < 1000 := by
      refine Nat.lt_of_le_of_lt (accM_len s _) (Nat.lt_of_le_of_lt (Nat.mul_le_mul hl (show s.w + 1 ≤ 8 by omega)) (by decide))
    have hset : (setN (accM s s.ls)).length < 64 := by
      rw [setN_acc h]
      exact Nat.lt_of_le_of_lt (List.length_filter_le _ _) (by simp)
    have hs := ssetD_natsB hlen hset
    rw [setN_acc h] at hs
    refine ok_ret (r := .v (.own (nats (mins s)))) (e1 := [some (.d (lD s.ls)), dn s.w, some (.d (qD s.q)), dn s.d, some (.own (nats (accM s s.ls))), x5, none]) ?_ (by simp [endF, outs])
    rw [ev, ev_ali (xs := nats (accM s s.ls)) rfl, Option.bind_some]
    simp only [cur, rd, List.getElem?_cons_succ, List.getElem?_cons_zero, Option.getD_some, Option.bind_some, valD, hs, Option.map_some]
theorem pos_any {α : Type} (l : List α) (p : α → Bool) : decide (0 < (l.filter p).length) = l.any p := by
  cases h : l.any p with
  | true =>
    obtain ⟨x, hx, hp⟩ := List.any_eq_true.mp h
    exact decide_eq_true (List.length_pos_of_mem (List.mem_filter.mpr ⟨hx, hp⟩))
  | false =>
    rw [List.any_eq_false] at h
    have : l.filter p = [] := List.filter_eq_nil_iff.mpr h
    rw [this]; rfl
theorem lminutes_ok (k : Nat) {s : Sc} (h : ScOk s) : callT TT [] (k + 2) 12 [.d (lD s.ls), .d (.int (s.w : Int)), .d (qD s.q), .d (.int (s.d : Int))] = some (.own (nats (mins s)), [.d (lD s.ls), .d (.int (s.w : Int)), .d (qD s.q), .d (.int (s.d : Int))]) := by
  have hd := h.d
  have c11 := fun m (hm : m < 1000) => lquiet_ok k (q := s.q) (m := m) h.d0 hm (by omega : s.d < 1000)
  refine call_py rfl rfl (by decide) ?_
  show OK (evSs _ [] b12 [some (.d (lD s.ls)), dn s.w, some (.d (qD s.q)), dn s.d, none, none]) _
  generalize callT TT [] (k + 1) = C at c11 ⊢
  refine ok_ret (r := .v (.own (nats (mins s)))) (e1 := [some (.d (lD s.ls)), dn s.w, some (.d (qD s.q)), dn s.d, none, none]) ?_ (by simp [endF, outs])
  refine lc_of (Γ := ⟨C, ioT TT, []⟩) (env := [some (.d (lD s.ls)), dn s.w, some (.d (qD s.q)), dn s.d, none, none]) (own := [4]) (lk := []) (g := none) (fun n : Nat => PyData.int (n : Int)) (List.range 40) (fun m => !isq s.q m s.d && near s m) (fun n : Nat => PyData.int (n : Int)) (evI_rngS (i := 40) ev_con rfl (by decide)) rfl trivial (by simp [backOwn, wipeE, rd]) fun m hm => ?_
  have hm := List.mem_range.mp hm
  refine ⟨[some (.d (lD s.ls)), dn s.w, some (.d (qD s.q)), dn s.d, dn m, none], by simp [bindT, wipeE], ?_, by simp [wipeE], fun _ => by simp [ev, rd, fz, valD]⟩
  refine evC_and (evC_not (evC_b (call_pure (rs := [.v (.d (qD s.q)), .v (.d (.int (m : Int))), .v (.d (.int (s.d : Int)))]) (by simp [evL, ev, rd]) rfl (by simp [argVals, io11, nonIo, valD]) (c11 m (by omega))))) fun _ => ?_
  have hlc : ev ⟨C, ioT TT, []⟩ (.lc (.var 5) (.nm 5) (.seq (.var 0)) (.chain .le .le (.var 5) (.var 4) (.bin .add (.var 5) (.var 1))) [5]) [some (.d (lD s.ls)), dn s.w, some (.d (qD s.q)), dn s.d, dn m, none] = some (.v (.own (nats (s.ls.filter fun c => decide (c ≤ m) && decide (m ≤ c + s.w)))), [some (.d (lD s.ls)), dn s.w, some (.d (qD s.q)), dn s.d, dn m, none]) := by
    refine lc_of (lk := []) (g := none) (fun n : Nat => PyData.int (n : Int)) s.ls (fun c => decide (c ≤ m) && decide (m ≤ c + s.w)) (fun n : Nat => PyData.int (n : Int)) (by simp [evI, ev, rd, srcOf, valD, itemsD, lD, nats]) rfl trivial (by simp [backOwn, wipeE, rd]) fun c hc => ?_
    exact ⟨[some (.d (lD s.ls)), dn s.w, some (.d (qD s.q)), dn s.d, dn m, dn c], by simp [bindT, wipeE], evC_b (ev_chain (z := .int ((c + s.w : Nat) : Int)) (ev_var rfl) (ev_var rfl) (ev_add (i := (c : Int)) (j := (s.w : Int)) (ev_var rfl) (ev_var rfl)) le_nat le_nat), by simp [wipeE], fun _ => by simp [ev, rd, fz, valD]⟩
  have := evC_cmp (op := .gt) (len_ev hlc) (ev_con (c := .int 0)) (gt_nat (b := 0))
  rw [this, nats_len, pos_any]
  rfl

set_option exponentiation.threshold 3000
def optD : Option Nat → D
  | none => .none
  | some m => .int (m : Int)
def tD (T : List (Option Nat)) : List D := T.map optD
theorem tD_len (T : List (Option Nat)) : (tD T).length = T.length := by simp [tD]
def gM (M : List Nat) (i : Nat) : Nat := M.getD i 0
def gT (T : List (Option Nat)) (i : Nat) : Option Nat := T.getD i none
theorem tD_ix {T : List (Option Nat)} {i : Nat} (h : i < T.length) : idxD (.list (tD T)) (.int (i : Int)) = some (optD (gT T i)) := by
  refine (atI_nat ?_ : atI (tD T) (i : Int) = _)
  rw [gT, tD, List.getElem?_map, List.getElem?_eq_getElem h, List.getD_eq_getElem?_getD, List.getElem?_eq_getElem h]
  rfl
theorem nats_gd {M : List Nat} {i : Nat} (h : i < M.length) : idxD (.list (nats M)) (.int (i : Int)) = some (.int ((gM M i : Nat) : Int)) :=
  nats_ix (by rw [gM, List.getD_eq_getElem?_getD, List.getElem?_eq_getElem h]; rfl)
theorem fsI_pos {α : Type} (p : α → Bool) : ∀ (l : List α) (i : Nat), (fsI (fun j a => if p a then some (PyData.int (j : Int)) else none) i l = none ∧ l.any p = false) ∨ ∃ j : Nat, fsI (fun j a => if p a then some (PyData.int (j : Int)) else none) i l = some (.int (j : Int)) ∧ l.any p = true
  | [], i => .inl ⟨rfl, rfl⟩
  | a :: r, i => by
    rw [fsI, List.any_cons]
    cases h : p a with
    | true => exact .inr ⟨i, by simp⟩
    | false =>
      rcases fsI_pos p r (i + 1) with ⟨h1, h2⟩ | ⟨j, h1, h2⟩
      · exact .inl ⟨by simpa using h1, by simpa using h2⟩
      · exact .inr ⟨j, by simpa using h1, by simpa using h2⟩
def psd (s : Sc) (last : Int) (m : Nat) : Bool := s.ls.any fun c => decide (last < (c : Int)) && decide (c + s.w < m)
theorem passed_ok (k : Nat) {s : Sc} {last : Int} {m : Nat} : ∃ x : D, isNon x = !psd s last m ∧ callT TT [] (k + 1) 2 [.d (lD s.ls), .d (.int (s.w : Int)), .d (.int last), .d (.int (m : Int))] = some (.d x, [.d (lD s.ls), .d (.int (s.w : Int)), .d (.int last), .d (.int (m : Int))]) := by
  have key : ∃ x : D, isNon x = !psd s last m ∧ ∀ C, OK (evSs ⟨C, ioT TT, []⟩ [] b2 [some (.d (lD s.ls)), dn s.w, di last, dn m, none, none]) (fun r => endF [] [.d (lD s.ls), .d (.int (s.w : Int)), .d (.int last), .d (.int (m : Int))] r = some (.d x, [.d (lD s.ls), .d (.int (s.w : Int)), .d (.int last), .d (.int (m : Int))])) := by
    have loop : ∀ C, OK (evS ⟨C, ioT TT, []⟩ [] (b2.getD 0 .pass) [some (.d (lD s.ls)), dn s.w, di last, dn m, none, none]) (fsE (fun e => ∃ x4 x5, e = [some (.d (lD s.ls)), dn s.w, di last, dn m, x4, x5]) (fsI (fun j (c : Nat) => if (decide (last < (c : Int)) && decide (c + s.w < m)) then some (PyData.int (j : Int)) else none) 0 s.ls)) := by
      intro C
      refine for_first (lk := []) (g := none) (items := enumOf 0 (nats s.ls)) (e1 := [some (.d (lD s.ls)), dn s.w, di last, dn m, none, none]) (fun i (c : Nat) => .tuple [.int (i : Int), .int (c : Int)]) s.ls _ _ (by simp [evI, ev, rd, srcL, valD, lD]) (fun i x hx => ?_) (by rw [enum_len, nats_len]) (fun _ _ => trivial) ⟨none, none, rfl⟩ ?_
      · obtain ⟨y, h1, h2⟩ := enum_at hx
        obtain ⟨c, h3, rfl⟩ := nats_at h1
        exact ⟨c, h3, by rw [h2, Nat.zero_add]⟩
      · rintro i c e hc ⟨x4, x5, rfl⟩
        refine ⟨[some (.d (lD s.ls)), dn s.w, di last, dn m, dn i, dn c], by simp [bindT, bindTs], ?_⟩
        have hcc : evC ⟨C, ioT TT, []⟩ (.andE (.cmp .gt (.var 5) (.var 2)) (.cmp .lt (.bin .add (.var 5) (.var 1)) (.var 3))) [some (.d (lD s.ls)), dn s.w, di last, dn m, dn i, dn c] = some (decide (last < (c : Int)) && decide (c + s.w < m), [some (.d (lD s.ls)), dn s.w, di last, dn m, dn i, dn c]) :=
          evC_and (evC_cmp (op := .gt) (ev_var rfl) (ev_var rfl) rfl) fun _ => evC_cmp (op := .lt) (x := .int ((c + s.w : Nat) : Int)) (ev_add (i := (c : Int)) (j := (s.w : Int)) (ev_var rfl) (ev_var rfl)) (ev_var rfl) lt_nat
        refine ok_one (ok_ifs hcc (fun hk => ?_) fun hk => ok_nil ?_)
        · rw [hk]; exact ok_ret (ev_var (x := .int (i : Int)) rfl) ⟨_, rfl⟩
        · rw [hk]; exact ⟨_, ⟨_, _, rfl⟩, rfl⟩
    rcases fsI_pos (fun c : Nat => decide (last < (c : Int)) && decide (c + s.w < m)) s.ls 0 with ⟨h1, h2⟩ | ⟨j, h1, h2⟩
    · refine ⟨.none, by rw [show psd s last m = false from h2]; rfl, fun C => ok_cons ((loop C).imp ?_)⟩
      intro r hr
      rw [h1] at hr
      obtain ⟨e, ⟨x4, x5, rfl⟩, rfl⟩ := hr
      exact ok_ret ev_con (by simp [endF, outs])
    · refine ⟨.int (j : Int), by rw [show psd s last m = true from h2]; rfl, fun C => ok_cons ((loop C).imp ?_)⟩
      intro r hr
      rw [h1] at hr
      obtain ⟨e, rfl⟩ := hr
      show endF _ _ _ = _
      simp [endF, outs]
  obtain ⟨x, hx, h⟩ := key
  exact ⟨x, hx, call_py rfl rfl (by decide) (h _)⟩
theorem lpassed_ok (k : Nat) {s : Sc} {last : Int} {m : Nat} : callT TT [] (k + 1) 13 [.d (lD s.ls), .d (.int (s.w : Int)), .d (.int last), .d (.int (m : Int))] = some (.d (.bool (psd s last m)), [.d (lD s.ls), .d (.int (s.w : Int)), .d (.int last), .d (.int (m : Int))]) := by
  refine call_py rfl rfl (by decide) ?_
  show OK (evSs _ [] b13 [some (.d (lD s.ls)), dn s.w, di last, dn m, none]) _
  generalize callT TT [] k = C
  refine ok_ret (r := .v (.d (.bool (psd s last m)))) (e1 := [some (.d (lD s.ls)), dn s.w, di last, dn m, none]) ?_ (by simp [endF, outs])
  have hlc : ev ⟨C, ioT TT, []⟩ (.lc (.var 4) (.nm 4) (.seq (.var 0)) (.andE (.cmp .gt (.var 4) (.var 2)) (.cmp .lt (.bin .add (.var 4) (.var 1)) (.var 3))) [4]) [some (.d (lD s.ls)), dn s.w, di last, dn m, none] = some (.v (.own (nats (s.ls.filter fun c => decide (last < (c : Int)) && decide (c + s.w < m)))), [some (.d (lD s.ls)), dn s.w, di last, dn m, none]) := by
    refine lc_of (lk := []) (g := none) (fun n : Nat => PyData.int (n : Int)) s.ls (fun c => decide (last < (c : Int)) && decide (c + s.w < m)) (fun n : Nat => PyData.int (n : Int)) (by simp [evI, ev, rd, srcOf, valD, itemsD, lD, nats]) rfl trivial (by simp [backOwn, wipeE, rd]) fun c hc => ?_
    exact ⟨[some (.d (lD s.ls)), dn s.w, di last, dn m, dn c], by simp [bindT, wipeE], evC_and (evC_cmp (op := .gt) (ev_var rfl) (ev_var rfl) rfl) fun _ => evC_cmp (op := .lt) (x := .int ((c + s.w : Nat) : Int)) (ev_add (i := (c : Int)) (j := (s.w : Int)) (ev_var rfl) (ev_var rfl)) (ev_var rfl) lt_nat, by simp [wipeE], fun _ => by simp [ev, rd, fz, valD]⟩
  have := ev_cmpS (op := .gt) (len_ev hlc) (ev_con (c := .int 0)) (gt_nat (b := 0))
  rw [this, nats_len, pos_any]
  rfl
/-- a minute may follow another one -/
def fol (s : Sc) (a b : Nat) : Bool := decide (a + s.g ≤ b) && !psd s (a : Int) b
theorem follows_ok (k : Nat) {s : Sc} {M : List Nat} {o t : Nat} (ho : o < M.length) (ht : t < M.length) : callT TT [] (k + 2) 4 [.d (lD s.ls), .d (.int (s.w : Int)), .d (.int (s.g : Int)), .d (lD M), .d (.int (o : Int)), .d (.int (t : Int))] = some (.d (.bool (fol s (gM M o) (gM M t))), [.d (lD s.ls), .d (.int (s.w : Int)), .d (.int (s.g : Int)), .d (lD M), .d (.int (o : Int)), .d (.int (t : Int))]) := by
  obtain ⟨x, hx, c2⟩ := passed_ok k (s := s) (last := ((gM M o : Nat) : Int)) (m := gM M t)
  refine call_py rfl rfl (by decide) ?_
  show OK (evSs _ [] b4 [some (.d (lD s.ls)), dn s.w, dn s.g, some (.d (lD M)), dn o, dn t]) _
  generalize callT TT [] (k + 1) = C at c2 ⊢
  refine ok_ret (r := .v (.d (.bool (fol s (gM M o) (gM M t))))) (e1 := [some (.d (lD s.ls)), dn s.w, dn s.g, some (.d (lD M)), dn o, dn t]) ?_ (by simp [endF, outs])
  have i1 : ev ⟨C, ioT TT, []⟩ (.idx (.var 3) (.var 4)) [some (.d (lD s.ls)), dn s.w, dn s.g, some (.d (lD M)), dn o, dn t] = _ := ev_idxV (ev_var rfl) (ev_var rfl) (nats_gd ho)
  have i2 : ev ⟨C, ioT TT, []⟩ (.idx (.var 3) (.var 5)) [some (.d (lD s.ls)), dn s.w, dn s.g, some (.d (lD M)), dn o, dn t] = _ := ev_idxV (ev_var rfl) (ev_var rfl) (nats_gd ht)
  generalize gM M o = a at *
  generalize gM M t = b at *
  unfold fol
  refine bool_and (ev_cmpS (op := .ge) (ev_sub i2 i1) (ev_var rfl) ?_) fun _ => ?_
  · simp only [cmpD, Option.some.injEq]
    exact decide_eq_decide.mpr (by omega)
  · rw [← hx]
    refine ev_cmpS (op := .isN) (call_pure (rs := [.v (.d (lD s.ls)), .v (.d (.int (s.w : Int))), .v (.d (.int (a : Int))), .v (.d (.int (b : Int)))]) ?_ rfl (by simp only [argVals, io2, nonIo, valD, List.not_mem_nil, if_false, Option.map_some, Option.bind_some]) c2) ev_con rfl
    rw [evL, ev_var rfl, Option.bind_some]
    simp only [evL, ev_var (x := .int (s.w : Int)) (show rd [some (.d (lD s.ls)), dn s.w, dn s.g, some (.d (lD M)), dn o, dn t] 1 = _ from rfl), i1, i2, Option.bind_some, Option.map_some]
/-- the costs by which a minute is reached: behind others -/
def Rr (s : Sc) (M : List Nat) (T : List (Option Nat)) (t : Nat) (l : List Nat) : List Nat := ((l.filter fun o => fol s (gM M o) (gM M t)).filter fun o => (gT T o).isSome).map fun o => (gT T o).getD 0 + 1
def one1 (s : Sc) (m : Nat) : List Nat := if psd s (-1) m then [] else [1]
def rws (s : Sc) (M : List Nat) (T : List (Option Nat)) (t : Nat) : List Nat := Rr s M T t (List.range t) ++ one1 s (gM M t)
def lrws (s : Sc) (M : List Nat) (T : List (Option Nat)) (t : Nat) : List Nat := one1 s (gM M t) ++ Rr s M T t (List.range t)
theorem lrows_ok (k : Nat) {s : Sc} {M : List Nat} {T : List (Option Nat)} {t : Nat} (hM : M.length ≤ 40) (hT : T.length = M.length) (ht : t < M.length) :
    callT TT [] (k + 2) 14 [.d (lD s.ls), .d (.int (s.w : Int)), .d (.int (s.g : Int)), .d (lD M), .d (.list (tD T)), .d (.int (t : Int))] = some (.own (nats (lrws s M T t)), [.d (lD s.ls), .d (.int (s.w : Int)), .d (.int (s.g : Int)), .d (lD M), .d (.list (tD T)), .d (.int (t : Int))]) := by
  have c13 := fun (last : Int) (m : Nat) => lpassed_ok k (s := s) (last := last) (m := m)
  refine call_py rfl rfl (by decide) ?_
  show OK (evSs _ [] b14 [some (.d (lD s.ls)), dn s.w, dn s.g, some (.d (lD M)), some (.d (.list (tD T))), dn t, none, none]) _
  generalize callT TT [] (k + 1) = C at c13 ⊢
  have idM : ∀ (o : Nat) (e : Env) (b : ME), o < M.length → rd e 3 = some (.d (lD M)) → ev ⟨C, ioT TT, []⟩ b e = some (.v (.d (.int (o : Int))), e) → ev ⟨C, ioT TT, []⟩ (.idx (.var 3) b) e = some (.v (.d (.int ((gM M o : Nat) : Int))), e) := fun o e b ho h3 hb => ev_idxV (ev_var h3) hb (nats_gd ho)
  have ps : ∀ (e : Env) (a b : ME) (last : Int) (m : Nat), rd e 0 = some (.d (lD s.ls)) → rd e 1 = dn s.w → ev ⟨C, ioT TT, []⟩ a e = some (.v (.d (.int last)), e) → ev ⟨C, ioT TT, []⟩ b e = some (.v (.d (.int (m : Int))), e) → ev ⟨C, ioT TT, []⟩ (.call 13 [(.var 0), (.var 1), a, b]) e = some (.v (.d (.bool (psd s last m))), e) := fun e a b last m h0 h1 ha hb => by
    refine call_pure (rs := [.v (.d (lD s.ls)), .v (.d (.int (s.w : Int))), .v (.d (.int last)), .v (.d (.int (m : Int)))]) ?_ rfl (by simp only [argVals, io13, nonIo, valD, List.not_mem_nil, if_false, Option.map_some, Option.bind_some]) (c13 last m)
    rw [evL, ev_var h0, Option.bind_some]
    simp only [evL, ev_var (x := .int (s.w : Int)) h1, ha, hb, Option.bind_some, Option.map_some]
  refine ok_step (e1 := [some (.d (lD s.ls)), dn s.w, dn s.g, some (.d (lD M)), some (.d (.list (tD T))), dn t, some (.own (nats (one1 s (gM M t)))), none]) (asg_step ?_ (by simp) (by simp)) ?_
  · have ec := evC_not (evC_b (ps [some (.d (lD s.ls)), dn s.w, dn s.g, some (.d (lD M)), some (.d (.list (tD T))), dn t, none, none] (.bin .sub (.con (.int 0)) (.con (.int 1))) (.idx (.var 3) (.var 5)) (-1) (gM M t) rfl rfl (ev_sub ev_con ev_con) (idM t _ _ ht rfl (ev_var rfl))))
    rw [ev_ite ec]
    unfold one1
    cases psd s (-1) (gM M t) <;> simp [ev, evF, fz, valD, nats]
  refine ok_cons (ok_for (s := ⟨nats (List.range t), [], none⟩) (e1 := [some (.d (lD s.ls)), dn s.w, dn s.g, some (.d (lD M)), some (.d (.list (tD T))), dn t, some (.own (nats (one1 s (gM M t)))), none]) (evI_rng (ev_var rfl) (by omega))
    (fun i e => ∃ x7, e = [some (.d (lD s.ls)), dn s.w, dn s.g, some (.d (lD M)), some (.d (.list (tD T))), dn t, some (.own (nats (one1 s (gM M t) ++ Rr s M T t (List.range i)))), x7]) ⟨none, by simp [Rr]⟩ ?_ ?_)
  · rintro i x e hx ⟨x7, rfl⟩
    obtain ⟨o, ho, rfl⟩ := nats_at hx
    obtain ⟨hi, ho⟩ := List.getElem?_eq_some_iff.mp ho
    rw [List.getElem_range] at ho
    subst ho
    rw [List.length_range] at hi
    refine ⟨trivial, [some (.d (lD s.ls)), dn s.w, dn s.g, some (.d (lD M)), some (.d (.list (tD T))), dn t, some (.own (nats (one1 s (gM M t) ++ Rr s M T t (List.range i)))), dn i], by simp [bindT], ?_⟩
    have hlen : (one1 s (gM M t) ++ Rr s M T t (List.range i)).length ≤ 41 := by
      rw [List.length_append]
      have h1 : (one1 s (gM M t)).length ≤ 1 := by unfold one1; split <;> simp
      have h2 : (Rr s M T t (List.range i)).length ≤ i := by
        unfold Rr
        rw [List.length_map]
        exact Nat.le_trans (List.length_filter_le _ _) (Nat.le_trans (List.length_filter_le _ _) (by simp))
      omega
    have hR : Rr s M T t (List.range (i + 1)) = Rr s M T t (List.range i) ++ (if fol s (gM M i) (gM M t) && (gT T i).isSome then [(gT T i).getD 0 + 1] else []) := by
      unfold Rr
      rw [List.range_succ, List.filter_append, List.filter_append, List.map_append]
      congr 1
      cases h1 : fol s (gM M i) (gM M t) with
      | false => rw [List.filter_cons_of_neg (by simp [h1])]; simp
      | true =>
        rw [List.filter_cons_of_pos (by simp [h1])]
        cases h2 : (gT T i).isSome with
        | false => simp only [List.filter_nil]; rw [List.filter_cons_of_neg (by simp [h2])]; simp
        | true => simp only [List.filter_nil]; rw [List.filter_cons_of_pos (by simp [h2])]; simp
    rw [hR, ← List.append_assoc]
    generalize one1 s (gM M t) ++ Rr s M T t (List.range i) = A at hlen
    have i1 : ev ⟨C, ioT TT, []⟩ (.idx (.var 3) (.var 7)) [some (.d (lD s.ls)), dn s.w, dn s.g, some (.d (lD M)), some (.d (.list (tD T))), dn t, some (.own (nats A)), dn i] = _ := idM i _ _ (by omega) rfl (ev_var rfl)
    have i2 : ev ⟨C, ioT TT, []⟩ (.idx (.var 3) (.var 5)) [some (.d (lD s.ls)), dn s.w, dn s.g, some (.d (lD M)), some (.d (.list (tD T))), dn t, some (.own (nats A)), dn i] = _ := idM t _ _ ht rfl (ev_var rfl)
    have i4 : ev ⟨C, ioT TT, []⟩ (.idx (.var 4) (.var 7)) [some (.d (lD s.ls)), dn s.w, dn s.g, some (.d (lD M)), some (.d (.list (tD T))), dn t, some (.own (nats A)), dn i] = _ := ev_idxV (ev_var rfl) (ev_var rfl) (tD_ix (by omega : i < T.length))
    have pp := ps [some (.d (lD s.ls)), dn s.w, dn s.g, some (.d (lD M)), some (.d (.list (tD T))), dn t, some (.own (nats A)), dn i] _ _ _ _ rfl rfl i1 i2
    generalize gM M i = a at *
    generalize gM M t = b at *
    generalize gT T i = v at *
    have hcc : evC ⟨C, ioT TT, []⟩ (.andE (.cmp .ge (.bin .sub (.idx (.var 3) (.var 5)) (.idx (.var 3) (.var 7))) (.var 2)) (.andE (.notE (.call 13 [(.var 0), (.var 1), (.idx (.var 3) (.var 7)), (.idx (.var 3) (.var 5))])) (.cmp .notN (.idx (.var 4) (.var 7)) (.con .none)))) [some (.d (lD s.ls)), dn s.w, dn s.g, some (.d (lD M)), some (.d (.list (tD T))), dn t, some (.own (nats A)), dn i] = some (fol s a b && v.isSome, [some (.d (lD s.ls)), dn s.w, dn s.g, some (.d (lD M)), some (.d (.list (tD T))), dn t, some (.own (nats A)), dn i]) := by
      have hg : cmpD .ge (.int ((b : Int) - (a : Int))) (.int (s.g : Int)) = some (decide (a + s.g ≤ b)) := by
        simp only [cmpD, Option.some.injEq]
        exact decide_eq_decide.mpr (by omega)
      have hv : cmpD .notN (optD v) .none = some v.isSome := by cases v <;> rfl
      rw [evC_and (evC_cmp (op := .ge) (ev_sub i2 i1) (ev_var rfl) hg) fun _ => evC_and (evC_not (evC_b pp)) fun _ => evC_cmp (op := .notN) i4 ev_con hv]
      unfold fol
      rw [Bool.and_assoc]
    refine ok_one (ok_ifs hcc (fun hk => ?_) fun hk => ok_nil ⟨dn i, by rw [hk]; simp⟩)
    rw [Bool.and_eq_true] at hk
    cases v with
    | none => simp at hk
    | some v =>
      refine ok_step (app_step (x := .int ((v + 1 : Nat) : Int)) rfl (ev_add (i := (v : Int)) (j := 1) i4 ev_con) rfl (by rw [nats_len, sizeLine_eq]; omega)) (ok_nil ⟨dn i, ?_⟩)
      rw [nats_app, hk.1]
      rfl
  · rintro e ⟨x7, rfl⟩
    refine ⟨trivial, ?_⟩
    rw [show (Src.items ⟨nats (List.range t), [], none⟩).length = t by rw [show (Src.items ⟨nats (List.range t), [], none⟩) = nats (List.range t) from rfl, nats_len, List.length_range]]
    exact ok_ret (r := .ali 6) (ev_ali rfl) (by simp [endF, outs, lrws, rd, isSt])

set_option exponentiation.threshold 3000
def tb (s : Sc) (M : List Nat) : Nat → List (Option Nat)
  | 0 => []
  | n + 1 => tb s M n ++ [(rws s M (tb s M n) n).min?]
theorem tb_len (s : Sc) (M : List Nat) : ∀ n, (tb s M n).length = n
  | 0 => rfl
  | n + 1 => by rw [tb, List.length_append, tb_len s M n]; rfl
theorem tb_app (s : Sc) (M : List Nat) : ∀ n m, n ≤ m → ∃ R, tb s M m = tb s M n ++ R
  | n, 0, h => ⟨[], by rw [show n = 0 by omega]; rfl⟩
  | n, m + 1, h => by
    by_cases e : n = m + 1
    · exact ⟨[], by rw [e]; simp⟩
    · obtain ⟨R, hR⟩ := tb_app s M n m (by omega)
      exact ⟨R ++ [(rws s M (tb s M m) m).min?], by rw [tb, hR, List.append_assoc]⟩
theorem gT_app {T R : List (Option Nat)} {i : Nat} (h : i < T.length) : gT (T ++ R) i = gT T i := by
  unfold gT
  rw [List.getD_eq_getElem?_getD, List.getD_eq_getElem?_getD, List.getElem?_append_left h]
theorem rws_congr {s : Sc} {M : List Nat} {T T' : List (Option Nat)} {t : Nat} (h : ∀ o, o < t → gT T o = gT T' o) : rws s M T t = rws s M T' t := by
  have e : Rr s M T t (List.range t) = Rr s M T' t (List.range t) := by
    unfold Rr
    have e1 : ((List.range t).filter fun o => fol s (gM M o) (gM M t)).filter (fun o => (gT T o).isSome) = ((List.range t).filter fun o => fol s (gM M o) (gM M t)).filter (fun o => (gT T' o).isSome) := List.filter_congr fun o ho => by
      rw [h o (List.mem_range.mp (List.mem_filter.mp ho).1)]
    rw [e1]
    refine List.map_congr_left fun o ho => ?_
    rw [h o (List.mem_range.mp (List.mem_filter.mp (List.mem_filter.mp ho).1).1)]
  unfold rws
  rw [e]
theorem tb_at {s : Sc} {M : List Nat} {n i : Nat} (h : i < n) : gT (tb s M n) i = (rws s M (tb s M n) i).min? := by
  obtain ⟨R, hR⟩ := tb_app s M (i + 1) n h
  have e1 : gT (tb s M n) i = (rws s M (tb s M i) i).min? := by
    rw [hR, gT_app (by rw [tb_len]; omega), tb]
    unfold gT
    rw [List.getD_eq_getElem?_getD, List.getElem?_append_right (by rw [tb_len]; omega), tb_len]
    simp
  rw [e1]
  congr 1
  obtain ⟨R', hR'⟩ := tb_app s M i n (by omega)
  exact rws_congr fun o ho => by rw [hR', gT_app (by rw [tb_len]; exact ho)]
theorem enum_nats (M : List Nat) : enumOf 0 (nats M) = (List.range M.length).map fun i => .tuple [.int (i : Int), .int ((gM M i : Nat) : Int)] := by
  have key : ∀ (l : List Nat) (k : Nat) (f : Nat → Nat), (∀ i, i < l.length → l.getD i 0 = f (k + i)) → enumOf k (nats l) = (List.range' k l.length).map fun i => .tuple [.int (i : Int), .int ((f i : Nat) : Int)] := by
    intro l
    induction l with
    | nil => intro k f h; rfl
    | cons a r ih =>
      intro k f h
      have h0 := h 0 (by simp)
      rw [List.length_cons, List.range'_succ, List.map_cons, show nats (a :: r) = .int (a : Int) :: nats r from rfl, enumOf, ih (k + 1) f fun i hi => ?_]
      · have h0 : a = f k := by simpa using h0
        rw [h0]
      · have := h (i + 1) (by simp; omega)
        rw [show k + 1 + i = k + (i + 1) by omega, ← this]
        simp
  rw [List.range_eq_range']
  exact key M 0 (gM M) fun i _ => by rw [Nat.zero_add]; rfl
theorem table_ok (k : Nat) {s : Sc} {M : List Nat} (hM : M.length ≤ 40) : callT TT [] (k + 3) 5 [.d (lD s.ls), .d (.int (s.w : Int)), .d (.int (s.g : Int)), .d (lD M)] = some (.own (tD (tb s M M.length)), [.d (lD s.ls), .d (.int (s.w : Int)), .d (.int (s.g : Int)), .d (lD M)]) := by
  have c4 := fun (o t : Nat) (ho : o < M.length) (ht : t < M.length) => follows_ok k (s := s) ho ht
  have c2 := fun (last : Int) (m : Nat) => passed_ok (k + 1) (s := s) (last := last) (m := m)
  refine call_py rfl rfl (by decide) ?_
  show OK (evSs _ [] b5 [some (.d (lD s.ls)), dn s.w, dn s.g, some (.d (lD M)), none, none, none, none, none, none]) _
  generalize callT TT [] (k + 2) = C at c4 c2 ⊢
  refine ok_step (e1 := [some (.d (lD s.ls)), dn s.w, dn s.g, some (.d (lD M)), some (.own []), none, none, none, none, none]) (asg_step (by simp [ev, evF]) (by simp) (by simp)) ?_
  refine ok_cons (ok_for (s := ⟨enumOf 0 (nats M), [], none⟩) (e1 := [some (.d (lD s.ls)), dn s.w, dn s.g, some (.d (lD M)), some (.own []), none, none, none, none, none]) (by simp [evI, ev, rd, srcL, valD, lD])
    (fun i e => ∃ x5 x6 x7 x8, e = [some (.d (lD s.ls)), dn s.w, dn s.g, some (.d (lD M)), some (.own (tD (tb s M i))), x5, x6, x7, x8, none]) ⟨none, none, none, none, rfl⟩ ?_ ?_)
  · rintro i x e hx ⟨x5, x6, x7, x8, rfl⟩
    have hx : (enumOf 0 (nats M))[i]? = some x := hx
    rw [enum_nats, List.getElem?_map] at hx
    obtain ⟨i', h1, rfl⟩ := Option.map_eq_some_iff.mp hx
    obtain ⟨hi, h1⟩ := List.getElem?_eq_some_iff.mp h1
    rw [List.getElem_range] at h1
    subst h1
    rw [List.length_range] at hi
    refine ⟨trivial, [some (.d (lD s.ls)), dn s.w, dn s.g, some (.d (lD M)), some (.own (tD (tb s M i))), dn i, dn (gM M i), x7, x8, none], by simp [bindT, bindTs], ?_⟩
    rw [tb]
    have hTl := tb_len s M i
    generalize tb s M i = T at hTl
    have e7 : ev ⟨C, ioT TT, []⟩ (.lc (.var 9) (.nm 9) (.rng [(.var 5)]) (.call 4 [(.var 0), (.var 1), (.var 2), (.var 3), (.var 9), (.var 5)]) [9]) [some (.d (lD s.ls)), dn s.w, dn s.g, some (.d (lD M)), some (.own (tD T)), dn i, dn (gM M i), x7, x8, none] = some (.v (.own (nats ((List.range i).filter fun o => fol s (gM M o) (gM M i)))), [some (.d (lD s.ls)), dn s.w, dn s.g, some (.d (lD M)), some (.own (tD T)), dn i, dn (gM M i), x7, x8, none]) := by
      refine lc_of (lk := []) (g := none) (fun n : Nat => PyData.int (n : Int)) (List.range i) (fun o => fol s (gM M o) (gM M i)) (fun n : Nat => PyData.int (n : Int)) (evI_rng (ev_var rfl) (by omega)) rfl trivial (by simp [backOwn, wipeE, rd]) fun o ho => ?_
      have ho := List.mem_range.mp ho
      exact ⟨[some (.d (lD s.ls)), dn s.w, dn s.g, some (.d (lD M)), some (.own (tD T)), dn i, dn (gM M i), x7, x8, dn o], by simp [bindT, wipeE], evC_b (call_pure (rs := [.v (.d (lD s.ls)), .v (.d (.int (s.w : Int))), .v (.d (.int (s.g : Int))), .v (.d (lD M)), .v (.d (.int (o : Int))), .v (.d (.int (i : Int)))]) (by simp [evL, ev, rd]) rfl (by simp [argVals, io4, nonIo, valD]) (c4 o i (by omega) hi)), by simp [wipeE], fun _ => by simp [ev, rd, fz, valD]⟩
    refine ok_step (e1 := [some (.d (lD s.ls)), dn s.w, dn s.g, some (.d (lD M)), some (.own (tD T)), dn i, dn (gM M i), some (.own (nats ((List.range i).filter fun o => fol s (gM M o) (gM M i)))), x8, none]) (asg_step e7 (by simp) (by simp)) ?_
    have e8 : ev ⟨C, ioT TT, []⟩ (.lc (.bin .add (.idx (.var 4) (.var 9)) (.con (.int 1))) (.nm 9) (.seq (.var 7)) (.cmp .notN (.idx (.var 4) (.var 9)) (.con .none)) [9]) [some (.d (lD s.ls)), dn s.w, dn s.g, some (.d (lD M)), some (.own (tD T)), dn i, dn (gM M i), some (.own (nats ((List.range i).filter fun o => fol s (gM M o) (gM M i)))), x8, none] = some (.v (.own (nats (Rr s M T i (List.range i)))), [some (.d (lD s.ls)), dn s.w, dn s.g, some (.d (lD M)), some (.own (tD T)), dn i, dn (gM M i), some (.own (nats ((List.range i).filter fun o => fol s (gM M o) (gM M i)))), x8, none]) := by
      rw [lc_of (lk := [7]) (g := some (7, nats ((List.range i).filter fun o => fol s (gM M o) (gM M i)))) (fun n : Nat => PyData.int (n : Int)) ((List.range i).filter fun o => fol s (gM M o) (gM M i)) (fun o => (gT T o).isSome) (fun o => PyData.int (((gT T o).getD 0 + 1 : Nat) : Int)) (by simp [evI, ev, rd, srcOf, nats]) (by simp) (.inl (by simp [wipeE, rd])) (by simp [backOwn, wipeE, rd]) fun o ho => ?_]
      · simp [nats, Rr, Function.comp_def]
      · have ho := List.mem_range.mp (List.mem_filter.mp ho).1
        have i4 : ev ⟨C, ioT TT, []⟩ (.idx (.var 4) (.var 9)) [some (.d (lD s.ls)), dn s.w, dn s.g, some (.d (lD M)), some (.own (tD T)), dn i, dn (gM M i), some (.own (nats ((List.range i).filter fun o => fol s (gM M o) (gM M i)))), x8, dn o] = _ := idx_var (.inl rfl) (ev_var rfl) (tD_ix (by omega : o < T.length))
        refine ⟨[some (.d (lD s.ls)), dn s.w, dn s.g, some (.d (lD M)), some (.own (tD T)), dn i, dn (gM M i), some (.own (nats ((List.range i).filter fun o => fol s (gM M o) (gM M i)))), x8, dn o], by simp [bindT, wipeE], evC_cmp (op := .notN) i4 ev_con (by cases gT T o <;> rfl), by simp [wipeE], fun hp => ?_⟩
        cases hv : gT T o with
        | none => rw [hv] at hp; cases hp
        | some v =>
          rw [hv] at i4
          rw [ev_add (i := (v : Int)) (j := 1) i4 ev_con]
          rfl
    refine ok_step (e1 := [some (.d (lD s.ls)), dn s.w, dn s.g, some (.d (lD M)), some (.own (tD T)), dn i, dn (gM M i), some (.own (nats ((List.range i).filter fun o => fol s (gM M o) (gM M i)))), some (.own (nats (Rr s M T i (List.range i)))), none]) (asg_step e8 (by simp) (by simp)) ?_
    generalize (some (.own (nats ((List.range i).filter fun o => fol s (gM M o) (gM M i)))) : Option Val) = y7
    have hRl : (Rr s M T i (List.range i)).length ≤ 40 := by
      unfold Rr
      rw [List.length_map]
      exact Nat.le_trans (List.length_filter_le _ _) (Nat.le_trans (List.length_filter_le _ _) (by simp; omega))
    obtain ⟨x, hx, hc2⟩ := c2 (-1) (gM M i)
    have ec : evC ⟨C, ioT TT, []⟩ (.cmp .isN (.call 2 [(.var 0), (.var 1), (.neg (.con (.int 1))), (.var 6)]) (.con .none)) [some (.d (lD s.ls)), dn s.w, dn s.g, some (.d (lD M)), some (.own (tD T)), dn i, dn (gM M i), y7, some (.own (nats (Rr s M T i (List.range i)))), none] = some (!psd s (-1) (gM M i), [some (.d (lD s.ls)), dn s.w, dn s.g, some (.d (lD M)), some (.own (tD T)), dn i, dn (gM M i), y7, some (.own (nats (Rr s M T i (List.range i)))), none]) := by
      rw [← hx]
      exact evC_cmp (op := .isN) (call_pure (rs := [.v (.d (lD s.ls)), .v (.d (.int (s.w : Int))), .v (.d (.int (-1))), .v (.d (.int ((gM M i : Nat) : Int)))]) (by simp [evL, ev, rd, cur_v]) rfl (by simp [argVals, io2, nonIo, valD]) hc2) ev_con rfl
    have e9 : OK (evS ⟨C, ioT TT, []⟩ [] (.ifs (.cmp .isN (.call 2 [(.var 0), (.var 1), (.neg (.con (.int 1))), (.var 6)]) (.con .none)) [.app 8 (.con (.int 1))] []) [some (.d (lD s.ls)), dn s.w, dn s.g, some (.d (lD M)), some (.own (tD T)), dn i, dn (gM M i), y7, some (.own (nats (Rr s M T i (List.range i)))), none]) (fun r => r = .nx [some (.d (lD s.ls)), dn s.w, dn s.g, some (.d (lD M)), some (.own (tD T)), dn i, dn (gM M i), y7, some (.own (nats (rws s M T i))), none]) := by
      refine ok_ifs ec (fun hk => ?_) fun hk => ok_nil ?_
      · refine ok_step (app_step (x := .int 1) rfl ev_con rfl (by rw [nats_len, sizeLine_eq]; omega)) (ok_nil ?_)
        have : one1 s (gM M i) = [1] := by unfold one1; rw [if_neg (by simpa using hk)]
        rw [rws, this, ← nats_cat]
        rfl
      · have : one1 s (gM M i) = [] := by unfold one1; rw [if_pos (by simpa using hk)]
        rw [rws, this, List.append_nil]
    refine ok_cons (e9.imp ?_)
    rintro r rfl
    have hlt : (tD T).length < sizeLine := by rw [tD_len, sizeLine_eq]; omega
    have ea : ev ⟨C, ioT TT, []⟩ (.ite (.var 8) (.bi .min1 [(.var 8)]) (.con .none)) [some (.d (lD s.ls)), dn s.w, dn s.g, some (.d (lD M)), some (.own (tD T)), dn i, dn (gM M i), y7, some (.own (nats (rws s M T i))), none] = some (.v (.d (optD (rws s M T i).min?)), [some (.d (lD s.ls)), dn s.w, dn s.g, some (.d (lD M)), some (.own (tD T)), dn i, dn (gM M i), y7, some (.own (nats (rws s M T i))), none]) := by
      rw [ev_ite (evC_list (i := 8) (.inl rfl))]
      cases hr : rws s M T i with
      | nil =>
        rw [show (!(nats ([] : List Nat)).isEmpty) = false from rfl, if_neg (by decide)]
        exact ev_con
      | cons a r =>
        obtain ⟨m, hm, _⟩ := min_some (l := a :: r) (by simp)
        rw [hm, show (!(nats (a :: r)).isEmpty) = true from rfl, if_pos rfl]
        exact bi1_var (.inl rfl) (min_nats hm)
    refine ok_step (app_step rfl ea rfl hlt) (ok_nil ⟨dn i, dn (gM M i), y7, some (.own (nats (rws s M T i))), ?_⟩)
    simp [tD]
  · rintro e ⟨x5, x6, x7, x8, rfl⟩
    refine ⟨trivial, ?_⟩
    rw [show (Src.items ⟨enumOf 0 (nats M), [], none⟩).length = M.length by rw [show (Src.items ⟨enumOf 0 (nats M), [], none⟩) = enumOf 0 (nats M) from rfl, enum_len, nats_len]]
    exact ok_ret (r := .ali 4) (ev_ali rfl) (by simp [endF, outs, rd, isSt])
/-! what is told -/
inductive Told
  | dig (F : List Int) (T : List (Option Nat))
  | nev (T : List (Option Nat))
def tbl : Told → List (Option Nat)
  | .dig _ T => T
  | .nev T => T
def iD (F : List Int) : D := .list (F.map .int)
def toD : Told → D
  | .dig F T => .tuple [.str "digests", iD F, .list (tD T)]
  | .nev T => .tuple [.str "never", .list (tD T)]
def word (s : Str) : D := .tuple [.str s]
def wordI (s : Str) (i : Nat) : D := .tuple [.str s, .int (i : Int)]
def orD : Option D → D → D
  | some d, _ => d
  | none, x => x
def stepF (s : Sc) (M : List Nat) (T : List (Option Nat)) (i : Nat) : Option D :=
  if ((gT T i).isNone != (rws s M T i).isEmpty) = true then some (wordI "none" i) else if ((rws s M T i).any fun r => decide (r < (gT T i).getD 0)) = true then some (wordI "cost" i) else none
def endsL (s : Sc) (M : List Nat) (T : List (Option Nat)) : List Nat := ((List.range M.length).filter fun i => (gT T i).isSome && s.ls.all fun c => decide (c ≤ gM M i)).map fun i => (gT T i).getD 0
def gF (F : List Int) (i : Nat) : Int := F.getD i 0
def stepG (s : Sc) (M : List Nat) (F : List Int) (p : Nat) (x : Int) : Option D :=
  if (M.any fun m => decide ((m : Int) = x)) = false then some (wordI "minute" p) else if (decide (0 < p) && decide (x - gF F (p - 1) < (s.g : Int))) = true then some (wordI "gap" p) else none
def stepL (s : Sc) (F : List Int) (i c : Nat) : Option D := if (F.any fun m => decide ((c : Int) ≤ m) && decide (m ≤ (c : Int) + (s.w : Int))) = false then some (wordI "letter" i) else none
def moreB (s : Sc) (E : List Nat) (F : List Int) : Bool := (s.ls.isEmpty && F.isEmpty) || (!E.isEmpty && E.all fun e => decide (F.length ≤ e))
def foundP (s : Sc) (M E : List Nat) (F : List Int) : D := orD (fsI (stepG s M F) 0 F) (orD (fsI (stepL s F) 0 s.ls) (if moreB s E F = true then .none else word "more"))
def tellP (s : Sc) (M E : List Nat) : Told → D
  | .nev _ => if (!s.ls.isEmpty && E.isEmpty) = true then .none else word "ends"
  | .dig F _ => foundP s M E F
def faultP (s : Sc) (t : Told) : D :=
  if (tbl t).length ≠ (mins s).length then word "table" else orD (fsI (fun _ i => stepF s (mins s) (tbl t) i) 0 (List.range (mins s).length)) (tellP s (mins s) (endsL s (mins s) (tbl t)) t)

set_option exponentiation.threshold 3000
theorem gF_ix {F : List Int} {i : Nat} (h : i < F.length) : idxD (iD F) (.int (i : Int)) = some (.int (gF F i)) := by
  refine (atI_nat ?_ : atI (F.map PyData.int) (i : Int) = _)
  rw [gF, List.getElem?_map, List.getElem?_eq_getElem h, List.getD_eq_getElem?_getD, List.getElem?_eq_getElem h]
  rfl
theorem gF_at {F : List Int} {i : Nat} {x : Int} (h : F[i]? = some x) : gF F i = x := by
  rw [gF, List.getD_eq_getElem?_getD, h]; rfl
theorem gM_at {M : List Nat} {i : Nat} {x : Nat} (h : M[i]? = some x) : gM M i = x := by
  rw [gM, List.getD_eq_getElem?_getD, h]; rfl
theorem tupI {Γ : Ctx} {env : Env} {s : Str} {j : Nat} {i : Nat} (h : rd env j = some (.d (.int (i : Int)))) : ev Γ (.tup [(.con (.str s)), (.var j)]) env = some (.v (.d (wordI s i)), env) := by
  rw [ev, evF, ev_con, Option.bind_some]
  simp only [fz, valD, Option.map_some, Option.bind_some, evF, ev_var h]
  rfl
theorem tup1 {Γ : Ctx} {s : Str} {env : Env} : ev Γ (.tup [(.con (.str s))]) env = some (.v (.d (word s)), env) := by simp [ev, evF, fz, valD, word]
theorem cmp_notN {v : Option Nat} : cmpD .notN (optD v) .none = some v.isSome := by cases v <;> rfl
theorem cmp_isN {v : Option Nat} : cmpD .isN (optD v) .none = some v.isNone := by cases v <;> rfl
theorem min_le_all {E : List Nat} {m n : Nat} (h : E.min? = some m) : decide (n ≤ m) = E.all fun e => decide (n ≤ e) := by
  obtain ⟨h1, h2⟩ := List.min?_eq_some_iff.mp h
  rw [Bool.eq_iff_iff, decide_eq_true_eq, List.all_eq_true]
  exact ⟨fun z e he => decide_eq_true (Nat.le_trans z (h2 e he)), fun z => of_decide_eq_true (z m h1)⟩
theorem min_lt_any {E : List Nat} {m n : Nat} (h : E.min? = some m) : decide (m < n) = E.any fun e => decide (e < n) := by
  obtain ⟨h1, h2⟩ := List.min?_eq_some_iff.mp h
  rw [Bool.eq_iff_iff, decide_eq_true_eq, List.any_eq_true]
  exact ⟨fun z => ⟨m, h1, decide_eq_true z⟩, fun ⟨e, he, z⟩ => Nat.lt_of_le_of_lt (h2 e he) (of_decide_eq_true z)⟩
theorem max_ge_all {E : List Nat} {m n : Nat} (h : E.max? = some m) : decide (m ≤ n) = E.all fun e => decide (e ≤ n) := by
  obtain ⟨h1, h2⟩ := List.max?_eq_some_iff.mp h
  rw [Bool.eq_iff_iff, decide_eq_true_eq, List.all_eq_true]
  exact ⟨fun z e he => decide_eq_true (Nat.le_trans (h2 e he) z), fun z => of_decide_eq_true (z m h1)⟩
theorem ls_of_mins {s : Sc} {i : Nat} (h : i < (mins s).length) : s.ls ≠ [] := by
  have hm : (mins s)[i] ∈ mins s := List.getElem_mem h
  unfold mins at hm
  obtain ⟨_, h2⟩ := List.mem_filter.mp hm
  intro e
  simp [near, e] at h2
theorem mins_len (s : Sc) : (mins s).length ≤ 40 := Nat.le_trans (List.length_filter_le _ _) (by simp)
theorem wle {s : Sc} {F : List Int} {p : Nat} {x : Int} (hg : 0 < s.g) : ((decide (0 < p) && decide (x - gF F (p - 1) < (s.g : Int))) || (decide (0 < p) && decide (x ≤ gF F (p - 1)))) = (decide (0 < p) && decide (x - gF F (p - 1) < (s.g : Int))) := by
  rw [← Bool.and_or_distrib_left]
  congr 1
  rw [Bool.eq_iff_iff]
  simp only [Bool.or_eq_true, decide_eq_true_eq]
  omega
theorem isE_nats (l : List Nat) : (nats l).isEmpty = l.isEmpty := by cases l <;> rfl
theorem isE_ints (F : List Int) : (F.map PyData.int).isEmpty = F.isEmpty := by cases F <;> rfl
abbrev E7 (s : Sc) (M E : List Nat) (F : List Int) (x6 x7 x8 x9 : Option Val) : Env := [some (.d (lD s.ls)), dn s.w, dn s.g, some (.d (lD M)), some (.d (lD E)), some (.d (iD F)), x6, x7, x8, x9]
theorem found_ok (k : Nat) {s : Sc} {M E : List Nat} {F : List Int} (hg : 0 < s.g) : callT TT [] (k + 1) 7 [.d (lD s.ls), .d (.int (s.w : Int)), .d (.int (s.g : Int)), .d (lD M), .d (lD E), .d (iD F)] = some (.d (foundP s M E F), [.d (lD s.ls), .d (.int (s.w : Int)), .d (.int (s.g : Int)), .d (lD M), .d (lD E), .d (iD F)]) := by
  suffices key : ∀ C, OK (evSs ⟨C, ioT TT, []⟩ [] b7 (E7 s M E F none none none none)) (fun r => ∃ e, r = .rt (.v (.d (foundP s M E F))) e) by
    obtain ⟨r, h1, e, rfl⟩ := key (callT TT [] k)
    exact call_py rfl rfl (by decide) ⟨_, h1, by simp [endF, outs]⟩
  intro C
  refine ok_cons ((for_first (lk := []) (g := none) (items := enumOf 0 (F.map .int)) (e1 := E7 s M E F none none none none) (fun i (x : Int) => .tuple [.int (i : Int), .int x]) F (stepG s M F) (fun e => ∃ x6 x7, e = E7 s M E F x6 x7 none none ∧ (x7 = none ∨ ∃ a, x7 = some (.d a))) (by simp [evI, ev, rd, srcL, valD, iD]) (fun i x hx => ?_) (by rw [enum_len]; simp) (fun _ _ => trivial) ⟨none, none, rfl, .inl rfl⟩ ?_).imp ?_)
  · obtain ⟨y, h1, h2⟩ := enum_at hx
    rw [List.getElem?_map] at h1
    obtain ⟨c, h3, rfl⟩ := Option.map_eq_some_iff.mp h1
    exact ⟨c, h3, by rw [h2, Nat.zero_add]⟩
  · rintro p x e hp ⟨x6, x7, rfl, _⟩
    refine ⟨E7 s M E F (dn p) (di x) none none, by simp [bindT, bindTs], ?_⟩
    have hpl : p < F.length := (List.getElem?_eq_some_iff.mp hp).1
    have c1 : evC ⟨C, ioT TT, []⟩ (.cmp .nmem (.var 7) (.var 3)) (E7 s M E F (dn p) (di x) none none) = some (!(M.any fun m => decide ((m : Int) = x)), E7 s M E F (dn p) (di x) none none) := by
      refine evC_cmp (op := .nmem) (ev_var (x := .int x) rfl) (ev_var (x := lD M) rfl) ?_
      show (memD (.int x) (.list (nats M))).map not = _
      rw [mem_natsI]; rfl
    unfold stepG
    refine ok_cons (ok_ifs c1 (fun hk => ?_) fun hk => ok_nil ?_)
    · rw [if_pos (by simpa using hk)]
      exact ok_ret (tupI rfl) ⟨_, rfl⟩
    rw [if_neg (by simpa using hk)]
    have g0 : evC ⟨C, ioT TT, []⟩ (.cmp .gt (.var 6) (.con (.int 0))) (E7 s M E F (dn p) (di x) none none) = some (decide (0 < p), E7 s M E F (dn p) (di x) none none) := evC_cmp (op := .gt) (ev_var rfl) ev_con (gt_nat (b := 0))
    have ix : 0 < p → ev ⟨C, ioT TT, []⟩ (.idx (.var 5) (.bin .sub (.var 6) (.con (.int 1)))) (E7 s M E F (dn p) (di x) none none) = some (.v (.d (.int (gF F (p - 1)))), E7 s M E F (dn p) (di x) none none) := fun h0 => by
      refine ev_idxV (ev_var rfl) (ev_sub (i := (p : Int)) (j := 1) (ev_var rfl) ev_con) ?_
      rw [show (p : Int) - 1 = ((p - 1 : Nat) : Int) by omega]
      exact gF_ix (by omega)
    have c2 := evC_or (evC_and g0 fun h0 => evC_cmp (op := .lt) (ev_sub (ev_var (i := 7) rfl) (ix (of_decide_eq_true h0))) (ev_var (i := 2) rfl) rfl) fun _ => evC_and g0 fun h0 => evC_cmp (op := .le) (ev_var (i := 7) rfl) (ix (of_decide_eq_true h0)) rfl
    rw [wle hg] at c2
    refine ok_one (ok_ifs c2 (fun hk => ?_) fun hk => ok_nil ?_)
    · rw [if_pos hk]
      exact ok_ret (tupI rfl) ⟨_, rfl⟩
    · rw [if_neg (by rw [hk]; decide)]
      exact ⟨_, ⟨_, _, rfl, .inr ⟨_, rfl⟩⟩, rfl⟩
  intro r hr
  unfold foundP
  cases hf : fsI (stepG s M F) 0 F with
  | some d =>
    rw [hf] at hr
    obtain ⟨e, rfl⟩ := hr
    exact ⟨e, rfl⟩
  | none =>
  rw [hf] at hr
  obtain ⟨e, ⟨x6, x7, rfl, hx7⟩, rfl⟩ := hr
  show OK (evSs _ _ _ _) (fun r => ∃ e, r = .rt (.v (.d (orD (fsI (stepL s F) 0 s.ls) (if moreB s E F = true then .none else word "more")))) e)
  refine ok_cons ((for_first (lk := []) (g := none) (items := enumOf 0 (nats s.ls)) (e1 := E7 s M E F x6 x7 none none) (fun i (x : Nat) => .tuple [.int (i : Int), .int (x : Int)]) s.ls (stepL s F) (fun e => ∃ x8 x9, e = E7 s M E F x6 x7 x8 x9) (by simp [evI, ev, rd, srcL, valD, lD]) (fun i x hx => ?_) (by rw [enum_len, nats_len]) (fun _ _ => trivial) ⟨none, none, rfl⟩ ?_).imp ?_)
  · obtain ⟨y, h1, h2⟩ := enum_at hx
    obtain ⟨c, h3, rfl⟩ := nats_at h1
    exact ⟨c, h3, by rw [h2, Nat.zero_add]⟩
  · rintro i c e hc ⟨x8, x9, rfl⟩
    refine ⟨E7 s M E F x6 x7 (dn i) (dn c), by simp [bindT, bindTs], ?_⟩
    have hlc : ev ⟨C, ioT TT, []⟩ (.lc (.chain .le .le (.var 9) (.var 7) (.bin .add (.var 9) (.var 1))) (.nm 7) (.seq (.var 5)) (.con (.bool true)) [7]) (E7 s M E F x6 x7 (dn i) (dn c)) = some (.v (.own (F.map fun m => .bool (decide ((c : Int) ≤ m) && decide (m ≤ (c : Int) + (s.w : Int))))), E7 s M E F x6 x7 (dn i) (dn c)) := by
      rw [lc_of (lk := []) (g := none) PyData.int F (fun _ => true) (fun m => .bool (decide ((c : Int) ≤ m) && decide (m ≤ (c : Int) + (s.w : Int)))) (by simp [evI, ev, rd, srcOf, valD, itemsD, iD]) rfl trivial (by rcases hx7 with rfl | ⟨a, rfl⟩ <;> simp [backOwn, wipeE, rd]) fun m hm => ?_]
      · rw [filter_tt]
      · refine ⟨E7 s M E F x6 (di m) (dn i) (dn c), by simp [bindT, wipeE], tru_evC, by simp [wipeE], fun _ => ?_⟩
        rw [ev_chain (ev_var rfl) (ev_var rfl) (ev_add (ev_var rfl) (ev_var rfl)) rfl rfl]
        rfl
    unfold stepL
    refine ok_one (ok_ifs (evC_not (evC_b (any_ev hlc))) (fun hk => ?_) fun hk => ok_nil ?_)
    · rw [if_pos (by simpa using hk)]
      exact ok_ret (tupI rfl) ⟨_, rfl⟩
    · rw [if_neg (by simpa using hk)]
      exact ⟨_, ⟨_, _, rfl⟩, rfl⟩
  intro r hr
  cases hf2 : fsI (stepL s F) 0 s.ls with
  | some d =>
    rw [hf2] at hr
    obtain ⟨e, rfl⟩ := hr
    exact ⟨e, rfl⟩
  | none =>
  rw [hf2] at hr
  obtain ⟨e, ⟨x8, x9, rfl⟩, rfl⟩ := hr
  have c1 : evC ⟨C, ioT TT, []⟩ (.orE (.andE (.notE (.var 0)) (.notE (.var 5))) (.andE (.var 4) (.cmp .le (.bi .len [(.var 5)]) (.bi .min1 [(.var 4)])))) (E7 s M E F x6 x7 x8 x9) = some (moreB s E F, E7 s M E F x6 x7 x8 x9) := by
    have a1 : evC ⟨C, ioT TT, []⟩ (.var 0) (E7 s M E F x6 x7 x8 x9) = _ := evC_list (xs := nats s.ls) (.inr rfl)
    have a5 : evC ⟨C, ioT TT, []⟩ (.var 5) (E7 s M E F x6 x7 x8 x9) = _ := evC_list (xs := F.map .int) (.inr rfl)
    have a4 : evC ⟨C, ioT TT, []⟩ (.var 4) (E7 s M E F x6 x7 x8 x9) = _ := evC_list (xs := nats E) (.inr rfl)
    rw [evC_or (evC_and (evC_not a1) fun _ => evC_not a5) fun _ => evC_and (q := E.all fun e => decide (F.length ≤ e)) a4 fun h4 => ?_]
    · rw [isE_nats, isE_nats, isE_ints, moreB, Bool.not_not, Bool.not_not]
    · have hE : E ≠ [] := fun z => by subst z; simp [nats] at h4
      obtain ⟨m, hm, _⟩ := min_some hE
      rw [evC_cmp (op := .le) (len_var (xs := F.map .int) (.inr rfl)) (bi1_var (b := .min1) (xs := nats E) (.inr rfl) (min_nats hm)) le_nat, List.length_map, min_le_all hm]
  refine ok_ret (r := .v (.d (if moreB s E F = true then .none else word "more"))) (e1 := E7 s M E F x6 x7 x8 x9) ?_ ⟨_, rfl⟩
  rw [ev_ite c1]
  cases moreB s E F
  · rw [if_neg (by decide), if_neg (by decide)]; exact tup1
  · rw [if_pos rfl, if_pos rfl]; exact ev_con

set_option exponentiation.threshold 3000
theorem to_last (t : Told) : idxD (toD t) (.int (-1)) = some (.list (tD (tbl t))) := by
  cases t <;> simp [toD, tbl, idxD, atI, ixN]
theorem to_word (t : Told) : ∃ w : Str, idxD (toD t) (.int 0) = some (.str w) ∧ cmpD .eq (.str w) (.str "never") = some (match t with | .nev _ => true | .dig _ _ => false) := by
  cases t with
  | dig F T => exact ⟨"digests", by simp [toD, idxD, atI, ixN], by rw [cmp_eq rfl rfl]; rfl⟩
  | nev T => exact ⟨"never", by simp [toD, idxD, atI, ixN], self_eq rfl⟩
theorem to_found (F : List Int) (T : List (Option Nat)) : idxD (toD (.dig F T)) (.int 1) = some (iD F) := by simp [toD, idxD, atI, ixN]
abbrev EF (s : Sc) (t : Told) (x6 x7 x8 x9 x10 x11 x12 x13 : Option Val) : Env := [some (.d (lD s.ls)), dn s.w, dn s.g, some (.d (qD s.q)), dn s.d, some (.d (toD t)), x6, x7, x8, x9, x10, x11, x12, x13]
def flt (x : Option Val) : Prop := x = none ∨ ∃ a, x = some (.d a)
theorem cost_if {s : Sc} {M : List Nat} {T : List (Option Nat)} {i : Nat} (h1 : ((gT T i).isNone != (rws s M T i).isEmpty) = false) : stepF s M T i = if ((rws s M T i).any fun r => decide (r < (gT T i).getD 0)) = true then some (wordI "cost" i) else none := by
  unfold stepF
  rw [if_neg (by rw [h1]; decide)]
theorem none_if {s : Sc} {M : List Nat} {T : List (Option Nat)} {i : Nat} (h1 : ((gT T i).isNone != (rws s M T i).isEmpty) = true) : stepF s M T i = some (wordI "none" i) := by
  unfold stepF
  rw [if_pos h1]
theorem fault_ok (k : Nat) {s : Sc} {t : Told} (h : ScOk s) : callT TT [] (k + 3) 6 [.d (lD s.ls), .d (.int (s.w : Int)), .d (.int (s.g : Int)), .d (qD s.q), .d (.int (s.d : Int)), .d (toD t)] = some (.d (faultP s t), [.d (lD s.ls), .d (.int (s.w : Int)), .d (.int (s.g : Int)), .d (qD s.q), .d (.int (s.d : Int)), .d (toD t)]) := by
  have hM := mins_len s
  have hls : ∀ i, i < (mins s).length → s.ls ≠ [] := fun i hi => ls_of_mins hi
  have c1 := minutes_ok k h
  have c4 := fun (o i : Nat) (ho : o < (mins s).length) (hi : i < (mins s).length) => follows_ok k (s := s) ho hi
  have c2 := fun (last : Int) (m : Nat) => passed_ok (k + 1) (s := s) (last := last) (m := m)
  have c7 := fun (E : List Nat) (F : List Int) => found_ok (k + 1) (s := s) (M := mins s) (E := E) (F := F) h.g0
  suffices key : OK (evSs ⟨callT TT [] (k + 2), ioT TT, []⟩ [] b6 (EF s t none none none none none none none none)) (fun r => ∃ e, r = .rt (.v (.d (faultP s t))) e) by
    obtain ⟨r, h1, e, rfl⟩ := key
    exact call_py rfl rfl (by decide) ⟨_, h1, by simp [endF, outs]⟩
  unfold faultP
  generalize callT TT [] (k + 2) = C at *
  generalize mins s = M at *
  have hl := to_last t
  obtain ⟨wd, hw0, hw1⟩ := to_word t
  refine ok_step (e1 := EF s t (some (.own (nats M))) none none none none none none none) (asg_step (call_pure (rs := [.v (.d (lD s.ls)), .v (.d (.int (s.w : Int))), .v (.d (qD s.q)), .v (.d (.int (s.d : Int)))]) (by simp [evL, ev, rd]) rfl (by simp [argVals, io1, nonIo, valD]) c1) (by simp) (by simp)) ?_
  have e7 : ev ⟨C, ioT TT, []⟩ (.idx (.var 5) (.neg (.con (.int 1)))) (EF s t (some (.own (nats M))) none none none none none none none) = some (.v (.d (.list (tD (tbl t)))), EF s t (some (.own (nats M))) none none none none none none none) := ev_idxV (ev_var rfl) (y := .int (-1)) (by simp [ev, cur_v]) hl
  have hfo : ∀ F T, t = .dig F T → ∀ e : Env, rd e 5 = some (.d (toD t)) → ev ⟨C, ioT TT, []⟩ (.idx (.var 5) (.con (.int 1))) e = some (.v (.d (iD F)), e) := fun F T ht e h5 => by
    subst ht
    exact ev_idxV (ev_var h5) ev_con (to_found F T)
  refine ok_step (e1 := EF s t (some (.own (nats M))) (some (.d (.list (tD (tbl t))))) none none none none none none) (asg_step e7 (by simp) (by simp)) ?_
  generalize hT : tbl t = T at *
  have el := evC_cmp (Γ := ⟨C, ioT TT, []⟩) (env := EF s t (some (.own (nats M))) (some (.d (.list (tD T)))) none none none none none none) (op := .ne) (len_var (i := 7) (xs := tD T) (.inr rfl)) (len_var (i := 6) (xs := nats M) (.inl rfl)) ne_nat
  rw [tD_len, nats_len] at el
  refine ok_cons (ok_ifs el (fun hk => ?_) fun hk => ok_nil ?_)
  · rw [if_pos (by simpa using hk)]
    exact ok_ret tup1 ⟨_, rfl⟩
  have hTl : T.length = M.length := by simpa using hk
  rw [if_neg (by simpa using hTl)]
  refine ok_cons ((for_first (lk := []) (g := none) (items := nats (List.range M.length)) (e1 := EF s t (some (.own (nats M))) (some (.d (.list (tD T)))) none none none none none none) (fun _ (i : Nat) => .int (i : Int)) (List.range M.length) (fun _ i => stepF s M T i) (fun e => ∃ x8 x10 x11, e = EF s t (some (.own (nats M))) (some (.d (.list (tD T)))) x8 none x10 x11 none none ∧ flt x8) ?_ (fun i x hx => ?_) (nats_len _) (fun _ _ => trivial) ⟨none, none, none, rfl, .inl rfl⟩ ?_).imp ?_)
  · refine evI_rng ?_ (by omega)
    rw [len_var (i := 6) (xs := nats M) (.inl rfl), nats_len]
  · obtain ⟨c, h3, rfl⟩ := nats_at hx
    exact ⟨c, h3, rfl⟩
  · rintro j i e hi ⟨x8, x10, x11, rfl, _⟩
    have hi := List.mem_range.mp (List.mem_of_getElem? hi)
    refine ⟨EF s t (some (.own (nats M))) (some (.d (.list (tD T)))) (dn i) none x10 x11 none none, by simp [bindT], ?_⟩
    have e10 : ev ⟨C, ioT TT, []⟩ (.lc (.var 13) (.nm 13) (.rng [(.var 8)]) (.call 4 [(.var 0), (.var 1), (.var 2), (.var 6), (.var 13), (.var 8)]) [13]) (EF s t (some (.own (nats M))) (some (.d (.list (tD T)))) (dn i) none x10 x11 none none) = some (.v (.own (nats ((List.range i).filter fun o => fol s (gM M o) (gM M i)))), EF s t (some (.own (nats M))) (some (.d (.list (tD T)))) (dn i) none x10 x11 none none) := by
      refine lc_of (lk := []) (g := none) (fun n : Nat => PyData.int (n : Int)) (List.range i) (fun o => fol s (gM M o) (gM M i)) (fun n : Nat => PyData.int (n : Int)) (evI_rng (ev_var rfl) (by omega)) rfl trivial (by simp [backOwn, wipeE, rd]) fun o ho => ?_
      have ho := List.mem_range.mp ho
      refine ⟨EF s t (some (.own (nats M))) (some (.d (.list (tD T)))) (dn i) none x10 x11 none (dn o), by simp [bindT, wipeE], evC_b ?_, by simp [wipeE], fun _ => by simp [ev, rd, fz, valD]⟩
      exact call_gen (rs := [.v (.d (lD s.ls)), .v (.d (.int (s.w : Int))), .v (.d (.int (s.g : Int))), .ali 6, .v (.d (.int (o : Int))), .v (.d (.int (i : Int)))]) (e1 := EF s t (some (.own (nats M))) (some (.d (.list (tD T)))) (dn i) none x10 x11 none (dn o)) (by simp [evL, ev, rd]) (by simp [alis]) (by simp [argVals, io4, nonIo, valD, rd, cur, lD]) (c4 o i (by omega) hi) (by simp [io4, flatV, flatAll, noList, backArgs])
    refine ok_step (e1 := EF s t (some (.own (nats M))) (some (.d (.list (tD T)))) (dn i) none (some (.own (nats ((List.range i).filter fun o => fol s (gM M o) (gM M i))))) x11 none none) (asg_step e10 (by simp) (by simp)) ?_
    have i7 : ∀ (e : Env) (b : ME) (o : Nat), o < M.length → rd e 7 = some (.d (.list (tD T))) → ev ⟨C, ioT TT, []⟩ b e = some (.v (.d (.int (o : Int))), e) → ev ⟨C, ioT TT, []⟩ (.idx (.var 7) b) e = some (.v (.d (optD (gT T o))), e) := fun e b o ho h7 hb => ev_idxV (ev_var h7) hb (tD_ix (by omega))
    have e11 : ev ⟨C, ioT TT, []⟩ (.lc (.bin .add (.idx (.var 7) (.var 13)) (.con (.int 1))) (.nm 13) (.seq (.var 10)) (.cmp .notN (.idx (.var 7) (.var 13)) (.con .none)) [13]) (EF s t (some (.own (nats M))) (some (.d (.list (tD T)))) (dn i) none (some (.own (nats ((List.range i).filter fun o => fol s (gM M o) (gM M i))))) x11 none none) = some (.v (.own (nats (Rr s M T i (List.range i)))), EF s t (some (.own (nats M))) (some (.d (.list (tD T)))) (dn i) none (some (.own (nats ((List.range i).filter fun o => fol s (gM M o) (gM M i))))) x11 none none) := by
      rw [lc_of (lk := [10]) (g := some (10, nats ((List.range i).filter fun o => fol s (gM M o) (gM M i)))) (fun n : Nat => PyData.int (n : Int)) ((List.range i).filter fun o => fol s (gM M o) (gM M i)) (fun o => (gT T o).isSome) (fun o => PyData.int (((gT T o).getD 0 + 1 : Nat) : Int)) (by simp [evI, ev, rd, srcOf, nats]) (by simp) (.inl (by simp [wipeE, rd])) (by simp [backOwn, wipeE, rd]) fun o ho => ?_]
      · simp [nats, Rr, Function.comp_def]
      · have ho := List.mem_range.mp (List.mem_filter.mp ho).1
        have i4 := i7 (EF s t (some (.own (nats M))) (some (.d (.list (tD T)))) (dn i) none (some (.own (nats ((List.range i).filter fun o => fol s (gM M o) (gM M i))))) x11 none (dn o)) (.var 13) o (by omega) rfl (ev_var rfl)
        refine ⟨EF s t (some (.own (nats M))) (some (.d (.list (tD T)))) (dn i) none (some (.own (nats ((List.range i).filter fun o => fol s (gM M o) (gM M i))))) x11 none (dn o), by simp [bindT, wipeE], evC_cmp (op := .notN) i4 ev_con cmp_notN, by simp [wipeE], fun hp => ?_⟩
        cases hv : gT T o with
        | none => rw [hv] at hp; cases hp
        | some v =>
          rw [hv] at i4
          rw [ev_add (i := (v : Int)) (j := 1) i4 ev_con]
          rfl
    refine ok_step (e1 := EF s t (some (.own (nats M))) (some (.d (.list (tD T)))) (dn i) none (some (.own (nats ((List.range i).filter fun o => fol s (gM M o) (gM M i))))) (some (.own (nats (Rr s M T i (List.range i))))) none none) (asg_step e11 (by simp) (by simp)) ?_
    generalize (some (.own (nats ((List.range i).filter fun o => fol s (gM M o) (gM M i)))) : Option Val) = y10
    have hRl : (Rr s M T i (List.range i)).length ≤ 40 := by
      unfold Rr
      rw [List.length_map]
      exact Nat.le_trans (List.length_filter_le _ _) (Nat.le_trans (List.length_filter_le _ _) (by simp; omega))
    obtain ⟨x, hx, hc2⟩ := c2 (-1) (gM M i)
    have i6 : ev ⟨C, ioT TT, []⟩ (.idx (.var 6) (.var 8)) (EF s t (some (.own (nats M))) (some (.d (.list (tD T)))) (dn i) none y10 (some (.own (nats (Rr s M T i (List.range i))))) none none) = some (.v (.d (.int ((gM M i : Nat) : Int))), EF s t (some (.own (nats M))) (some (.d (.list (tD T)))) (dn i) none y10 (some (.own (nats (Rr s M T i (List.range i))))) none none) := idx_var (.inl rfl) (ev_var rfl) (nats_gd hi)
    have ec : evC ⟨C, ioT TT, []⟩ (.cmp .isN (.call 2 [(.var 0), (.var 1), (.neg (.con (.int 1))), (.idx (.var 6) (.var 8))]) (.con .none)) (EF s t (some (.own (nats M))) (some (.d (.list (tD T)))) (dn i) none y10 (some (.own (nats (Rr s M T i (List.range i))))) none none) = some (!psd s (-1) (gM M i), EF s t (some (.own (nats M))) (some (.d (.list (tD T)))) (dn i) none y10 (some (.own (nats (Rr s M T i (List.range i))))) none none) := by
      rw [← hx]
      refine evC_cmp (op := .isN) (call_pure (rs := [.v (.d (lD s.ls)), .v (.d (.int (s.w : Int))), .v (.d (.int (-1))), .v (.d (.int ((gM M i : Nat) : Int)))]) ?_ rfl (by simp only [argVals, io2, nonIo, valD, List.not_mem_nil, if_false, Option.map_some, Option.bind_some]) hc2) ev_con rfl
      have en : ev ⟨C, ioT TT, []⟩ (.neg (.con (.int 1))) (EF s t (some (.own (nats M))) (some (.d (.list (tD T)))) (dn i) none y10 (some (.own (nats (Rr s M T i (List.range i))))) none none) = some (.v (.d (.int (-1))), EF s t (some (.own (nats M))) (some (.d (.list (tD T)))) (dn i) none y10 (some (.own (nats (Rr s M T i (List.range i))))) none none) := by simp [ev, cur_v]
      rw [evL, ev_var rfl, Option.bind_some]
      simp only [evL, ev_var (x := .int (s.w : Int)) (show rd (EF s t (some (.own (nats M))) (some (.d (.list (tD T)))) (dn i) none y10 (some (.own (nats (Rr s M T i (List.range i))))) none none) 1 = _ from rfl), en, i6, Option.bind_some, Option.map_some]
    have e9 : OK (evS ⟨C, ioT TT, []⟩ [] (.ifs (.cmp .isN (.call 2 [(.var 0), (.var 1), (.neg (.con (.int 1))), (.idx (.var 6) (.var 8))]) (.con .none)) [.app 11 (.con (.int 1))] []) (EF s t (some (.own (nats M))) (some (.d (.list (tD T)))) (dn i) none y10 (some (.own (nats (Rr s M T i (List.range i))))) none none)) (fun r => r = .nx (EF s t (some (.own (nats M))) (some (.d (.list (tD T)))) (dn i) none y10 (some (.own (nats (rws s M T i)))) none none)) := by
      refine ok_ifs ec (fun hk => ?_) fun hk => ok_nil ?_
      · refine ok_step (app_step (x := .int 1) rfl ev_con rfl (by rw [nats_len, sizeLine_eq]; omega)) (ok_nil ?_)
        have : one1 s (gM M i) = [1] := by unfold one1; rw [if_neg (by simpa using hk)]
        rw [rws, this, ← nats_cat]
        rfl
      · have : one1 s (gM M i) = [] := by unfold one1; rw [if_pos (by simpa using hk)]
        rw [rws, this, List.append_nil]
    refine ok_cons (e9.imp ?_)
    rintro r rfl
    have i7' := i7 (EF s t (some (.own (nats M))) (some (.d (.list (tD T)))) (dn i) none y10 (some (.own (nats (rws s M T i)))) none none) (.var 8) i hi rfl (ev_var rfl)
    have a11 : evC ⟨C, ioT TT, []⟩ (.var 11) (EF s t (some (.own (nats M))) (some (.d (.list (tD T)))) (dn i) none y10 (some (.own (nats (rws s M T i)))) none none) = some (!(rws s M T i).isEmpty, EF s t (some (.own (nats M))) (some (.d (.list (tD T)))) (dn i) none y10 (some (.own (nats (rws s M T i)))) none none) := by
      rw [evC_list (xs := nats (rws s M T i)) (.inl rfl), isE_nats]
    have n11 := ev_notC a11
    rw [Bool.not_not] at n11
    refine ok_cons (ok_ifs (evC_cmp (op := .ne) (ev_cmpS (op := .isN) i7' ev_con cmp_isN) n11 cmp_neB) (fun hk => ?_) fun hk => ok_nil ?_)
    · rw [none_if hk]
      exact ok_ret (tupI rfl) ⟨_, rfl⟩
    rw [cost_if hk]
    have hc : evC ⟨C, ioT TT, []⟩ (.andE (.var 11) (.cmp .gt (.idx (.var 7) (.var 8)) (.bi .min1 [(.var 11)]))) (EF s t (some (.own (nats M))) (some (.d (.list (tD T)))) (dn i) none y10 (some (.own (nats (rws s M T i)))) none none) = some ((rws s M T i).any fun r => decide (r < (gT T i).getD 0), EF s t (some (.own (nats M))) (some (.d (.list (tD T)))) (dn i) none y10 (some (.own (nats (rws s M T i)))) none none) := by
      rw [evC_and (q := (rws s M T i).any fun r => decide (r < (gT T i).getD 0)) a11 fun hr => ?_]
      · cases hr : rws s M T i with
        | nil => rfl
        | cons a r => rw [show (!(a :: r).isEmpty) = true from rfl, Bool.true_and]
      · have hne : rws s M T i ≠ [] := fun z => by rw [z] at hr; simp at hr
        obtain ⟨m, hm, _⟩ := min_some hne
        cases hv : gT T i with
        | none =>
          rw [hv] at hk
          cases hz : rws s M T i with
          | nil => exact absurd hz hne
          | cons a r => rw [hz] at hk; cases hk
        | some v =>
          rw [hv] at i7'
          rw [evC_cmp (op := .gt) i7' (bi1_var (b := .min1) (xs := nats (rws s M T i)) (.inl rfl) (min_nats hm)) gt_nat, min_lt_any hm]
          rfl
    refine ok_one (ok_ifs hc (fun hk => ?_) fun hk => ok_nil ?_)
    · rw [if_pos hk]
      exact ok_ret (tupI rfl) ⟨_, rfl⟩
    · rw [if_neg (by rw [hk]; decide)]
      exact ⟨_, ⟨_, _, _, rfl, .inr ⟨_, rfl⟩⟩, rfl⟩
  intro r hr
  cases hf : fsI (fun _ i => stepF s M T i) 0 (List.range M.length) with
  | some d =>
    rw [hf] at hr
    obtain ⟨e, rfl⟩ := hr
    exact ⟨e, rfl⟩
  | none =>
  rw [hf] at hr
  obtain ⟨e, ⟨x8, x10, x11, rfl, hx8⟩, rfl⟩ := hr
  show OK (evSs _ _ _ _) (fun r => ∃ e, r = .rt (.v (.d (tellP s M (endsL s M T) t))) e)
  have e9 : ev ⟨C, ioT TT, []⟩ (.lc (.idx (.var 7) (.var 8)) (.tup [(.nm 8), (.nm 12)]) (.enum (.var 6)) (.andE (.cmp .notN (.idx (.var 7) (.var 8)) (.con .none)) (.cmp .ge (.var 12) (.bi .max1 [(.var 0)]))) [8, 12]) (EF s t (some (.own (nats M))) (some (.d (.list (tD T)))) x8 none x10 x11 none none) = some (.v (.own (nats (endsL s M T))), EF s t (some (.own (nats M))) (some (.d (.list (tD T)))) x8 none x10 x11 none none) := by
    rw [lc_of (lk := [6]) (g := some (6, nats M)) (fun i : Nat => PyData.tuple [.int (i : Int), .int ((gM M i : Nat) : Int)]) (List.range M.length) (fun i => (gT T i).isSome && s.ls.all fun c => decide (c ≤ gM M i)) (fun i => PyData.int (((gT T i).getD 0 : Nat) : Int)) (by rw [← enum_nats]; simp [evI, ev, rd, srcL]) (by simp) (.inl (by simp [wipeE, rd])) (by rcases hx8 with rfl | ⟨a, rfl⟩ <;> simp [backOwn, wipeE, rd]) fun i hi => ?_]
    · simp [nats, endsL, Function.comp_def]
    · have hi := List.mem_range.mp hi
      have i7 : ev ⟨C, ioT TT, []⟩ (.idx (.var 7) (.var 8)) (EF s t (some (.own (nats M))) (some (.d (.list (tD T)))) (dn i) none x10 x11 (dn (gM M i)) none) = some (.v (.d (optD (gT T i))), EF s t (some (.own (nats M))) (some (.d (.list (tD T)))) (dn i) none x10 x11 (dn (gM M i)) none) := ev_idxV (ev_var rfl) (ev_var rfl) (tD_ix (by omega))
      refine ⟨EF s t (some (.own (nats M))) (some (.d (.list (tD T)))) (dn i) none x10 x11 (dn (gM M i)) none, by simp [bindT, bindTs, wipeE], evC_and (evC_cmp (op := .notN) i7 ev_con cmp_notN) fun _ => ?_, by simp [wipeE], fun hp => ?_⟩
      · obtain ⟨m, hm, _⟩ := max_some (hls i hi)
        rw [evC_cmp (op := .ge) (ev_var rfl) (bi1_var (b := .max1) (xs := nats s.ls) (.inr rfl) (max_nats hm)) ge_nat, max_ge_all hm]
      · cases hv : gT T i with
        | none => rw [hv] at hp; cases hp
        | some v => rw [hv] at i7; rw [i7]; rfl
  refine ok_step (e1 := EF s t (some (.own (nats M))) (some (.d (.list (tD T)))) x8 (some (.own (nats (endsL s M T)))) x10 x11 none none) (asg_step e9 (by simp) (by simp)) ?_
  generalize endsL s M T = E
  have e5 : ev ⟨C, ioT TT, []⟩ (.idx (.var 5) (.con (.int 0))) (EF s t (some (.own (nats M))) (some (.d (.list (tD T)))) x8 (some (.own (nats E))) x10 x11 none none) = some (.v (.d (.str wd)), EF s t (some (.own (nats M))) (some (.d (.list (tD T)))) x8 (some (.own (nats E))) x10 x11 none none) := ev_idxV (ev_var rfl) ev_con hw0
  refine ok_cons (ok_ifs (evC_cmp (op := .eq) e5 ev_con hw1) (fun hk => ?_) fun hk => ok_nil ?_)
  · cases t with
    | dig F T => cases hk
    | nev T' =>
      have a0 : evC ⟨C, ioT TT, []⟩ (.var 0) (EF s (.nev T') (some (.own (nats M))) (some (.d (.list (tD T)))) x8 (some (.own (nats E))) x10 x11 none none) = _ := evC_list (xs := nats s.ls) (.inr rfl)
      have a9 : evC ⟨C, ioT TT, []⟩ (.var 9) (EF s (.nev T') (some (.own (nats M))) (some (.d (.list (tD T)))) x8 (some (.own (nats E))) x10 x11 none none) = _ := evC_list (xs := nats E) (.inl rfl)
      have ac := evC_and a0 fun _ => evC_not a9
      rw [isE_nats, isE_nats, Bool.not_not] at ac
      refine ok_ret (r := .v (.d (if (!s.ls.isEmpty && E.isEmpty) = true then .none else word "ends"))) (e1 := EF s (.nev T') (some (.own (nats M))) (some (.d (.list (tD T)))) x8 (some (.own (nats E))) x10 x11 none none) ?_ ⟨_, rfl⟩
      rw [ev_ite ac]
      cases (!s.ls.isEmpty && E.isEmpty)
      · rw [if_neg (by decide), if_neg (by decide)]; exact tup1
      · rw [if_pos rfl, if_pos rfl]; exact ev_con
  · cases t with
    | nev T' => cases hk
    | dig F T' =>
      have ef := hfo F T' rfl (EF s (.dig F T') (some (.own (nats M))) (some (.d (.list (tD T)))) x8 (some (.own (nats E))) x10 x11 none none) rfl
      refine ok_ret (call_gen (rs := [.v (.d (lD s.ls)), .v (.d (.int (s.w : Int))), .v (.d (.int (s.g : Int))), .ali 6, .ali 9, .v (.d (iD F))]) (e1 := EF s (.dig F T') (some (.own (nats M))) (some (.d (.list (tD T)))) x8 (some (.own (nats E))) x10 x11 none none) ?_ (by simp [alis]) (by simp [argVals, io7, nonIo, valD, rd, cur, lD]) (c7 E F) rfl) ⟨_, rfl⟩
      rw [evL, ev_var rfl, Option.bind_some]
      simp only [evL, ef, ev_var (x := .int (s.w : Int)) (show rd (EF s (.dig F T') (some (.own (nats M))) (some (.d (.list (tD T)))) x8 (some (.own (nats E))) x10 x11 none none) 1 = _ from rfl), ev_var (x := .int (s.g : Int)) (show rd (EF s (.dig F T') (some (.own (nats M))) (some (.d (.list (tD T)))) x8 (some (.own (nats E))) x10 x11 none none) 2 = _ from rfl), ev_ali (xs := nats M) (show rd (EF s (.dig F T') (some (.own (nats M))) (some (.d (.list (tD T)))) x8 (some (.own (nats E))) x10 x11 none none) 6 = _ from rfl), ev_ali (xs := nats E) (show rd (EF s (.dig F T') (some (.own (nats M))) (some (.d (.list (tD T)))) x8 (some (.own (nats E))) x10 x11 none none) 9 = _ from rfl), Option.bind_some, Option.map_some]

set_option exponentiation.threshold 3000
theorem noL_nats (l : List Nat) : noListL (nats l) = true := by
  induction l with
  | nil => rfl
  | cons a r ih => rw [show nats (a :: r) = .int (a : Int) :: nats r from rfl, noListL, ih]; rfl
theorem lr_emp {s : Sc} {M : List Nat} {T : List (Option Nat)} {i : Nat} : (lrws s M T i).isEmpty = (rws s M T i).isEmpty := by
  unfold lrws rws
  cases one1 s (gM M i) <;> cases Rr s M T i (List.range i) <;> rfl
theorem lr_any {s : Sc} {M : List Nat} {T : List (Option Nat)} {i : Nat} (p : Nat → Bool) : (lrws s M T i).any p = (rws s M T i).any p := by
  unfold lrws rws
  rw [List.any_append, List.any_append, Bool.or_comm]
theorem len0 (l : List Nat) : decide (l.length = 0) = l.isEmpty := by cases l <;> simp
theorem len0i (l : List Int) : decide (l.length = 0) = l.isEmpty := by cases l <;> simp
theorem lenP (l : List Nat) : decide (0 < l.length) = !l.isEmpty := by cases l <;> simp
theorem fsG (s : Sc) (M : List Nat) (F : List Int) : fsI (stepG s M F) 0 F = fsI (fun _ i => stepG s M F i (gF F i)) 0 (List.range F.length) :=
  fsI_congr (by simp) fun k a b h1 h2 => by
    obtain ⟨h3, h2⟩ := List.getElem?_eq_some_iff.mp h2
    rw [List.getElem_range] at h2
    rw [Nat.zero_add, ← h2, gF_at h1]
theorem fsL (s : Sc) (F : List Int) : fsI (stepL s F) 0 s.ls = fsI (fun _ i => stepL s F i (gM s.ls i)) 0 (List.range s.ls.length) :=
  fsI_congr (by simp) fun k a b h1 h2 => by
    obtain ⟨h3, h2⟩ := List.getElem?_eq_some_iff.mp h2
    rw [List.getElem_range] at h2
    rw [Nat.zero_add, ← h2, gM_at h1]
theorem filter_posi (l : List Int) (p : Int → Bool) : decide ((l.filter p).length = 0) = !l.any p := by
  have := pos_any l p
  rw [← this]
  cases (l.filter p) <;> simp
theorem cmp_own {Γ : Ctx} {env : Env} {op : COp} {a : ME} {i : Nat} {x : D} {ys : List D} {c : Bool} (h : ev Γ a env = some (.v (.d x), env)) (hr : rd env i = some (.own ys)) (hc : cmpD op x (.list ys) = some c) : ev Γ (.cmp op a (.var i)) env = some (.v (.d (.bool c)), env) := by
  rw [ev, h, Option.bind_some]
  have h1 : cur env (.ali i) = some (.list ys) := by simp [cur, hr, valD]
  simp only [ev_ali hr, Option.bind_some, cur_v, h1, hc, Option.map_some]
theorem lfault_ok (k : Nat) {s : Sc} {t : Told} (h : ScOk s) (hF : ∀ F T, t = .dig F T → F.length ≤ 1000000) : callT TT [] (k + 3) 15 [.d (lD s.ls), .d (.int (s.w : Int)), .d (.int (s.g : Int)), .d (qD s.q), .d (.int (s.d : Int)), .d (toD t)] = some (.d (faultP s t), [.d (lD s.ls), .d (.int (s.w : Int)), .d (.int (s.g : Int)), .d (qD s.q), .d (.int (s.d : Int)), .d (toD t)]) := by
  have hM := mins_len s
  have hls : ∀ i, i < (mins s).length → s.ls ≠ [] := fun i hi => ls_of_mins hi
  have hsl := h.len
  have c12 := lminutes_ok k h
  have c14 := fun (T : List (Option Nat)) (hT : T.length = (mins s).length) (i : Nat) (hi : i < (mins s).length) => lrows_ok k (s := s) hM hT hi
  suffices key : OK (evSs ⟨callT TT [] (k + 2), ioT TT, []⟩ [] b15 (EF s t none none none none none none none none)) (fun r => ∃ e, r = .rt (.v (.d (faultP s t))) e) by
    obtain ⟨r, h1, e, rfl⟩ := key
    exact call_py rfl rfl (by decide) ⟨_, h1, by simp [endF, outs]⟩
  unfold faultP
  generalize callT TT [] (k + 2) = C at *
  generalize mins s = M at *
  have hl := to_last t
  obtain ⟨wd, hw0, hw1⟩ := to_word t
  refine ok_step (e1 := EF s t (some (.own (nats M))) none none none none none none none) (asg_step (call_pure (rs := [.v (.d (lD s.ls)), .v (.d (.int (s.w : Int))), .v (.d (qD s.q)), .v (.d (.int (s.d : Int)))]) (by simp [evL, ev, rd]) rfl (by simp [argVals, io12, nonIo, valD]) c12) (by simp) (by simp)) ?_
  have e7 : ev ⟨C, ioT TT, []⟩ (.idx (.var 5) (.neg (.con (.int 1)))) (EF s t (some (.own (nats M))) none none none none none none none) = some (.v (.d (.list (tD (tbl t)))), EF s t (some (.own (nats M))) none none none none none none none) := ev_idxV (ev_var rfl) (y := .int (-1)) (by simp [ev, cur_v]) hl
  have hfo : ∀ F T, t = .dig F T → ∀ e : Env, rd e 5 = some (.d (toD t)) → ev ⟨C, ioT TT, []⟩ (.idx (.var 5) (.con (.int 1))) e = some (.v (.d (iD F)), e) := fun F T ht e h5 => by
    subst ht
    exact ev_idxV (ev_var h5) ev_con (to_found F T)
  refine ok_step (e1 := EF s t (some (.own (nats M))) (some (.d (.list (tD (tbl t))))) none none none none none none) (asg_step e7 (by simp) (by simp)) ?_
  generalize hT : tbl t = T at *
  have el := evC_cmp (Γ := ⟨C, ioT TT, []⟩) (env := EF s t (some (.own (nats M))) (some (.d (.list (tD T)))) none none none none none none) (op := .ne) (len_var (i := 7) (xs := tD T) (.inr rfl)) (len_var (i := 6) (xs := nats M) (.inl rfl)) ne_nat
  rw [tD_len, nats_len] at el
  refine ok_cons (ok_ifs el (fun hk => ?_) fun hk => ok_nil ?_)
  · rw [if_pos (by simpa using hk)]
    exact ok_ret tup1 ⟨_, rfl⟩
  have hTl : T.length = M.length := by simpa using hk
  rw [if_neg (by simpa using hTl)]
  have c14 := fun i hi => c14 T hTl i hi
  have lenM : ∀ (e : Env), rd e 6 = some (.own (nats M)) → ev ⟨C, ioT TT, []⟩ (.bi .len [(.var 6)]) e = some (.v (.d (.int (M.length : Int))), e) := fun e h6 => by
    rw [len_var (i := 6) (xs := nats M) (.inl h6), nats_len]
  refine ok_cons ((for_first (lk := []) (g := none) (items := nats (List.range M.length)) (e1 := EF s t (some (.own (nats M))) (some (.d (.list (tD T)))) none none none none none none) (fun _ (i : Nat) => .int (i : Int)) (List.range M.length) (fun _ i => stepF s M T i) (fun e => ∃ x8 x12, e = EF s t (some (.own (nats M))) (some (.d (.list (tD T)))) x8 none none none x12 none ∧ flt x8) (evI_rng (lenM _ rfl) (by omega)) (fun i x hx => ?_) (nats_len _) (fun _ _ => trivial) ⟨none, none, rfl, .inl rfl⟩ ?_).imp ?_)
  · obtain ⟨c, h3, rfl⟩ := nats_at hx
    exact ⟨c, h3, rfl⟩
  · rintro j i e hi ⟨x8, x12, rfl, _⟩
    have hi := List.mem_range.mp (List.mem_of_getElem? hi)
    refine ⟨EF s t (some (.own (nats M))) (some (.d (.list (tD T)))) (dn i) none none none x12 none, by simp [bindT], ?_⟩
    refine ok_step (e1 := EF s t (some (.own (nats M))) (some (.d (.list (tD T)))) (dn i) none none none (some (.own (nats (lrws s M T i)))) none) (asg_step ?_ (by simp) (by simp)) ?_
    · exact call_gen (rs := [.v (.d (lD s.ls)), .v (.d (.int (s.w : Int))), .v (.d (.int (s.g : Int))), .ali 6, .v (.d (.list (tD T))), .v (.d (.int (i : Int)))]) (e1 := EF s t (some (.own (nats M))) (some (.d (.list (tD T)))) (dn i) none none none x12 none) (by simp [evL, ev, rd]) (by simp [alis]) (by simp [argVals, io14, nonIo, valD, rd, cur, lD]) (c14 i hi) (by simp [io14, flatV, flatAll, noL_nats, backArgs])
    have i7' : ev ⟨C, ioT TT, []⟩ (.idx (.var 7) (.var 8)) (EF s t (some (.own (nats M))) (some (.d (.list (tD T)))) (dn i) none none none (some (.own (nats (lrws s M T i)))) none) = some (.v (.d (optD (gT T i))), EF s t (some (.own (nats M))) (some (.d (.list (tD T)))) (dn i) none none none (some (.own (nats (lrws s M T i)))) none) := ev_idxV (ev_var rfl) (ev_var rfl) (tD_ix (by omega))
    have l12 : ev ⟨C, ioT TT, []⟩ (.bi .len [(.var 12)]) (EF s t (some (.own (nats M))) (some (.d (.list (tD T)))) (dn i) none none none (some (.own (nats (lrws s M T i)))) none) = some (.v (.d (.int ((lrws s M T i).length : Int))), EF s t (some (.own (nats M))) (some (.d (.list (tD T)))) (dn i) none none none (some (.own (nats (lrws s M T i)))) none) := by
      rw [len_var (i := 12) (xs := nats (lrws s M T i)) (.inl rfl), nats_len]
    have c1 := ev_cmpS (op := .eq) l12 (ev_con (c := .int 0)) (eq_nat (b := 0))
    rw [len0, lr_emp] at c1
    refine ok_cons (ok_ifs (evC_cmp (op := .ne) (ev_cmpS (op := .isN) i7' ev_con cmp_isN) c1 cmp_neB) (fun hk => ?_) fun hk => ok_nil ?_)
    · rw [none_if hk]
      exact ok_ret (tupI rfl) ⟨_, rfl⟩
    rw [cost_if hk]
    have c2 := evC_cmp (op := .gt) l12 (ev_con (c := .int 0)) (gt_nat (b := 0))
    rw [lenP, lr_emp] at c2
    have hc : evC ⟨C, ioT TT, []⟩ (.andE (.cmp .gt (.bi .len [(.var 12)]) (.con (.int 0))) (.cmp .gt (.idx (.var 7) (.var 8)) (.bi .min1 [(.var 12)]))) (EF s t (some (.own (nats M))) (some (.d (.list (tD T)))) (dn i) none none none (some (.own (nats (lrws s M T i)))) none) = some ((rws s M T i).any fun r => decide (r < (gT T i).getD 0), EF s t (some (.own (nats M))) (some (.d (.list (tD T)))) (dn i) none none none (some (.own (nats (lrws s M T i)))) none) := by
      rw [evC_and (q := (rws s M T i).any fun r => decide (r < (gT T i).getD 0)) c2 fun hr => ?_]
      · cases hr : rws s M T i with
        | nil => rfl
        | cons a r => rw [show (!(a :: r).isEmpty) = true from rfl, Bool.true_and]
      · have hne : lrws s M T i ≠ [] := fun z => by
          have := lr_emp (s := s) (M := M) (T := T) (i := i)
          rw [z] at this
          rw [← this] at hr
          simp at hr
        obtain ⟨m, hm, _⟩ := min_some hne
        cases hv : gT T i with
        | none =>
          rw [hv] at hk
          cases hz : rws s M T i with
          | nil => rw [hz] at hr; simp at hr
          | cons a r => rw [hz] at hk; cases hk
        | some v =>
          rw [hv] at i7'
          rw [evC_cmp (op := .gt) i7' (bi1_var (b := .min1) (xs := nats (lrws s M T i)) (.inl rfl) (min_nats hm)) gt_nat, min_lt_any hm, lr_any]
          rfl
    refine ok_one (ok_ifs hc (fun hk => ?_) fun hk => ok_nil ?_)
    · rw [if_pos hk]
      exact ok_ret (tupI rfl) ⟨_, rfl⟩
    · rw [if_neg (by rw [hk]; decide)]
      exact ⟨_, ⟨_, _, rfl, .inr ⟨_, rfl⟩⟩, rfl⟩
  intro r hr
  cases hf : fsI (fun _ i => stepF s M T i) 0 (List.range M.length) with
  | some d =>
    rw [hf] at hr
    obtain ⟨e, rfl⟩ := hr
    exact ⟨e, rfl⟩
  | none =>
  rw [hf] at hr
  obtain ⟨e, ⟨x8, x12, rfl, hx8⟩, rfl⟩ := hr
  show OK (evSs _ _ _ _) (fun r => ∃ e, r = .rt (.v (.d (tellP s M (endsL s M T) t))) e)
  have e9 : ev ⟨C, ioT TT, []⟩ (.lc (.idx (.var 7) (.var 8)) (.nm 8) (.rng [(.bi .len [(.var 6)])]) (.andE (.cmp .notN (.idx (.var 7) (.var 8)) (.con .none)) (.cmp .ge (.idx (.var 6) (.var 8)) (.bi .max1 [(.var 0)]))) [8]) (EF s t (some (.own (nats M))) (some (.d (.list (tD T)))) x8 none none none x12 none) = some (.v (.own (nats (endsL s M T))), EF s t (some (.own (nats M))) (some (.d (.list (tD T)))) x8 none none none x12 none) := by
    rw [lc_of (lk := []) (g := none) (fun i : Nat => PyData.int (i : Int)) (List.range M.length) (fun i => (gT T i).isSome && s.ls.all fun c => decide (c ≤ gM M i)) (fun i => PyData.int (((gT T i).getD 0 : Nat) : Int)) (evI_rng (lenM _ rfl) (by omega)) rfl trivial (by rcases hx8 with rfl | ⟨a, rfl⟩ <;> simp [backOwn, wipeE, rd]) fun i hi => ?_]
    · simp [nats, endsL, Function.comp_def]
    · have hi := List.mem_range.mp hi
      have i7 : ev ⟨C, ioT TT, []⟩ (.idx (.var 7) (.var 8)) (EF s t (some (.own (nats M))) (some (.d (.list (tD T)))) (dn i) none none none x12 none) = some (.v (.d (optD (gT T i))), EF s t (some (.own (nats M))) (some (.d (.list (tD T)))) (dn i) none none none x12 none) := ev_idxV (ev_var rfl) (ev_var rfl) (tD_ix (by omega))
      have i6 : ev ⟨C, ioT TT, []⟩ (.idx (.var 6) (.var 8)) (EF s t (some (.own (nats M))) (some (.d (.list (tD T)))) (dn i) none none none x12 none) = _ := idx_var (.inl rfl) (ev_var rfl) (nats_gd hi)
      refine ⟨EF s t (some (.own (nats M))) (some (.d (.list (tD T)))) (dn i) none none none x12 none, by simp [bindT, wipeE], evC_and (evC_cmp (op := .notN) i7 ev_con cmp_notN) fun _ => ?_, by simp [wipeE], fun hp => ?_⟩
      · obtain ⟨m, hm, _⟩ := max_some (hls i hi)
        rw [evC_cmp (op := .ge) i6 (bi1_var (b := .max1) (xs := nats s.ls) (.inr rfl) (max_nats hm)) ge_nat, max_ge_all hm]
      · cases hv : gT T i with
        | none => rw [hv] at hp; cases hp
        | some v => rw [hv] at i7; rw [i7]; rfl
  refine ok_step (e1 := EF s t (some (.own (nats M))) (some (.d (.list (tD T)))) x8 (some (.own (nats (endsL s M T)))) none none x12 none) (asg_step e9 (by simp) (by simp)) ?_
  have hE0 : s.ls = [] → endsL s M T = [] := fun z => by
    have : M.length = 0 := by
      rcases Nat.eq_zero_or_pos M.length with w | w
      · exact w
      · exact absurd z (hls 0 w)
    simp [endsL, this]
  generalize endsL s M T = E at hE0
  have e5 : ev ⟨C, ioT TT, []⟩ (.idx (.var 5) (.con (.int 0))) (EF s t (some (.own (nats M))) (some (.d (.list (tD T)))) x8 (some (.own (nats E))) none none x12 none) = some (.v (.d (.str wd)), EF s t (some (.own (nats M))) (some (.d (.list (tD T)))) x8 (some (.own (nats E))) none none x12 none) := ev_idxV (ev_var rfl) ev_con hw0
  have lenE : ∀ (e : Env), rd e 9 = some (.own (nats E)) → ev ⟨C, ioT TT, []⟩ (.bi .len [(.var 9)]) e = some (.v (.d (.int (E.length : Int))), e) := fun e h6 => by
    rw [len_var (i := 9) (xs := nats E) (.inl h6), nats_len]
  have lenS : ∀ (e : Env), rd e 0 = some (.d (lD s.ls)) → ev ⟨C, ioT TT, []⟩ (.bi .len [(.var 0)]) e = some (.v (.d (.int (s.ls.length : Int))), e) := fun e h6 => by
    rw [len_var (i := 0) (xs := nats s.ls) (.inr h6), nats_len]
  refine ok_cons (ok_ifs (evC_cmp (op := .eq) e5 ev_con hw1) (fun hk => ?_) fun hk => ok_nil ?_)
  · cases t with
    | dig F T => cases hk
    | nev T' =>
      have a0 := evC_cmp (op := .gt) (lenS (EF s (.nev T') (some (.own (nats M))) (some (.d (.list (tD T)))) x8 (some (.own (nats E))) none none x12 none) rfl) (ev_con (c := .int 0)) (gt_nat (b := 0))
      have a9 := evC_cmp (op := .eq) (lenE (EF s (.nev T') (some (.own (nats M))) (some (.d (.list (tD T)))) x8 (some (.own (nats E))) none none x12 none) rfl) (ev_con (c := .int 0)) (eq_nat (b := 0))
      have ac := evC_and a0 fun _ => a9
      rw [lenP, len0] at ac
      refine ok_ret (r := .v (.d (if (!s.ls.isEmpty && E.isEmpty) = true then .none else word "ends"))) (e1 := EF s (.nev T') (some (.own (nats M))) (some (.d (.list (tD T)))) x8 (some (.own (nats E))) none none x12 none) ?_ ⟨_, rfl⟩
      rw [ev_ite ac]
      cases (!s.ls.isEmpty && E.isEmpty)
      · rw [if_neg (by decide), if_neg (by decide)]; exact tup1
      · rw [if_pos rfl, if_pos rfl]; exact ev_con
  cases t with
  | nev T' => cases hk
  | dig F T' =>
  show OK (evSs _ _ _ _) (fun r => ∃ e, r = .rt (.v (.d (foundP s M E F))) e)
  have ef := hfo F T' rfl (EF s (.dig F T') (some (.own (nats M))) (some (.d (.list (tD T)))) x8 (some (.own (nats E))) none none x12 none) rfl
  refine ok_step (e1 := EF s (.dig F T') (some (.own (nats M))) (some (.d (.list (tD T)))) x8 (some (.own (nats E))) (some (.d (iD F))) none x12 none) (asg_step ef (by simp) (by simp)) ?_
  have lenF : ∀ (e : Env), rd e 10 = some (.d (iD F)) → ev ⟨C, ioT TT, []⟩ (.bi .len [(.var 10)]) e = some (.v (.d (.int (F.length : Int))), e) := fun e h6 => by
    rw [len_var (i := 10) (xs := F.map .int) (.inr h6), List.length_map]
  unfold foundP
  rw [fsG]
  refine ok_cons ((for_first (lk := []) (g := none) (items := nats (List.range F.length)) (e1 := EF s (.dig F T') (some (.own (nats M))) (some (.d (.list (tD T)))) x8 (some (.own (nats E))) (some (.d (iD F))) none x12 none) (fun _ (i : Nat) => .int (i : Int)) (List.range F.length) (fun _ i => stepG s M F i (gF F i)) (fun e => ∃ x11, e = EF s (.dig F T') (some (.own (nats M))) (some (.d (.list (tD T)))) x8 (some (.own (nats E))) (some (.d (iD F))) x11 x12 none) (evI_rng (lenF _ rfl) (hF F T' rfl)) (fun i x hx => ?_) (nats_len _) (fun _ _ => trivial) ⟨none, rfl⟩ ?_).imp ?_)
  · obtain ⟨c, h3, rfl⟩ := nats_at hx
    exact ⟨c, h3, rfl⟩
  · rintro j p e hp ⟨x11, rfl⟩
    have hpl := List.mem_range.mp (List.mem_of_getElem? hp)
    refine ⟨EF s (.dig F T') (some (.own (nats M))) (some (.d (.list (tD T)))) x8 (some (.own (nats E))) (some (.d (iD F))) (dn p) x12 none, by simp [bindT], ?_⟩
    have ip : ev ⟨C, ioT TT, []⟩ (.idx (.var 10) (.var 11)) (EF s (.dig F T') (some (.own (nats M))) (some (.d (.list (tD T)))) x8 (some (.own (nats E))) (some (.d (iD F))) (dn p) x12 none) = some (.v (.d (.int (gF F p))), EF s (.dig F T') (some (.own (nats M))) (some (.d (.list (tD T)))) x8 (some (.own (nats E))) (some (.d (iD F))) (dn p) x12 none) := ev_idxV (ev_var rfl) (ev_var rfl) (gF_ix hpl)
    have hme : cmpD .nmem (.int (gF F p)) (.list (nats M)) = some (!(M.any fun m => decide ((m : Int) = gF F p))) := by
      show (memD (.int (gF F p)) (.list (nats M))).map not = _
      rw [mem_natsI]; rfl
    unfold stepG
    refine ok_cons (ok_ifs (evC_b (cmp_own (op := .nmem) ip rfl hme)) (fun hk => ?_) fun hk => ok_nil ?_)
    · rw [if_pos (by simpa using hk)]
      exact ok_ret (tupI rfl) ⟨_, rfl⟩
    rw [if_neg (by simpa using hk)]
    have g0 : evC ⟨C, ioT TT, []⟩ (.cmp .gt (.var 11) (.con (.int 0))) (EF s (.dig F T') (some (.own (nats M))) (some (.d (.list (tD T)))) x8 (some (.own (nats E))) (some (.d (iD F))) (dn p) x12 none) = some (decide (0 < p), EF s (.dig F T') (some (.own (nats M))) (some (.d (.list (tD T)))) x8 (some (.own (nats E))) (some (.d (iD F))) (dn p) x12 none) := evC_cmp (op := .gt) (ev_var rfl) ev_con (gt_nat (b := 0))
    have ix : 0 < p → ev ⟨C, ioT TT, []⟩ (.idx (.var 10) (.bin .sub (.var 11) (.con (.int 1)))) (EF s (.dig F T') (some (.own (nats M))) (some (.d (.list (tD T)))) x8 (some (.own (nats E))) (some (.d (iD F))) (dn p) x12 none) = some (.v (.d (.int (gF F (p - 1)))), EF s (.dig F T') (some (.own (nats M))) (some (.d (.list (tD T)))) x8 (some (.own (nats E))) (some (.d (iD F))) (dn p) x12 none) := fun h0 => by
      refine ev_idxV (ev_var rfl) (ev_sub (i := (p : Int)) (j := 1) (ev_var rfl) ev_con) ?_
      rw [show (p : Int) - 1 = ((p - 1 : Nat) : Int) by omega]
      exact gF_ix (by omega)
    have c2 := evC_and g0 fun h0 => evC_cmp (op := .lt) (ev_sub ip (ix (of_decide_eq_true h0))) (ev_var (i := 2) rfl) rfl
    refine ok_one (ok_ifs c2 (fun hk => ?_) fun hk => ok_nil ?_)
    · rw [if_pos hk]
      exact ok_ret (tupI rfl) ⟨_, rfl⟩
    · rw [if_neg (by rw [hk]; decide)]
      exact ⟨_, ⟨_, rfl⟩, rfl⟩
  intro r hr
  cases hf1 : fsI (fun _ i => stepG s M F i (gF F i)) 0 (List.range F.length) with
  | some d =>
    rw [hf1] at hr
    obtain ⟨e, rfl⟩ := hr
    exact ⟨e, rfl⟩
  | none =>
  rw [hf1] at hr
  obtain ⟨e, ⟨x11, rfl⟩, rfl⟩ := hr
  show OK (evSs _ _ _ _) (fun r => ∃ e, r = .rt (.v (.d (orD (fsI (stepL s F) 0 s.ls) (if moreB s E F = true then .none else word "more")))) e)
  rw [fsL]
  refine ok_cons ((for_first (lk := []) (g := none) (items := nats (List.range s.ls.length)) (e1 := EF s (.dig F T') (some (.own (nats M))) (some (.d (.list (tD T)))) x8 (some (.own (nats E))) (some (.d (iD F))) x11 x12 none) (fun _ (i : Nat) => .int (i : Int)) (List.range s.ls.length) (fun _ i => stepL s F i (gM s.ls i)) (fun e => ∃ x8, e = EF s (.dig F T') (some (.own (nats M))) (some (.d (.list (tD T)))) x8 (some (.own (nats E))) (some (.d (iD F))) x11 x12 none) (evI_rng (lenS _ rfl) (by omega)) (fun i x hx => ?_) (nats_len _) (fun _ _ => trivial) ⟨x8, rfl⟩ ?_).imp ?_)
  · obtain ⟨c, h3, rfl⟩ := nats_at hx
    exact ⟨c, h3, rfl⟩
  · rintro j i e hi ⟨x8, rfl⟩
    have hi := List.mem_range.mp (List.mem_of_getElem? hi)
    refine ⟨EF s (.dig F T') (some (.own (nats M))) (some (.d (.list (tD T)))) (dn i) (some (.own (nats E))) (some (.d (iD F))) x11 x12 none, by simp [bindT], ?_⟩
    have hlc : ev ⟨C, ioT TT, []⟩ (.lc (.var 13) (.nm 13) (.seq (.var 10)) (.chain .le .le (.idx (.var 0) (.var 8)) (.var 13) (.bin .add (.idx (.var 0) (.var 8)) (.var 1))) [13]) (EF s (.dig F T') (some (.own (nats M))) (some (.d (.list (tD T)))) (dn i) (some (.own (nats E))) (some (.d (iD F))) x11 x12 none) = some (.v (.own ((F.filter fun m => decide (((gM s.ls i : Nat) : Int) ≤ m) && decide (m ≤ ((gM s.ls i : Nat) : Int) + (s.w : Int))).map PyData.int)), EF s (.dig F T') (some (.own (nats M))) (some (.d (.list (tD T)))) (dn i) (some (.own (nats E))) (some (.d (iD F))) x11 x12 none) := by
      refine lc_of (lk := []) (g := none) PyData.int F (fun m => decide (((gM s.ls i : Nat) : Int) ≤ m) && decide (m ≤ ((gM s.ls i : Nat) : Int) + (s.w : Int))) PyData.int (by simp [evI, ev, rd, srcOf, valD, itemsD, iD]) rfl trivial (by simp [backOwn, wipeE, rd]) fun m hm => ?_
      have i0 : ev ⟨C, ioT TT, []⟩ (.idx (.var 0) (.var 8)) (EF s (.dig F T') (some (.own (nats M))) (some (.d (.list (tD T)))) (dn i) (some (.own (nats E))) (some (.d (iD F))) x11 x12 (di m)) = some (.v (.d (.int ((gM s.ls i : Nat) : Int))), EF s (.dig F T') (some (.own (nats M))) (some (.d (.list (tD T)))) (dn i) (some (.own (nats E))) (some (.d (iD F))) x11 x12 (di m)) := ev_idxV (ev_var rfl) (ev_var rfl) (nats_gd hi)
      exact ⟨EF s (.dig F T') (some (.own (nats M))) (some (.d (.list (tD T)))) (dn i) (some (.own (nats E))) (some (.d (iD F))) x11 x12 (di m), by simp [bindT, wipeE], evC_b (ev_chain i0 (ev_var rfl) (ev_add i0 (ev_var rfl)) rfl rfl), by simp [wipeE], fun _ => by simp [ev, rd, fz, valD]⟩
    have hc := evC_cmp (op := .eq) (len_ev hlc) (ev_con (c := .int 0)) (eq_nat (b := 0))
    rw [List.length_map, filter_posi] at hc
    unfold stepL
    refine ok_one (ok_ifs hc (fun hk => ?_) fun hk => ok_nil ?_)
    · rw [if_pos (by simpa using hk)]
      exact ok_ret (tupI rfl) ⟨_, rfl⟩
    · rw [if_neg (by simpa using hk)]
      exact ⟨_, ⟨_, rfl⟩, rfl⟩
  intro r hr
  cases hf2 : fsI (fun _ i => stepL s F i (gM s.ls i)) 0 (List.range s.ls.length) with
  | some d =>
    rw [hf2] at hr
    obtain ⟨e, rfl⟩ := hr
    exact ⟨e, rfl⟩
  | none =>
  rw [hf2] at hr
  obtain ⟨e, ⟨x8, rfl⟩, rfl⟩ := hr
  show OK (evSs _ _ _ _) (fun r => ∃ e, r = .rt (.v (.d (if moreB s E F = true then .none else word "more"))) e)
  have last : ∀ (c : ME) (b : Bool), evC ⟨C, ioT TT, []⟩ c (EF s (.dig F T') (some (.own (nats M))) (some (.d (.list (tD T)))) x8 (some (.own (nats E))) (some (.d (iD F))) x11 x12 none) = some (b, EF s (.dig F T') (some (.own (nats M))) (some (.d (.list (tD T)))) x8 (some (.own (nats E))) (some (.d (iD F))) x11 x12 none) → b = moreB s E F → ∀ ss, OK (evSs ⟨C, ioT TT, []⟩ [] (.ret (.ite c (.con .none) (.tup [(.con (.str "more"))])) :: ss) (EF s (.dig F T') (some (.own (nats M))) (some (.d (.list (tD T)))) x8 (some (.own (nats E))) (some (.d (iD F))) x11 x12 none)) (fun r => ∃ e, r = .rt (.v (.d (if moreB s E F = true then .none else word "more"))) e) := fun c b hc hb ss => by
    refine ok_ret (r := .v (.d (if moreB s E F = true then .none else word "more"))) (e1 := EF s (.dig F T') (some (.own (nats M))) (some (.d (.list (tD T)))) x8 (some (.own (nats E))) (some (.d (iD F))) x11 x12 none) ?_ ⟨_, rfl⟩
    rw [ev_ite hc, hb]
    cases moreB s E F
    · rw [if_neg (by decide), if_neg (by decide)]; exact tup1
    · rw [if_pos rfl, if_pos rfl]; exact ev_con
  have c0 := evC_cmp (op := .eq) (lenS (EF s (.dig F T') (some (.own (nats M))) (some (.d (.list (tD T)))) x8 (some (.own (nats E))) (some (.d (iD F))) x11 x12 none) rfl) (ev_con (c := .int 0)) (eq_nat (b := 0))
  rw [len0] at c0
  refine ok_cons (ok_ifs c0 (fun hk => ?_) fun hk => ok_nil ?_)
  · have c1 := evC_cmp (op := .eq) (lenF (EF s (.dig F T') (some (.own (nats M))) (some (.d (.list (tD T)))) x8 (some (.own (nats E))) (some (.d (iD F))) x11 x12 none) rfl) (ev_con (c := .int 0)) (eq_nat (b := 0))
    rw [len0i] at c1
    refine (last _ _ c1 ?_ _).imp (by rintro r ⟨e, rfl⟩; exact ⟨e, rfl⟩)
    have : E = [] := hE0 (List.isEmpty_iff.mp hk)
    rw [moreB, hk, this]
    simp
  · have c1 := evC_cmp (op := .gt) (lenE (EF s (.dig F T') (some (.own (nats M))) (some (.d (.list (tD T)))) x8 (some (.own (nats E))) (some (.d (iD F))) x11 x12 none) rfl) (ev_con (c := .int 0)) (gt_nat (b := 0))
    rw [lenP] at c1
    refine last _ _ (evC_and (q := E.all fun e => decide (F.length ≤ e)) c1 fun hz => ?_) ?_ _
    · have hE : E ≠ [] := fun z => by subst z; simp at hz
      obtain ⟨m, hm, _⟩ := min_some hE
      rw [evC_cmp (op := .le) (lenF (EF s (.dig F T') (some (.own (nats M))) (some (.d (.list (tD T)))) x8 (some (.own (nats E))) (some (.d (iD F))) x11 x12 none) rfl) (bi1_var (b := .min1) (xs := nats E) (.inl rfl) (min_nats hm)) le_nat, min_le_all hm]
    · rw [moreB, hk]
      simp

set_option exponentiation.threshold 3000
def castN (l : List Nat) : List Int := l.map fun n : Nat => (n : Int)
theorem iD_cast (F : List Nat) : iD (castN F) = .list (nats F) := by simp [iD, castN, nats]
theorem rws_mem {s : Sc} {M : List Nat} {T : List (Option Nat)} {i v : Nat} (h : v ∈ rws s M T i) : (∃ o u, o < i ∧ fol s (gM M o) (gM M i) = true ∧ gT T o = some u ∧ v = u + 1) ∨ (psd s (-1) (gM M i) = false ∧ v = 1) := by
  rcases List.mem_append.mp h with z | z
  · obtain ⟨o, ho, rfl⟩ := List.mem_map.mp z
    obtain ⟨h1, h2⟩ := List.mem_filter.mp ho
    obtain ⟨h3, h4⟩ := List.mem_filter.mp h1
    cases hu : gT T o with
    | none => rw [hu] at h2; cases h2
    | some u => exact .inl ⟨o, u, List.mem_range.mp h3, h4, hu, rfl⟩
  · unfold one1 at z
    cases hp : psd s (-1) (gM M i) with
    | true => rw [hp] at z; cases z
    | false => rw [hp] at z; exact .inr ⟨rfl, by simpa using z⟩
theorem tb_val {s : Sc} {M : List Nat} {n : Nat} : ∀ i, i < n → ∀ v, gT (tb s M n) i = some v → 1 ≤ v ∧ v ≤ i + 1 := fun i => by
  induction i using Nat.strongRecOn with
  | _ i ih =>
    intro hi v hv
    rw [tb_at hi] at hv
    rcases rws_mem (List.min?_eq_some_iff.mp hv).1 with ⟨o, u, h1, _, h2, rfl⟩ | ⟨_, rfl⟩
    · have := ih o h1 (by omega) u h2
      omega
    · omega
def Gd (s : Sc) (M : List Nat) : List Nat → Prop
  | [] => True
  | x :: r => x ∈ M ∧ (match r with
    | [] => ∀ c ∈ s.ls, c ≤ x
    | y :: _ => fol s x y = true) ∧ Gd s M r
theorem gd_mem {s : Sc} {M : List Nat} : ∀ {F : List Nat}, Gd s M F → ∀ x ∈ F, x ∈ M
  | [], _, x, hx => by cases hx
  | a :: r, h, x, hx => by
    rcases List.mem_cons.mp hx with q | q
    · rw [q]; exact h.1
    · exact gd_mem h.2.2 x q
theorem gd_next {s : Sc} {M : List Nat} : ∀ {F : List Nat} {p x y : Nat}, Gd s M F → F[p]? = some x → F[p + 1]? = some y → x + s.g ≤ y
  | [], _, _, _, _, h, _ => by simp at h
  | [a], p, x, y, _, _, h => by simp at h
  | a :: b :: r, 0, x, y, h, h1, h2 => by
    cases h1
    cases h2
    have h := h.2.1
    simp only [fol, Bool.and_eq_true, decide_eq_true_eq] at h
    exact h.1
  | a :: b :: r, p + 1, x, y, h, h1, h2 => gd_next (F := b :: r) h.2.2 h1 h2
theorem gd_cover {s : Sc} {M : List Nat} : ∀ {F : List Nat} {prev : Int} {c : Nat}, F ≠ [] → Gd s M F → (∀ x r, F = x :: r → psd s prev x = false) → c ∈ s.ls → prev < (c : Int) → ∃ m ∈ F, c ≤ m ∧ m ≤ c + s.w
  | [], _, _, h, _, _, _, _ => absurd rfl h
  | x :: r, prev, c, _, h, hp, hc, hl => by
    have h0 := hp x r rfl
    unfold psd at h0
    rw [List.any_eq_false] at h0
    have h0 := h0 c hc
    simp only [Bool.and_eq_true, decide_eq_true_eq, not_and] at h0
    have h0 := h0 hl
    rcases Nat.lt_or_ge x c with w | w
    · cases r with
      | nil =>
        have := h.2.1 c hc
        omega
      | cons y r =>
        have hf := h.2.1
        simp only [fol, Bool.and_eq_true, Bool.not_eq_true', decide_eq_true_eq] at hf
        obtain ⟨m, m1, m2⟩ := gd_cover (F := y :: r) (prev := (x : Int)) (c := c) (by simp) h.2.2 (fun x' r' e => by cases e; exact hf.2) hc (by omega)
        exact ⟨m, List.mem_cons_of_mem _ m1, m2⟩
    · exact ⟨x, List.mem_cons_self .., w, by omega⟩
theorem castN_at {F : List Nat} {p : Nat} {x : Int} (h : (castN F)[p]? = some x) : ∃ n, F[p]? = some n ∧ x = (n : Int) := by
  unfold castN at h
  rw [List.getElem?_map] at h
  obtain ⟨n, h1, h2⟩ := Option.map_eq_some_iff.mp h
  exact ⟨n, h1, h2.symm⟩
theorem stepF_none {s : Sc} {M : List Nat} {n i : Nat} (h : i < n) : stepF s M (tb s M n) i = none := by
  have e := tb_at (s := s) (M := M) h
  unfold stepF
  generalize rws s M (tb s M n) i = R at e
  rw [e]
  cases R with
  | nil => rfl
  | cons a r =>
    obtain ⟨m, hm, h1, h2⟩ := min_some (l := a :: r) (by simp)
    rw [hm, if_neg (by simp), if_neg]
    simp only [Option.getD_some, List.any_eq_true, decide_eq_true_eq, not_exists, not_and]
    intro x hx
    have := h2 x hx
    omega
theorem dig_none {s : Sc} {F : List Nat} {t0 : Nat} (h : s.ls ≠ []) (g : Gd s (mins s) F) (hne : F ≠ []) (hp : ∀ x r, F = x :: r → psd s (-1) x = false) (hl : F.length = t0) (h0 : t0 ∈ endsL s (mins s) (tb s (mins s) (mins s).length)) (hm : ∀ e ∈ endsL s (mins s) (tb s (mins s) (mins s).length), t0 ≤ e) :
    faultP s (.dig (castN F) (tb s (mins s) (mins s).length)) = .none := by
  unfold faultP
  rw [show tbl (.dig (castN F) (tb s (mins s) (mins s).length)) = tb s (mins s) (mins s).length from rfl, if_neg (by rw [tb_len]; simp), fsI_none.mpr fun k a hk => ?_]
  · show foundP s _ _ (castN F) = _
    unfold foundP
    rw [fsI_none.mpr fun k a hk => ?_, fsI_none.mpr fun k c hk => ?_]
    · have : moreB s (endsL s (mins s) (tb s (mins s) (mins s).length)) (castN F) = true := by
        unfold moreB
        rw [Bool.or_eq_true, Bool.and_eq_true, Bool.and_eq_true]
        refine .inr ⟨?_, List.all_eq_true.mpr fun e he => ?_⟩
        · cases hz : endsL s (mins s) (tb s (mins s) (mins s).length) with
          | nil => rw [hz] at h0; cases h0
          | cons a r => rfl
        · have : (castN F).length = F.length := by simp [castN]
          rw [this, hl]
          exact decide_eq_true (hm e he)
      rw [this]
      rfl
    · rw [Nat.zero_add]
      unfold stepL
      obtain ⟨m, m1, m2, m3⟩ := gd_cover (prev := -1) hne g hp (List.mem_of_getElem? hk) (by omega)
      rw [if_neg]
      rw [Bool.not_eq_false, List.any_eq_true]
      refine ⟨(m : Int), List.mem_map.mpr ⟨m, m1, rfl⟩, ?_⟩
      simp only [Bool.and_eq_true, decide_eq_true_eq]
      omega
    · rw [Nat.zero_add]
      obtain ⟨x, hx, rfl⟩ := castN_at hk
      unfold stepG
      rw [if_neg, if_neg]
      · intro hz
        simp only [Bool.and_eq_true, decide_eq_true_eq] at hz
        obtain ⟨hk0, hz⟩ := hz
        have hkl := (List.getElem?_eq_some_iff.mp hx).1
        have hy : F[k - 1]? = some F[k - 1] := List.getElem?_eq_getElem (by omega)
        have hgf : gF (castN F) (k - 1) = ((F[k - 1] : Nat) : Int) := gF_at (by unfold castN; rw [List.getElem?_map, hy]; rfl)
        have := gd_next g hy (by rw [show k - 1 + 1 = k by omega]; exact hx)
        rw [hgf] at hz
        omega
      · rw [Bool.not_eq_false, List.any_eq_true]
        exact ⟨x, gd_mem g x (List.mem_of_getElem? hx), decide_eq_true rfl⟩
  · have := List.mem_range.mp (List.mem_of_getElem? hk)
    exact stepF_none this
theorem nev_none {s : Sc} (h : s.ls ≠ []) (h0 : endsL s (mins s) (tb s (mins s) (mins s).length) = []) : faultP s (.nev (tb s (mins s) (mins s).length)) = .none := by
  unfold faultP
  rw [show tbl (.nev (tb s (mins s) (mins s).length)) = tb s (mins s) (mins s).length from rfl, if_neg (by rw [tb_len]; simp), fsI_none.mpr fun k a hk => ?_]
  · unfold tellP orD
    simp only
    rw [h0, if_pos]
    cases hz : s.ls with
    | nil => exact absurd hz h
    | cons a r => rfl
  · exact stepF_none (List.mem_range.mp (List.mem_of_getElem? hk))
theorem mins_nil {s : Sc} (h : s.ls = []) : mins s = [] := by
  unfold mins
  rw [List.filter_eq_nil_iff]
  intro m _
  simp [near, h]
theorem dig0_none {s : Sc} (h : s.ls = []) : faultP s (.dig [] (tb s (mins s) (mins s).length)) = .none := by
  rw [mins_nil h]
  unfold faultP
  rw [mins_nil h]
  simp only [tbl, tb, List.length_nil, ne_eq, not_true_eq_false, if_false, List.range_zero, fsI, orD, tellP, foundP, h, moreB, List.isEmpty_nil, Bool.and_self, Bool.true_or, if_true]

set_option exponentiation.threshold 3000
theorem noL_tD (T : List (Option Nat)) : noListL (tD T) = true := by
  induction T with
  | nil => rfl
  | cons a r ih =>
    rw [show tD (a :: r) = optD a :: tD r from rfl, noListL, ih]
    cases a <;> rfl
abbrev ED (s : Sc) (M : List Nat) (T : List (Option Nat)) (x7 x8 x9 x10 x11 x12 : Option Val) : Env := [some (.d (lD s.ls)), dn s.w, dn s.g, some (.d (qD s.q)), dn s.d, some (.own (nats M)), some (.own (tD T)), x7, x8, x9, x10, x11, x12]
def eI (s : Sc) (M : List Nat) (T : List (Option Nat)) : List Nat := (List.range M.length).filter fun i => (gT T i).isSome && s.ls.all fun c => decide (c ≤ gM M i)
theorem gM_mem {M : List Nat} {i : Nat} (h : i < M.length) : gM M i ∈ M := by
  unfold gM
  rw [List.getD_eq_getElem?_getD, List.getElem?_eq_getElem h]
  exact List.getElem_mem h
structure Res0 (s : Sc) (t : Told) : Prop where
  ok : faultP s t = .none
  len : (tbl t).length ≤ 40
  fl : ∀ F T, t = .dig F T → F.length ≤ 40
theorem digests_ok (k : Nat) {s : Sc} (h : ScOk s) : ∃ t : Told, Res0 s t ∧ callT TT [] (k + 4) 3 [.d (lD s.ls), .d (.int (s.w : Int)), .d (.int (s.g : Int)), .d (qD s.q), .d (.int (s.d : Int))] = some (.d (toD t), [.d (lD s.ls), .d (.int (s.w : Int)), .d (.int (s.g : Int)), .d (qD s.q), .d (.int (s.d : Int))]) := by
  have hM := mins_len s
  have c1 := minutes_ok (k + 1) h
  have c5 := table_ok k (s := s) hM
  have c4 := fun (o i : Nat) (ho : o < (mins s).length) (hi : i < (mins s).length) => follows_ok (k + 1) (s := s) ho hi
  suffices key : ∃ t, Res0 s t ∧ OK (evSs ⟨callT TT [] (k + 3), ioT TT, []⟩ [] b3 [some (.d (lD s.ls)), dn s.w, dn s.g, some (.d (qD s.q)), dn s.d, none, none, none, none, none, none, none, none]) (fun r => ∃ e, r = .rt (.v (.d (toD t))) e) by
    obtain ⟨t, ht, r, h1, e, rfl⟩ := key
    exact ⟨t, ht, call_py rfl rfl (by decide) ⟨_, h1, by simp [endF, outs]⟩⟩
  generalize callT TT [] (k + 3) = C at *
  have hTl := tb_len s (mins s) (mins s).length
  have s1 : evS ⟨C, ioT TT, []⟩ [] (b3.getD 0 .pass) [some (.d (lD s.ls)), dn s.w, dn s.g, some (.d (qD s.q)), dn s.d, none, none, none, none, none, none, none, none] = some (.nx [some (.d (lD s.ls)), dn s.w, dn s.g, some (.d (qD s.q)), dn s.d, some (.own (nats (mins s))), none, none, none, none, none, none, none]) :=
    asg_step (call_pure (rs := [.v (.d (lD s.ls)), .v (.d (.int (s.w : Int))), .v (.d (qD s.q)), .v (.d (.int (s.d : Int)))]) (by simp [evL, ev, rd]) rfl (by simp [argVals, io1, nonIo, valD]) c1) (by simp) (by simp)
  have s2 : evS ⟨C, ioT TT, []⟩ [] (b3.getD 1 .pass) [some (.d (lD s.ls)), dn s.w, dn s.g, some (.d (qD s.q)), dn s.d, some (.own (nats (mins s))), none, none, none, none, none, none, none] = some (.nx (ED s (mins s) (tb s (mins s) (mins s).length) none none none none none none)) :=
    asg_step (call_gen (rs := [.v (.d (lD s.ls)), .v (.d (.int (s.w : Int))), .v (.d (.int (s.g : Int))), .ali 5]) (e1 := [some (.d (lD s.ls)), dn s.w, dn s.g, some (.d (qD s.q)), dn s.d, some (.own (nats (mins s))), none, none, none, none, none, none, none]) (by simp [evL, ev, rd]) (by simp [alis]) (by simp [argVals, io5, nonIo, valD, rd, cur, lD]) c5 (by simp [io5, flatV, flatAll, noL_tD, backArgs])) (by simp) (by simp)
  have a0 : evC ⟨C, ioT TT, []⟩ (.notE (.var 0)) (ED s (mins s) (tb s (mins s) (mins s).length) none none none none none none) = some (s.ls.isEmpty, ED s (mins s) (tb s (mins s) (mins s).length) none none none none none none) := by
    rw [evC_not (evC_list (xs := nats s.ls) (.inr rfl)), isE_nats, Bool.not_not]
  by_cases hls : s.ls = []
  · refine ⟨_, ⟨dig0_none hls, ?_, fun F T e => by cases e; exact Nat.zero_le _⟩, ?_⟩
    · show (tb s (mins s) (mins s).length).length ≤ 40
      omega
    refine ok_step s1 (ok_step s2 (ok_cons (ok_ifs a0 (fun _ => ?_) fun hk => ?_)))
    · refine ok_ret (r := .v (.d (toD (.dig [] (tb s (mins s) (mins s).length))))) (e1 := [some (.d (lD s.ls)), dn s.w, dn s.g, some (.d (qD s.q)), dn s.d, some (.own (nats (mins s))), some (.d (.list (tD (tb s (mins s) (mins s).length)))), none, none, none, none, none, none]) ?_ ⟨_, rfl⟩
      simp [ev, evF, fz, valD, rd, toD, iD]
    · rw [hls] at hk; cases hk
  have hlE : s.ls.isEmpty = false := by
    cases hz : s.ls with
    | nil => exact absurd hz hls
    | cons a r => rfl
  rw [hlE] at a0
  have hval := fun i hi v hv => tb_val (s := s) (M := mins s) (n := (mins s).length) i hi v hv
  have hat := fun i (hi : i < (mins s).length) => tb_at (s := s) (M := mins s) hi
  have hnev := nev_none (s := s) hls
  have hdig := fun F t0 => dig_none (s := s) (F := F) (t0 := t0) hls
  generalize mins s = M at *
  generalize tb s M M.length = T at *
  have e7 : ev ⟨C, ioT TT, []⟩ (.lc (.var 8) (.tup [(.nm 8), (.nm 11)]) (.enum (.var 5)) (.andE (.cmp .notN (.idx (.var 6) (.var 8)) (.con .none)) (.cmp .ge (.var 11) (.bi .max1 [(.var 0)]))) [8, 11]) (ED s M T none none none none none none) = some (.v (.own (nats (eI s M T))), ED s M T none none none none none none) := by
    refine lc_of (lk := [5]) (g := some (5, nats M)) (fun i : Nat => PyData.tuple [.int (i : Int), .int ((gM M i : Nat) : Int)]) (List.range M.length) (fun i => (gT T i).isSome && s.ls.all fun c => decide (c ≤ gM M i)) (fun i : Nat => PyData.int (i : Int)) (by rw [← enum_nats]; simp [evI, ev, rd, srcL]) (by simp) (.inl (by simp [wipeE, rd])) (by simp [backOwn, wipeE, rd]) fun i hi => ?_
    have hi := List.mem_range.mp hi
    have i7 : ev ⟨C, ioT TT, []⟩ (.idx (.var 6) (.var 8)) (ED s M T none (dn i) none none (dn (gM M i)) none) = some (.v (.d (optD (gT T i))), ED s M T none (dn i) none none (dn (gM M i)) none) := idx_var (.inl rfl) (ev_var rfl) (tD_ix (by omega))
    refine ⟨ED s M T none (dn i) none none (dn (gM M i)) none, by simp [bindT, bindTs, wipeE], evC_and (evC_cmp (op := .notN) i7 ev_con cmp_notN) fun _ => ?_, by simp [wipeE], fun _ => by simp [ev, rd, fz, valD]⟩
    obtain ⟨m, hm, _⟩ := max_some hls
    rw [evC_cmp (op := .ge) (ev_var rfl) (bi1_var (b := .max1) (xs := nats s.ls) (.inr rfl) (max_nats hm)) ge_nat, max_ge_all hm]
  have s3 : evS ⟨C, ioT TT, []⟩ [] (b3.getD 3 .pass) (ED s M T none none none none none none) = some (.nx (ED s M T (some (.own (nats (eI s M T)))) none none none none none)) := asg_step e7 (by simp) (by simp)
  have a7 : evC ⟨C, ioT TT, []⟩ (.notE (.var 7)) (ED s M T (some (.own (nats (eI s M T)))) none none none none none) = some ((eI s M T).isEmpty, ED s M T (some (.own (nats (eI s M T)))) none none none none none) := by
    rw [evC_not (evC_list (xs := nats (eI s M T)) (.inl rfl)), isE_nats, Bool.not_not]
  have hmap : endsL s M T = (eI s M T).map fun i => (gT T i).getD 0 := rfl
  cases hE : eI s M T with
  | nil =>
    rw [hE] at hmap s3 a7
    refine ⟨_, ⟨hnev hmap, by show T.length ≤ 40; omega, fun F T e => nomatch e⟩, ?_⟩
    refine ok_step s1 (ok_step s2 (ok_cons (ok_ifs a0 (fun z => nomatch z) fun _ => ok_nil (ok_step s3 (ok_cons (ok_ifs a7 (fun _ => ?_) fun z => nomatch z))))))
    refine ok_ret (r := .v (.d (toD (.nev T)))) (e1 := [some (.d (lD s.ls)), dn s.w, dn s.g, some (.d (qD s.q)), dn s.d, some (.own (nats M)), some (.d (.list (tD T))), some (.own (nats [])), none, none, none, none, none]) ?_ ⟨_, rfl⟩
    simp [ev, evF, fz, valD, rd, toD]
  | cons a0' r0 =>
    have hEm : ∀ i ∈ eI s M T, i < M.length ∧ ∃ v, gT T i = some v ∧ 1 ≤ v ∧ v ≤ 40 ∧ ∀ c ∈ s.ls, c ≤ gM M i := fun i hi => by
      obtain ⟨h1, h2⟩ := List.mem_filter.mp hi
      rw [Bool.and_eq_true] at h2
      have hl := List.mem_range.mp h1
      cases hv : gT T i with
      | none => rw [hv] at h2; cases h2.1
      | some v =>
        have := hval i hl v hv
        exact ⟨hl, v, rfl, this.1, by omega, fun c hc => of_decide_eq_true (List.all_eq_true.mp h2.2 c hc)⟩
    obtain ⟨c, hc, hmin, hle⟩ := min_enc (fun i => (((gT T i).getD 0 : Nat) : Int)) r0 a0'
    rw [← hE] at hc hle
    obtain ⟨hcM, t0, hct, ht1, ht40, hcx⟩ := hEm c hc
    have h0 : t0 ∈ endsL s M T := by rw [hmap]; exact List.mem_map.mpr ⟨c, hc, by rw [hct]; rfl⟩
    have hm : ∀ e ∈ endsL s M T, t0 ≤ e := fun e he => by
      rw [hmap] at he
      obtain ⟨i, hi, rfl⟩ := List.mem_map.mp he
      have := hle i hi
      simp only [hct, Option.getD_some] at this
      omega
    rw [hE] at s3 a7
    have e8 : ev ⟨C, ioT TT, []⟩ (.idx (.bi .min1 [(.lc (.tup [(.idx (.var 6) (.var 8)), (.var 8)]) (.nm 8) (.seq (.var 7)) (.con (.bool true)) [8])]) (.con (.int 1))) (ED s M T (some (.own (nats (a0' :: r0)))) none none none none none) = some (.v (.d (.int (c : Int))), ED s M T (some (.own (nats (a0' :: r0)))) none none none none none) := by
      have hlc : ev ⟨C, ioT TT, []⟩ (.lc (.tup [(.idx (.var 6) (.var 8)), (.var 8)]) (.nm 8) (.seq (.var 7)) (.con (.bool true)) [8]) (ED s M T (some (.own (nats (a0' :: r0)))) none none none none none) = some (.v (.own ((a0' :: r0).map (enc2 fun i => (((gT T i).getD 0 : Nat) : Int)))), ED s M T (some (.own (nats (a0' :: r0)))) none none none none none) := by
        rw [lc_of (lk := [7]) (g := some (7, nats (a0' :: r0))) (fun n : Nat => PyData.int (n : Int)) (a0' :: r0) (fun _ => true) (enc2 fun i => (((gT T i).getD 0 : Nat) : Int)) (by simp [evI, ev, rd, srcOf, nats]) (by simp) (.inl (by simp [wipeE, rd])) (by simp [backOwn, wipeE, rd]) fun i hi => ?_]
        · rw [filter_tt]
        · rw [← hE] at hi
          obtain ⟨hiM, v, hv, _⟩ := hEm i hi
          have i6 : ev ⟨C, ioT TT, []⟩ (.idx (.var 6) (.var 8)) (ED s M T (some (.own (nats (a0' :: r0)))) (dn i) none none none none) = some (.v (.d (optD (gT T i))), ED s M T (some (.own (nats (a0' :: r0)))) (dn i) none none none none) := idx_var (.inl rfl) (ev_var rfl) (tD_ix (by omega))
          refine ⟨ED s M T (some (.own (nats (a0' :: r0)))) (dn i) none none none none, by simp [bindT, wipeE], tru_evC, by simp [wipeE], fun _ => ?_⟩
          rw [hv] at i6
          rw [ev, evF, i6, Option.bind_some]
          simp only [fz, valD, optD, Option.map_some, Option.bind_some, evF, ev_var (x := .int (i : Int)) (show rd (ED s M T (some (.own (nats (a0' :: r0)))) (dn i) none none none none) 8 = _ from rfl), enc2, hv, Option.getD_some]
      have ez : ∀ me : ME, ev ⟨C, ioT TT, []⟩ me (ED s M T (some (.own (nats (a0' :: r0)))) none none none none none) = some (.v (.own ((a0' :: r0).map (enc2 fun i => (((gT T i).getD 0 : Nat) : Int)))), ED s M T (some (.own (nats (a0' :: r0)))) none none none none none) → ev ⟨C, ioT TT, []⟩ (.bi .min1 [me]) (ED s M T (some (.own (nats (a0' :: r0)))) none none none none none) = some (.v (.d (enc2 (fun i => (((gT T i).getD 0 : Nat) : Int)) c)), ED s M T (some (.own (nats (a0' :: r0)))) none none none none none) := fun me hme => by
        have hbi : biMin1 [.list ((a0' :: r0).map (enc2 fun i => (((gT T i).getD 0 : Nat) : Int)))] = some (.d (enc2 (fun i => (((gT T i).getD 0 : Nat) : Int)) c)) := by
          rw [← hmin]
          exact if_pos (minB_enc _ (a0' :: r0))
        rw [ev, evL, hme, Option.bind_some]
        simp only [evL, Option.map_some, Option.bind_some, curs, cur, valD, biD, hbi]
      refine ev_idxV (ez _ hlc) ev_con ?_
      simp [enc2, idxD, atI, ixN]
    have loop : ∃ F x10, F ≠ [] ∧ F.length = t0 ∧ Gd s M F ∧ (∀ x r, F = x :: r → psd s (-1) x = false) ∧ evS ⟨C, ioT TT, []⟩ [] (b3.getD 7 .pass) (ED s M T (some (.own (nats (a0' :: r0)))) (dn c) (some (.own (nats []))) none none none) = some (.nx (ED s M T (some (.own (nats (a0' :: r0)))) (some (.d .none)) (some (.own (nats F))) x10 none none)) := by
      generalize (some (.own (nats (a0' :: r0))) : Option Val) = x7
      have hq : OK (evS ⟨C, ioT TT, []⟩ [] (b3.getD 7 .pass) (ED s M T x7 (dn c) (some (.own (nats []))) none none none)) (fun r => ∃ F x10, F ≠ [] ∧ F.length = t0 ∧ Gd s M F ∧ (∀ x r, F = x :: r → psd s (-1) x = false) ∧ r = .nx (ED s M T x7 (some (.d .none)) (some (.own (nats F))) x10 none none)) := by
        refine ok_whl (m := t0) (fun m e => (∃ a v F x10, a < M.length ∧ gT T a = some v ∧ v = m ∧ v + F.length = t0 ∧ Gd s M (gM M a :: F) ∧ e = ED s M T x7 (dn a) (some (.own (nats F))) x10 none none) ∨ (m = 0 ∧ ∃ F x10, F ≠ [] ∧ F.length = t0 ∧ Gd s M F ∧ (∀ x r, F = x :: r → psd s (-1) x = false) ∧ e = ED s M T x7 (some (.d .none)) (some (.own (nats F))) x10 none none)) ?_ (.inl ⟨c, t0, [], none, hcM, hct, rfl, rfl, ⟨gM_mem hcM, hcx, trivial⟩, rfl⟩)
        rintro m e (⟨a, v, F, x10, ha, hv, rfl, hl, g, rfl⟩ | ⟨rfl, F, x10, f1, f2, f3, f4, rfl⟩)
        · refine ⟨true, ED s M T x7 (dn a) (some (.own (nats F))) x10 none none, evC_cmp (op := .notN) (ev_var rfl) ev_con rfl, fun _ => ?_, fun z => nomatch z⟩
          obtain ⟨hv1, _⟩ := hval a ha v hv
          have hFl : F.length ≤ 40 := by omega
          have i5 : ∀ x9 x10, ev ⟨C, ioT TT, []⟩ (.idx (.var 5) (.var 8)) (ED s M T x7 (dn a) x9 x10 none none) = some (.v (.d (.int ((gM M a : Nat) : Int))), ED s M T x7 (dn a) x9 x10 none none) := fun x9 x10 => idx_var (.inl rfl) (ev_var rfl) (nats_gd ha)
          have i6 : ∀ x9 x10 x12, ev ⟨C, ioT TT, []⟩ (.idx (.var 6) (.var 8)) (ED s M T x7 (dn a) x9 x10 none x12) = some (.v (.d (.int (v : Int))), ED s M T x7 (dn a) x9 x10 none x12) := fun x9 x10 x12 => by
            have : ev ⟨C, ioT TT, []⟩ (.idx (.var 6) (.var 8)) (ED s M T x7 (dn a) x9 x10 none x12) = some (.v (.d (optD (gT T a))), ED s M T x7 (dn a) x9 x10 none x12) := idx_var (.inl rfl) (ev_var rfl) (tD_ix (by omega))
            rw [hv] at this
            exact this
          have ea : ev ⟨C, ioT TT, []⟩ (.bin .add (.lst [(.idx (.var 5) (.var 8))]) (.var 9)) (ED s M T x7 (dn a) (some (.own (nats F))) x10 none none) = some (.v (.own (nats (gM M a :: F))), ED s M T x7 (dn a) (some (.own (nats F))) x10 none none) := by
            have el : ev ⟨C, ioT TT, []⟩ (.lst [(.idx (.var 5) (.var 8))]) (ED s M T x7 (dn a) (some (.own (nats F))) x10 none none) = some (.v (.own (nats [gM M a])), ED s M T x7 (dn a) (some (.own (nats F))) x10 none none) := by
              rw [ev, evF, i5, Option.bind_some]
              rfl
            exact ev_addL (x := [gM M a]) (y := F) el rfl (ev_ali (xs := nats F) rfl) rfl (by simp) (by omega)
          refine ok_step (e1 := ED s M T x7 (dn a) (some (.own (nats (gM M a :: F)))) x10 none none) (asg_step ea (by simp) (by simp)) ?_
          have e10 : ev ⟨C, ioT TT, []⟩ (.lc (.var 12) (.nm 12) (.rng [(.var 8)]) (.andE (.call 4 [(.var 0), (.var 1), (.var 2), (.var 5), (.var 12), (.var 8)]) (.cmp .notN (.idx (.var 6) (.var 12)) (.con .none))) [12]) (ED s M T x7 (dn a) (some (.own (nats (gM M a :: F)))) x10 none none) = some (.v (.own (nats ((List.range a).filter fun o => fol s (gM M o) (gM M a) && (gT T o).isSome))), ED s M T x7 (dn a) (some (.own (nats (gM M a :: F)))) x10 none none) := by
            refine lc_of (lk := []) (g := none) (fun n : Nat => PyData.int (n : Int)) (List.range a) (fun o => fol s (gM M o) (gM M a) && (gT T o).isSome) (fun n : Nat => PyData.int (n : Int)) (evI_rng (ev_var rfl) (by omega)) rfl trivial (by simp [backOwn, wipeE, rd]) fun o ho => ?_
            have ho := List.mem_range.mp ho
            have io6 : ev ⟨C, ioT TT, []⟩ (.idx (.var 6) (.var 12)) (ED s M T x7 (dn a) (some (.own (nats (gM M a :: F)))) x10 none (dn o)) = some (.v (.d (optD (gT T o))), ED s M T x7 (dn a) (some (.own (nats (gM M a :: F)))) x10 none (dn o)) := idx_var (.inl rfl) (ev_var rfl) (tD_ix (by omega))
            refine ⟨ED s M T x7 (dn a) (some (.own (nats (gM M a :: F)))) x10 none (dn o), by simp [bindT, wipeE], evC_and (evC_b ?_) fun _ => evC_cmp (op := .notN) io6 ev_con cmp_notN, by simp [wipeE], fun _ => by simp [ev, rd, fz, valD]⟩
            exact call_gen (rs := [.v (.d (lD s.ls)), .v (.d (.int (s.w : Int))), .v (.d (.int (s.g : Int))), .ali 5, .v (.d (.int (o : Int))), .v (.d (.int (a : Int)))]) (e1 := ED s M T x7 (dn a) (some (.own (nats (gM M a :: F)))) x10 none (dn o)) (by simp [evL, ev, rd]) (by simp [alis]) (by simp [argVals, io4, nonIo, valD, rd, cur, lD]) (c4 o a (by omega) ha) (by simp [io4, flatV, flatAll, noList, backArgs])
          refine ok_step (e1 := ED s M T x7 (dn a) (some (.own (nats (gM M a :: F)))) (some (.own (nats ((List.range a).filter fun o => fol s (gM M o) (gM M a) && (gT T o).isSome)))) none none) (asg_step e10 (by simp) (by simp)) ?_
          have hAb : ∀ o ∈ (List.range a).filter (fun o => fol s (gM M o) (gM M a) && (gT T o).isSome), o < a ∧ fol s (gM M o) (gM M a) = true ∧ ∃ u, gT T o = some u := fun o ho => by
            obtain ⟨h1, h2⟩ := List.mem_filter.mp ho
            rw [Bool.and_eq_true] at h2
            exact ⟨List.mem_range.mp h1, h2.1, Option.isSome_iff_exists.mp h2.2⟩
          have hAb2 : ∀ o u, o < a → fol s (gM M o) (gM M a) = true → gT T o = some u → o ∈ (List.range a).filter (fun o => fol s (gM M o) (gM M a) && (gT T o).isSome) := fun o u h1 h2 h3 => List.mem_filter.mpr ⟨List.mem_range.mpr h1, by rw [h2, h3]; rfl⟩
          generalize (List.range a).filter (fun o => fol s (gM M o) (gM M a) && (gT T o).isSome) = A at hAb hAb2
          have e11 : ev ⟨C, ioT TT, []⟩ (.lc (.var 12) (.nm 12) (.seq (.var 10)) (.cmp .eq (.bin .add (.idx (.var 6) (.var 12)) (.con (.int 1))) (.idx (.var 6) (.var 8))) [12]) (ED s M T x7 (dn a) (some (.own (nats (gM M a :: F)))) (some (.own (nats A))) none none) = some (.v (.own (nats (A.filter fun o => decide ((gT T o).getD 0 + 1 = v)))), ED s M T x7 (dn a) (some (.own (nats (gM M a :: F)))) (some (.own (nats A))) none none) := by
            refine lc_of (lk := [10]) (g := some (10, nats A)) (fun n : Nat => PyData.int (n : Int)) A (fun o => decide ((gT T o).getD 0 + 1 = v)) (fun n : Nat => PyData.int (n : Int)) (by simp [evI, ev, rd, srcOf, nats]) (by simp) (.inl (by simp [wipeE, rd])) (by simp [backOwn, wipeE, rd]) fun o ho => ?_
            obtain ⟨h1, _, u, hu⟩ := hAb o ho
            have io6 : ev ⟨C, ioT TT, []⟩ (.idx (.var 6) (.var 12)) (ED s M T x7 (dn a) (some (.own (nats (gM M a :: F)))) (some (.own (nats A))) none (dn o)) = some (.v (.d (optD (gT T o))), ED s M T x7 (dn a) (some (.own (nats (gM M a :: F)))) (some (.own (nats A))) none (dn o)) := idx_var (.inl rfl) (ev_var rfl) (tD_ix (by omega))
            rw [hu] at io6
            refine ⟨ED s M T x7 (dn a) (some (.own (nats (gM M a :: F)))) (some (.own (nats A))) none (dn o), by simp [bindT, wipeE], ?_, by simp [wipeE], fun _ => by simp [ev, rd, fz, valD]⟩
            have := evC_cmp (op := .eq) (x := .int ((u + 1 : Nat) : Int)) (ev_add (i := (u : Int)) (j := 1) io6 ev_con) (i6 (some (.own (nats (gM M a :: F)))) (some (.own (nats A))) (dn o)) eq_nat
            rw [this, hu]
            rfl
          refine ok_step (e1 := ED s M T x7 (dn a) (some (.own (nats (gM M a :: F)))) (some (.own (nats (A.filter fun o => decide ((gT T o).getD 0 + 1 = v))))) none none) (asg_step e11 (by simp) (by simp)) ?_
          have cg := evC_cmp (op := .gt) (i6 (some (.own (nats (gM M a :: F)))) (some (.own (nats (A.filter fun o => decide ((gT T o).getD 0 + 1 = v))))) none) (ev_con (c := .int 1)) (gt_nat (b := 1))
          have hvm := hat a ha
          rw [hv] at hvm
          have hrow := rws_mem (List.min?_eq_some_iff.mp hvm.symm).1
          by_cases h1v : 1 < v
          · obtain ⟨o, u, ho, hfo, hou, huv⟩ : ∃ o u, o < a ∧ fol s (gM M o) (gM M a) = true ∧ gT T o = some u ∧ v = u + 1 := by
              rcases hrow with z | ⟨_, z⟩
              · exact z
              · omega
            have hmem : o ∈ A.filter fun o => decide ((gT T o).getD 0 + 1 = v) := List.mem_filter.mpr ⟨hAb2 o u ho hfo hou, decide_eq_true (by rw [hou]; exact huv.symm)⟩
            cases hB : A.filter (fun o => decide ((gT T o).getD 0 + 1 = v)) with
            | nil => rw [hB] at hmem; cases hmem
            | cons b B =>
              have hbm : b ∈ A.filter fun o => decide ((gT T o).getD 0 + 1 = v) := by rw [hB]; exact List.mem_cons_self ..
              obtain ⟨b1, b2⟩ := List.mem_filter.mp hbm
              obtain ⟨b3, b4, ub, b5⟩ := hAb b b1
              have b2 : ub + 1 = v := by
                have := of_decide_eq_true b2
                rw [b5] at this
                exact this
              rw [hB] at cg
              refine ok_step (e1 := ED s M T x7 (dn b) (some (.own (nats (gM M a :: F)))) (some (.own (nats (b :: B)))) none none) (asg_step (w := .d (.int (b : Int))) ?_ (by simp) (by simp)) (ok_nil ⟨ub, by omega, .inl ⟨b, ub, gM M a :: F, some (.own (nats (b :: B))), by omega, b5, rfl, by rw [List.length_cons]; omega, ⟨gM_mem (by omega), b4, g⟩, rfl⟩⟩)
              rw [ev_ite cg, decide_eq_true h1v, if_pos rfl]
              exact idx_var (.inl rfl) ev_con (nats_ix (i := 0) rfl)
          · have hv1' : v = 1 := by omega
            have hps : psd s (-1) (gM M a) = false := by
              rcases hrow with ⟨o, u, ho, _, hou, huv⟩ | ⟨z, _⟩
              · have := hval o (by omega) u hou
                omega
              · exact z
            refine ok_step (e1 := ED s M T x7 (some (.d .none)) (some (.own (nats (gM M a :: F)))) (some (.own (nats (A.filter fun o => decide ((gT T o).getD 0 + 1 = v))))) none none) (asg_step (w := .d .none) ?_ (by simp) (by simp)) (ok_nil ⟨0, by omega, .inr ⟨rfl, gM M a :: F, some (.own (nats (A.filter fun o => decide ((gT T o).getD 0 + 1 = v)))), by simp, by rw [List.length_cons]; omega, g, fun x r e => by cases e; exact hps, rfl⟩⟩)
            rw [ev_ite cg, decide_eq_false h1v, if_neg (by decide)]
            exact ev_con
        · refine ⟨false, ED s M T x7 (some (.d .none)) (some (.own (nats F))) x10 none none, evC_cmp (op := .notN) (ev_var rfl) ev_con rfl, (fun z => nomatch z), fun _ => ⟨F, x10, f1, f2, f3, f4, rfl⟩⟩
      obtain ⟨r, h1, F, x10, f1, f2, f3, f4, rfl⟩ := hq
      exact ⟨F, x10, f1, f2, f3, f4, h1⟩
    obtain ⟨F, y10, f1, f2, f3, f4, e9⟩ := loop
    refine ⟨.dig (castN F) T, ⟨hdig F t0 f3 f1 f4 f2 h0 hm, by show T.length ≤ 40; omega, fun F' T' e => by cases e; show (castN F).length ≤ 40; unfold castN; rw [List.length_map]; omega⟩, ?_⟩
    refine ok_step s1 (ok_step s2 (ok_cons (ok_ifs a0 (fun z => nomatch z) fun _ => ok_nil (ok_step s3 (ok_cons (ok_ifs a7 (fun z => nomatch z) fun _ => ok_nil ?_))))))
    refine ok_step (e1 := ED s M T (some (.own (nats (a0' :: r0)))) (dn c) none none none none) (asg_step e8 (by simp) (by simp)) ?_
    refine ok_step (e1 := ED s M T (some (.own (nats (a0' :: r0)))) (dn c) (some (.own (nats []))) none none none) (asg_step (by simp [ev, evF, nats]) (by simp) (by simp)) (ok_step e9 ?_)
    refine ok_ret (r := .v (.d (toD (.dig (castN F) T)))) (e1 := [some (.d (lD s.ls)), dn s.w, dn s.g, some (.d (qD s.q)), dn s.d, some (.own (nats M)), some (.d (.list (tD T))), some (.own (nats (a0' :: r0))), some (.d .none), some (.d (.list (nats F))), y10, none, none]) ?_ ⟨_, rfl⟩
    rw [toD, iD_cast]
    simp [ev, evF, fz, valD, rd]

set_option exponentiation.threshold 3000
/-! the scene -/
def scD (s : Sc) : D := .tuple [lD s.ls, .int (s.w : Int), .int (s.g : Int), qD s.q, .int (s.d : Int)]
theorem draws_ok {C : Calls} (T : TakeOk C 9) {i : Int} {cs : List Int} (hne : cs ≠ []) : ∃ (ls : List Nat) (i' : Int) (cs' : List Int), ls.length ≤ 8 ∧ (∀ c ∈ ls, c < 20) ∧ cs' ≠ [] ∧ ev ⟨C, ioT TT, []⟩ (.bi .sorted [(.lc (.call 9 [(.var 0), (.con (.int 20))]) (.nm 7) (.rng [(.call 9 [(.var 0), (.bin .add (.var 1) (.con (.int 1)))])]) (.con (.bool true)) [7])]) [some (.st i cs), some (.d (.int 8)), none, none, none, none, none, none] = some (.v (.own (nats ls)), [some (.st i' cs'), some (.d (.int 8)), none, none, none, none, none, none]) := by
  have em : ev ⟨C, ioT TT, []⟩ (.bin .add (.var 1) (.con (.int 1))) [some (.st i cs), some (.d (.int 8)), none, none, none, none, none, none] = some (.v (.d (.int 9)), [some (.st i cs), some (.d (.int 8)), none, none, none, none, none, none]) := by simp [ev, rd, cur_v, binD]
  obtain ⟨d, i2, c2, hd, n2, t2⟩ := draw (Γ := ⟨C, ioT TT, []⟩) (j := 0) T io9 (show rd [some (.st i cs), some (.d (.int 8)), none, none, none, none, none, none] 0 = some (.st i cs) from rfl) hne em (by decide) (by decide)
  have hs := evI_rngS (n := d) t2 rfl (by omega)
  obtain ⟨ys, e, ⟨ws, i3, c3, rfl, h1, h2, n3, rfl⟩, he⟩ := lc_run (Γ := ⟨C, ioT TT, []⟩) (elt := .call 9 [(.var 0), (.con (.int 20))]) (cond := .con (.bool true)) (tg := .nm 7) (own := [7]) (env1 := [some (.st i2 c2), some (.d (.int 8)), none, none, none, none, none, none]) hs rfl
    (fun j ys e => ∃ (ws : List Nat) (i' : Int) (cs' : List Int), ys = nats ws ∧ ws.length = j ∧ (∀ w ∈ ws, w < 20) ∧ cs' ≠ [] ∧ e = [some (.st i' cs'), some (.d (.int 8)), none, none, none, none, none, none]) ⟨[], i2, c2, rfl, rfl, by simp, n2, by simp [wipeE]⟩
    (by
      rintro j x ys e hx ⟨ws, i2, c2, rfl, h1, h2, n2, rfl⟩
      obtain ⟨c, hc, rfl⟩ := nats_at hx
      obtain ⟨d3, i3, c3, b3, n3, t3⟩ := draw (Γ := ⟨C, ioT TT, []⟩) (e := .con (.int 20)) (j := 0) T io9 (show rd [some (.st i2 c2), some (.d (.int 8)), none, none, none, none, none, dn c] 0 = some (.st i2 c2) from rfl) n2 ev_con (by decide) (by decide)
      refine ⟨trivial, [some (.st i2 c2), some (.d (.int 8)), none, none, none, none, none, dn c], true, [some (.st i2 c2), some (.d (.int 8)), none, none, none, none, none, dn c], by simp [bindT], tru_evC, fun _ => ⟨.int (d3 : Int), [some (.st i3 c3), some (.d (.int 8)), none, none, none, none, none, dn c], by rw [t3]; rfl, ws ++ [d3], i3, c3, by rw [nats_app], by simp [h1], fun w hw => ?_, n3, by simp [wipeE]⟩, fun z => nomatch z⟩
      rcases List.mem_append.mp hw with q | q
      · exact h2 w q
      · simp at q; omega)
    (fun _ _ _ => trivial)
  rw [nats_len, List.length_range] at h1
  refine ⟨sortN ws, i3, c3, by rw [(sortN_perm ws).length_eq]; omega, fun c hc => h2 c ((sortN_perm ws).mem_iff.mp hc), n3, ?_⟩
  have hb : backOwn [some (.st i2 c2), some (.d (.int 8)), none, none, none, none, none, none] [some (.st i3 c3), some (.d (.int 8)), none, none, none, none, none, none] [7] = [some (.st i3 c3), some (.d (.int 8)), none, none, none, none, none, none] := by simp [backOwn, rd]
  rw [hb] at he
  rw [ev, evL, he, Option.bind_some]
  simp only [evL, Option.map_some, Option.bind_some, curs, cur, valD, biD, sorted_nats]
theorem quiets_ok {C : Calls} (T : TakeOk C 9) {i : Int} {cs : List Int} (hne : cs ≠ []) {dy : Nat} (hd0 : 0 < dy) (hd : dy ≤ 24) {x2 x3 x4 : Option Val} : ∃ (q : List Pr) (i' : Int) (cs' : List Int), q.length ≤ 2 ∧ (∀ p ∈ q, p.1 < 24 ∧ p.2 < 24) ∧ cs' ≠ [] ∧ ev ⟨C, ioT TT, []⟩ (.lc (.tup [(.call 9 [(.var 0), (.var 5)]), (.call 9 [(.var 0), (.var 5)])]) (.nm 7) (.rng [(.call 9 [(.var 0), (.con (.int 3))])]) (.con (.bool true)) [7]) [some (.st i cs), some (.d (.int 8)), x2, x3, x4, dn dy, none, none] = some (.v (.own (q.map pD)), [some (.st i' cs'), some (.d (.int 8)), x2, x3, x4, dn dy, none, none]) := by
  obtain ⟨d, i2, c2, hd', n2, t2⟩ := draw (Γ := ⟨C, ioT TT, []⟩) (e := .con (.int 3)) (j := 0) T io9 (show rd [some (.st i cs), some (.d (.int 8)), x2, x3, x4, dn dy, none, none] 0 = some (.st i cs) from rfl) hne ev_con (by decide) (by decide)
  have hs := evI_rngS (n := d) t2 rfl (by omega)
  obtain ⟨ys, e, ⟨ws, i3, c3, rfl, h1, h2, n3, rfl⟩, he⟩ := lc_run (Γ := ⟨C, ioT TT, []⟩) (elt := .tup [(.call 9 [(.var 0), (.var 5)]), (.call 9 [(.var 0), (.var 5)])]) (cond := .con (.bool true)) (tg := .nm 7) (own := [7]) (env1 := [some (.st i2 c2), some (.d (.int 8)), x2, x3, x4, dn dy, none, none]) hs rfl
    (fun j ys e => ∃ (ws : List Pr) (i' : Int) (cs' : List Int), ys = ws.map pD ∧ ws.length = j ∧ (∀ w ∈ ws, w.1 < 24 ∧ w.2 < 24) ∧ cs' ≠ [] ∧ e = [some (.st i' cs'), some (.d (.int 8)), x2, x3, x4, dn dy, none, none]) ⟨[], i2, c2, rfl, rfl, by simp, n2, by simp [wipeE]⟩
    (by
      rintro j x ys e hx ⟨ws, i2, c2, rfl, h1, h2, n2, rfl⟩
      obtain ⟨c, hc, rfl⟩ := nats_at hx
      obtain ⟨d3, i3, c3, b3, n3, t3⟩ := draw (Γ := ⟨C, ioT TT, []⟩) (e := .var 5) (j := 0) T io9 (show rd [some (.st i2 c2), some (.d (.int 8)), x2, x3, x4, dn dy, none, dn c] 0 = some (.st i2 c2) from rfl) n2 (ev_var rfl) (by omega) (by omega)
      obtain ⟨d4, i4, c4, b4, n4, t4⟩ := draw (Γ := ⟨C, ioT TT, []⟩) (e := .var 5) (j := 0) T io9 (show rd [some (.st i3 c3), some (.d (.int 8)), x2, x3, x4, dn dy, none, dn c] 0 = some (.st i3 c3) from rfl) n3 (ev_var rfl) (by omega) (by omega)
      have t3 : ev ⟨C, ioT TT, []⟩ (.call 9 [(.var 0), (.var 5)]) [some (.st i2 c2), some (.d (.int 8)), x2, x3, x4, dn dy, none, dn c] = some (.v (.d (.int (d3 : Int))), [some (.st i3 c3), some (.d (.int 8)), x2, x3, x4, dn dy, none, dn c]) := t3
      have t4 : ev ⟨C, ioT TT, []⟩ (.call 9 [(.var 0), (.var 5)]) [some (.st i3 c3), some (.d (.int 8)), x2, x3, x4, dn dy, none, dn c] = some (.v (.d (.int (d4 : Int))), [some (.st i4 c4), some (.d (.int 8)), x2, x3, x4, dn dy, none, dn c]) := t4
      have e5 : ev ⟨C, ioT TT, []⟩ (.tup [(.call 9 [(.var 0), (.var 5)]), (.call 9 [(.var 0), (.var 5)])]) [some (.st i2 c2), some (.d (.int 8)), x2, x3, x4, dn dy, none, dn c] = some (.v (.d (pD (d3, d4))), [some (.st i4 c4), some (.d (.int 8)), x2, x3, x4, dn dy, none, dn c]) := by
        rw [ev, evF, t3, Option.bind_some]
        simp only [fz, valD, Option.map_some, Option.bind_some, evF, t4]
        rfl
      refine ⟨trivial, [some (.st i2 c2), some (.d (.int 8)), x2, x3, x4, dn dy, none, dn c], true, [some (.st i2 c2), some (.d (.int 8)), x2, x3, x4, dn dy, none, dn c], by simp [bindT], tru_evC, fun _ => ⟨pD (d3, d4), [some (.st i4 c4), some (.d (.int 8)), x2, x3, x4, dn dy, none, dn c], by rw [e5]; rfl, ws ++ [(d3, d4)], i4, c4, by simp, by simp [h1], fun w hw => ?_, n4, by simp [wipeE]⟩, fun z => nomatch z⟩
      rcases List.mem_append.mp hw with q | q
      · exact h2 w q
      · simp at q
        subst q
        exact ⟨by show d3 < 24; omega, by show d4 < 24; omega⟩)
    (fun _ _ _ => trivial)
  rw [nats_len, List.length_range] at h1
  have hb : backOwn [some (.st i2 c2), some (.d (.int 8)), x2, x3, x4, dn dy, none, none] [some (.st i3 c3), some (.d (.int 8)), x2, x3, x4, dn dy, none, none] [7] = [some (.st i3 c3), some (.d (.int 8)), x2, x3, x4, dn dy, none, none] := by simp [backOwn, rd]
  rw [hb] at he
  exact ⟨ws, i3, c3, by omega, h2, n3, he⟩
theorem scene_ok (k : Nat) {i : Int} {cs : List Int} (hne : cs ≠ []) : ∃ (s : Sc) (i' : Int) (cs' : List Int), ScOk s ∧ cs' ≠ [] ∧ callT TT [] (k + 2) 10 [.st i cs, .d (.int 8)] = some (.d (scD s), [.st i' cs', .d (.int 8)]) := by
  have T := takeOk k
  have key : ∀ C : Calls, TakeOk C 9 → ∃ (s : Sc) (i' : Int) (cs' : List Int), ScOk s ∧ cs' ≠ [] ∧ OK (evSs ⟨C, ioT TT, []⟩ [0] b10 [some (.st i cs), some (.d (.int 8)), none, none, none, none, none, none]) (fun r => endF [0] [.st i cs, .d (.int 8)] r = some (.d (scD s), [.st i' cs', .d (.int 8)])) := by
    intro C T
    obtain ⟨ls, i1, c1, hl, hl2, n1, e1⟩ := draws_ok T hne (i := i)
    obtain ⟨w, i2, c2, hw, n2, t2⟩ := draw (Γ := ⟨C, ioT TT, []⟩) (e := .con (.int 8)) (j := 0) T io9 (show rd [some (.st i1 c1), some (.d (.int 8)), some (.own (nats ls)), none, none, none, none, none] 0 = some (.st i1 c1) from rfl) n1 ev_con (by decide) (by decide)
    obtain ⟨g, i3, c3, hg, n3, t3⟩ := draw (Γ := ⟨C, ioT TT, []⟩) (e := .con (.int 6)) (j := 0) T io9 (show rd [some (.st i2 c2), some (.d (.int 8)), some (.own (nats ls)), none, none, none, none, none] 0 = some (.st i2 c2) from rfl) n2 ev_con (by decide) (by decide)
    obtain ⟨y, i4, c4, hy, n4, t4⟩ := draw (Γ := ⟨C, ioT TT, []⟩) (e := .con (.int 2)) (j := 0) T io9 (show rd [some (.st i3 c3), some (.d (.int 8)), some (.own (nats ls)), dn w, dn (1 + g), none, none, none] 0 = some (.st i3 c3) from rfl) n3 ev_con (by decide) (by decide)
    obtain ⟨dy, hdy, hdy24, hdy0⟩ : ∃ z : Nat, ([.int 12, .int 24] : List D)[y]? = some (.int (z : Int)) ∧ z ≤ 24 ∧ 0 < z := by
      rcases (show y = 0 ∨ y = 1 by omega) with rfl | rfl
      · exact ⟨12, rfl, by decide, by decide⟩
      · exact ⟨24, rfl, by decide, by decide⟩
    obtain ⟨q, i5, c5, hq, hq2, n5, e5⟩ := quiets_ok T n4 hdy0 hdy24 (i := i4) (x2 := some (.own (nats ls))) (x3 := dn w) (x4 := dn (1 + g))
    refine ⟨⟨ls, w, 1 + g, q, dy⟩, i5, c5, ⟨hl, hl2, by show w ≤ 7; omega, by show 0 < 1 + g; omega, by show 1 + g ≤ 6; omega, hdy0, hdy24, hq, hq2⟩, n5, ?_⟩
    refine ok_step (e1 := [some (.st i1 c1), some (.d (.int 8)), some (.own (nats ls)), none, none, none, none, none]) (asg_stepS e1 (by simp) (by simp)) ?_
    refine ok_step (e1 := [some (.st i3 c3), some (.d (.int 8)), some (.own (nats ls)), dn w, dn (1 + g), none, none, none]) ?_ ?_
    · have t2 : ev ⟨C, ioT TT, []⟩ (.call 9 [(.var 0), (.con (.int 8))]) [some (.st i1 c1), some (.d (.int 8)), some (.own (nats ls)), none, none, none, none, none] = some (.v (.d (.int (w : Int))), [some (.st i2 c2), some (.d (.int 8)), some (.own (nats ls)), none, none, none, none, none]) := t2
      have t3 : ev ⟨C, ioT TT, []⟩ (.call 9 [(.var 0), (.con (.int 6))]) [some (.st i2 c2), some (.d (.int 8)), some (.own (nats ls)), none, none, none, none, none] = some (.v (.d (.int (g : Int))), [some (.st i3 c3), some (.d (.int 8)), some (.own (nats ls)), none, none, none, none, none]) := t3
      have t3' : ev ⟨C, ioT TT, []⟩ (.bin .add (.con (.int 1)) (.call 9 [(.var 0), (.con (.int 6))])) [some (.st i2 c2), some (.d (.int 8)), some (.own (nats ls)), none, none, none, none, none] = some (.v (.d (.int (1 + (g : Int)))), [some (.st i3 c3), some (.d (.int 8)), some (.own (nats ls)), none, none, none, none, none]) := ev_add ev_con t3
      rw [show 1 + (g : Int) = ((1 + g : Nat) : Int) by omega] at t3'
      have eL : evL ⟨C, ioT TT, []⟩ [(.call 9 [(.var 0), (.con (.int 8))]), (.bin .add (.con (.int 1)) (.call 9 [(.var 0), (.con (.int 6))]))] [some (.st i1 c1), some (.d (.int 8)), some (.own (nats ls)), none, none, none, none, none] = some ([.v (.d (.int (w : Int))), .v (.d (.int ((1 + g : Nat) : Int)))], [some (.st i3 c3), some (.d (.int 8)), some (.own (nats ls)), none, none, none, none, none]) := by
        rw [evL, t2, Option.bind_some]
        simp only [evL, t3', Option.bind_some, Option.map_some]
      rw [evS, eL, Option.bind_some]
      simp [fzAs, fzA, setVs, setV]
    have t5 : ev ⟨C, ioT TT, []⟩ (.idx (.lst [(.con (.int 12)), (.con (.int 24))]) (.call 9 [(.var 0), (.con (.int 2))])) [some (.st i3 c3), some (.d (.int 8)), some (.own (nats ls)), dn w, dn (1 + g), none, none, none] = some (.v (.d (.int (dy : Int))), [some (.st i4 c4), some (.d (.int 8)), some (.own (nats ls)), dn w, dn (1 + g), none, none, none]) := lst_ix (xs := [.int 12, .int 24]) (by simp [ev, evF, fz, valD]) t4 hdy
    refine ok_step (e1 := [some (.st i4 c4), some (.d (.int 8)), some (.own (nats ls)), dn w, dn (1 + g), dn dy, none, none]) (asg_stepS t5 (by simp) (by simp)) ?_
    refine ok_step (e1 := [some (.st i5 c5), some (.d (.int 8)), some (.own (nats ls)), dn w, dn (1 + g), dn dy, some (.own (q.map pD)), none]) (asg_stepS e5 (by simp) (by simp)) ?_
    refine ok_ret (r := .v (.d (scD ⟨ls, w, 1 + g, q, dy⟩))) (e1 := [some (.st i5 c5), some (.d (.int 8)), some (.d (.list (nats ls))), dn w, dn (1 + g), dn dy, some (.d (.list (q.map pD))), none]) ?_ (by simp [endF, outs, rd])
    simp [ev, evF, fz, valD, rd, scD, lD, qD]
  obtain ⟨s, i', cs', a, b, c⟩ := key _ T
  exact ⟨s, i', cs', a, b, call_py rfl rfl (by decide) c⟩
/-! what is told is small -/
theorem okD_word {s : Str} : okD (word s) = true := by simp [okD, word, PyData.plain, PyData.plainAll, PyData.depth, PyData.depthAll]
theorem okD_wordI {s : Str} {i : Nat} : okD (wordI s i) = true := by simp [okD, wordI, PyData.plain, PyData.plainAll, PyData.depth, PyData.depthAll]
theorem fsI_P {α : Type} {P : D → Prop} {res : Nat → α → Option D} (h : ∀ i a d, res i a = some d → P d) : ∀ {l : List α} {i : Nat} {d : D}, fsI res i l = some d → P d
  | [], _, _, e => by cases e
  | a :: r, i, d, e => by
    rw [fsI] at e
    cases hr : res i a with
    | some d' => rw [hr] at e; cases e; exact h i a d hr
    | none => rw [hr] at e; exact fsI_P h e
theorem orD_P {P : D → Prop} {o : Option D} {x : D} (h : ∀ d, o = some d → P d) (k : P x) : P (orD o x) := by
  cases o with
  | none => exact k
  | some d => exact h d rfl
theorem fault_okD {s : Sc} {t : Told} : okD (faultP s t) = true := by
  unfold faultP
  split
  · exact okD_word
  refine orD_P (P := fun d => okD d = true) (fun d hd => fsI_P (P := fun d => okD d = true) (fun i a d hd => ?_) hd) ?_
  · unfold stepF at hd
    split at hd
    · cases hd; exact okD_wordI
    · split at hd
      · cases hd; exact okD_wordI
      · cases hd
  · cases t with
    | nev T => unfold tellP; simp only; split <;> first | exact okD_word | exact ok_non
    | dig F T =>
      show okD (foundP _ _ _ _) = true
      unfold foundP
      refine orD_P (P := fun d => okD d = true) (fun d hd => fsI_P (P := fun d => okD d = true) (fun i a d hd => ?_) hd) (orD_P (P := fun d => okD d = true) (fun d hd => fsI_P (P := fun d => okD d = true) (fun i a d hd => ?_) hd) ?_)
      · unfold stepG at hd
        split at hd
        · cases hd; exact okD_wordI
        · split at hd
          · cases hd; exact okD_wordI
          · cases hd
      · unfold stepL at hd
        split at hd
        · cases hd; exact okD_wordI
        · cases hd
      · split <;> first | exact okD_word | exact ok_non
theorem sh_ok {s : Sc} (h : ScOk s) : shB (.tuple [lD s.ls, qD s.q]) = true := by
  have a : Sm 2 400 (lD s.ls) := (sm_nats (m := 8) h.len fun c hc => by have := h.each c hc; omega).mono (by decide) (by decide)
  have b : Sm 2 400 (qD s.q) := (sm_list (n := 1) (c := 44) (m := 2) (by simpa using h.ql) fun x hx => by
    obtain ⟨p, hp, rfl⟩ := List.mem_map.mp hx
    obtain ⟨h1, h2⟩ := h.q p hp
    refine (sm_tup (n := 0) (c := 21) (m := 2) (by simp) fun x hx => ?_).mono (by decide) (by decide)
    simp only [List.mem_cons, List.not_mem_nil, or_false] at hx
    rcases hx with rfl | rfl
    · exact sm_nat (by omega)
    · exact sm_nat (by omega)).mono (by decide) (by decide)
  refine (sm_tup (n := 2) (c := 400) (m := 2) (by simp) fun x hx => ?_).sh (by decide) (by decide)
  simp only [List.mem_cons, List.not_mem_nil, or_false] at hx
  rcases hx with rfl | rfl
  · exact a
  · exact b

set_option exponentiation.threshold 3000
abbrev EK (ns : List Int) (s1 : Option Val) (s : Sc) (kp : Option Val) (t : Told) (x9 x10 x11 x12 x13 x14 x15 : Option Val) : Env := [some (.scr ns), s1, some (.d (lD s.ls)), dn s.w, dn s.g, some (.d (qD s.q)), dn s.d, kp, some (.d (toD t)), x9, x10, x11, x12, x13, x14, x15]
def inL (F : List Int) : List D := F.map .int
theorem inL_len (F : List Int) : (inL F).length = F.length := by simp [inL]
abbrev oT (T : List (Option Nat)) : Option Val := some (.own (tD T))
abbrev oF (F : List Int) : Option Val := some (.own (inL F))
section
variable {ns : List Int} {s : Sc} {kp : Option Val} {t : Told} {C : Calls}
theorem kind_ok (T9 : TakeOk C 9) {i0 : Int} {c0 : List Int} (n0 : c0 ≠ []) {x9 x14 x15 : Option Val} {F : List Int} {T : List (Option Nat)} {at_ q : Nat} (hF : F.length ≤ 100) (hT : T.length ≤ 100) (hat : at_ < max 1 F.length) {P : Res → Prop}
    (k : ∀ (F' : List Int) (T' : List (Option Nat)) (i' : Int) (cs' : List Int) (y12 : Option Val), F'.length ≤ 1000 → cs' ≠ [] → P (.nx (EK ns (some (.st i' cs')) s kp t x9 (oT T') (oF F') y12 (dn q) x14 x15))) :
    OK (evS ⟨C, ioT TT, []⟩ [] (.ifs (.cmp .eq (.var 13) (.con (.int 0))) [.asg (.nm 11) (.bin .add (.sli (.var 11) (.con .none) (.var 12)) (.sli (.var 11) (.bin .add (.var 12) (.con (.int 1))) (.con .none)))] [.ifs (.andE (.cmp .eq (.var 13) (.con (.int 1))) (.cmp .gt (.bi .len [(.var 11)]) (.con (.int 0)))) [.seti 11 (.var 12) (.bin .add (.idx (.var 11) (.var 12)) (.idx (.lst [(.con (.int 1)), (.bin .sub (.con (.int 0)) (.con (.int 1))), (.con (.int 5))]) (.call 9 [(.var 1), (.con (.int 3))])))] [.ifs (.cmp .eq (.var 13) (.con (.int 2))) [.asg (.nm 11) (.bi .sorted [(.bin .add (.var 11) (.lst [(.call 9 [(.var 1), (.con (.int 25))])]))])] [.ifs (.andE (.cmp .lt (.var 13) (.con (.int 5))) (.cmp .gt (.bi .len [(.var 10)]) (.con (.int 0)))) [.asg (.nm 12) (.call 9 [(.var 1), (.bi .len [(.var 10)])]), .seti 10 (.var 12) (.idx (.lst [(.con .none), (.con (.int 1)), (.con (.int 2)), (.con (.int 0))]) (.call 9 [(.var 1), (.con (.int 4))]))] [.ifs (.cmp .eq (.var 13) (.con (.int 5))) [.asg (.nm 10) (.bin .add (.sli (.var 10) (.con (.int 1)) (.con .none)) (.lst [(.con (.int 1)), (.con (.int 1))]))] []]]]]) (EK ns (some (.st i0 c0)) s kp t x9 (oT T) (oF F) (dn at_) (dn q) x14 x15)) P := by
  have test : ∀ (n : Nat), evC ⟨C, ioT TT, []⟩ (.cmp .eq (.var 13) (.con (.int (n : Int)))) (EK ns (some (.st i0 c0)) s kp t x9 (oT T) (oF F) (dn at_) (dn q) x14 x15) = some (decide (q = n), EK ns (some (.st i0 c0)) s kp t x9 (oT T) (oF F) (dn at_) (dn q) x14 x15) := fun n =>
    evC_cmp (ev_var rfl) ev_con eq_nat
  have c11 : ∀ e : Env, rd e 11 = oF F → cur e (.ali 11) = some (.list (inL F)) := fun e he => by simp [cur, he, valD]
  have c10 : ∀ e : Env, rd e 10 = oT T → cur e (.ali 10) = some (.list (tD T)) := fun e he => by simp [cur, he, valD]
  have len11 : ev ⟨C, ioT TT, []⟩ (.bi .len [(.var 11)]) (EK ns (some (.st i0 c0)) s kp t x9 (oT T) (oF F) (dn at_) (dn q) x14 x15) = some (.v (.d (.int (F.length : Int))), EK ns (some (.st i0 c0)) s kp t x9 (oT T) (oF F) (dn at_) (dn q) x14 x15) := by
    rw [len_var (xs := inL F) (.inl rfl), inL_len]
  have len10 : ∀ x12, ev ⟨C, ioT TT, []⟩ (.bi .len [(.var 10)]) (EK ns (some (.st i0 c0)) s kp t x9 (oT T) (oF F) x12 (dn q) x14 x15) = some (.v (.d (.int (T.length : Int))), EK ns (some (.st i0 c0)) s kp t x9 (oT T) (oF F) x12 (dn q) x14 x15) := fun x12 => by
    rw [len_var (xs := tD T) (.inl rfl), tD_len]
  refine ok_ifs (test 0) (fun _ => ?_) fun _ => ok_one ?_
  · have e1 : ev ⟨C, ioT TT, []⟩ (.sli (.var 11) (.con .none) (.var 12)) (EK ns (some (.st i0 c0)) s kp t x9 (oT T) (oF F) (dn at_) (dn q) x14 x15) = some (.v (.own (inL (F.take at_))), EK ns (some (.st i0 c0)) s kp t x9 (oT T) (oF F) (dn at_) (dn q) x14 x15) := by
      refine sli_to (ev_ali (xs := inL F) rfl) (c11 _ rfl) (ev_var (x := .int (at_ : Int)) rfl) rfl ?_
      show some (Val.own (cut (inL F) none (some (at_ : Int)))) = _
      rw [cut_toA, inL, ← List.map_take]
      rfl
    have e2 : ev ⟨C, ioT TT, []⟩ (.sli (.var 11) (.bin .add (.var 12) (.con (.int 1))) (.con .none)) (EK ns (some (.st i0 c0)) s kp t x9 (oT T) (oF F) (dn at_) (dn q) x14 x15) = some (.v (.own (inL (F.drop (at_ + 1)))), EK ns (some (.st i0 c0)) s kp t x9 (oT T) (oF F) (dn at_) (dn q) x14 x15) := by
      refine sli_from (j := ((at_ + 1 : Nat) : Int)) (ev_ali (xs := inL F) rfl) (c11 _ rfl) (ev_add (i := (at_ : Int)) (j := 1) (ev_var rfl) ev_con) rfl ?_
      show some (Val.own (cut (inL F) (some ((at_ + 1 : Nat) : Int)) none)) = _
      rw [cut_from, inL, ← List.map_drop]
      rfl
    have fits : (inL (F.take at_)).length + (inL (F.drop (at_ + 1))).length ≤ sizeLine := add_fits (by rw [inL_len, List.length_take]; omega) (by rw [inL_len, List.length_drop]; omega)
    have e3 : ev ⟨C, ioT TT, []⟩ (.bin .add (.sli (.var 11) (.con .none) (.var 12)) (.sli (.var 11) (.bin .add (.var 12) (.con (.int 1))) (.con .none))) (EK ns (some (.st i0 c0)) s kp t x9 (oT T) (oF F) (dn at_) (dn q) x14 x15) = some (.v (.own (inL (F.take at_ ++ F.drop (at_ + 1)))), EK ns (some (.st i0 c0)) s kp t x9 (oT T) (oF F) (dn at_) (dn q) x14 x15) := by
      rw [ev, e1, Option.bind_some]
      have g : ∀ X, cur (EK ns (some (.st i0 c0)) s kp t x9 (oT T) (oF F) (dn at_) (dn q) x14 x15) (.v (.own X)) = some (.list X) := fun X => rfl
      simp only [e2, Option.bind_some, g, binD, fits, if_true, Option.map_some]
      simp [inL]
    refine ok_step (e1 := EK ns (some (.st i0 c0)) s kp t x9 (oT T) (oF (F.take at_ ++ F.drop (at_ + 1))) (dn at_) (dn q) x14 x15) (asg_step e3 (by simp) (by simp)) (ok_nil (k _ _ _ _ _ ?_ n0))
    rw [List.length_append, List.length_take, List.length_drop]
    omega
  have cn1 := evC_and (test 1) fun _ => evC_cmp (op := .gt) len11 (ev_con (c := .int 0)) (gt_nat (b := 0))
  refine ok_ifs cn1 (fun hk => ?_) fun _ => ok_one ?_
  · simp only [Bool.and_eq_true, decide_eq_true_eq] at hk
    have hlt : at_ < F.length := by omega
    obtain ⟨d, i1, c1, hd, n1, t1⟩ := draw (Γ := ⟨C, ioT TT, []⟩) (e := .con (.int 3)) (j := 1) T9 io9 (show rd (EK ns (some (.st i0 c0)) s kp t x9 (oT T) (oF F) (dn at_) (dn q) x14 x15) 1 = some (.st i0 c0) from rfl) n0 ev_con (by decide) (by decide)
    obtain ⟨z, hz⟩ : ∃ z : Int, ([.int 1, .int (0 - 1), .int 5] : List D)[d]? = some (.int z) := by
      rcases (show d = 0 ∨ d = 1 ∨ d = 2 by omega) with rfl | rfl | rfl
      · exact ⟨1, rfl⟩
      · exact ⟨0 - 1, rfl⟩
      · exact ⟨5, rfl⟩
    have e1 := lst_ix (es := [(.con (.int 1)), (.bin .sub (.con (.int 0)) (.con (.int 1))), (.con (.int 5))]) (xs := [.int 1, .int (0 - 1), .int 5]) (by simp [ev, evF, fz, valD, cur_v, binD]) t1 hz
    have i11 : ev ⟨C, ioT TT, []⟩ (.idx (.var 11) (.var 12)) (EK ns (some (.st i0 c0)) s kp t x9 (oT T) (oF F) (dn at_) (dn q) x14 x15) = some (.v (.d (.int (gF F at_))), EK ns (some (.st i0 c0)) s kp t x9 (oT T) (oF F) (dn at_) (dn q) x14 x15) := idx_var (xs := inL F) (.inl rfl) (ev_var rfl) (gF_ix hlt)
    have hset : (inL F).set at_ (.int (gF F at_ + z)) = inL (F.set at_ (gF F at_ + z)) := by rw [inL, inL, List.map_set]
    refine ok_step (e1 := EK ns (some (.st i1 c1)) s kp t x9 (oT T) (oF (F.set at_ (gF F at_ + z))) (dn at_) (dn q) x14 x15) ?_ (ok_nil (k _ _ _ _ _ (by rw [List.length_set]; omega) n1))
    have hx : ixN (inL F).length (at_ : Int) = some at_ := by
      rw [inL_len]
      simp [ixN]
      omega
    rw [evS, ev_add i11 e1, Option.bind_some]
    have g1 : rd (EK ns (some (.st i1 c1)) s kp t x9 (oT T) (oF F) (dn at_) (dn q) x14 x15) 11 = oF F := rfl
    have g2 : ev ⟨C, ioT TT, []⟩ (.var 12) (EK ns (some (.st i1 c1)) s kp t x9 (oT T) (oF F) (dn at_) (dn q) x14 x15) = some (.v (.d (.int (at_ : Int))), EK ns (some (.st i1 c1)) s kp t x9 (oT T) (oF F) (dn at_) (dn q) x14 x15) := ev_var rfl
    show (fz (EK ns (some (.st i1 c1)) s kp t x9 (oT T) (oF F) (dn at_) (dn q) x14 x15) _).bind _ = _
    simp only [fz, valD, Option.map_some, Option.bind_some, g1, g2, cur_v, hx, hset]
    rfl
  refine ok_ifs (test 2) (fun _ => ?_) fun _ => ok_one ?_
  · obtain ⟨d, i1, c1, hd, n1, t1⟩ := draw (Γ := ⟨C, ioT TT, []⟩) (e := .con (.int 25)) (j := 1) T9 io9 (show rd (EK ns (some (.st i0 c0)) s kp t x9 (oT T) (oF F) (dn at_) (dn q) x14 x15) 1 = some (.st i0 c0) from rfl) n0 ev_con (by decide) (by decide)
    have t1 : ev ⟨C, ioT TT, []⟩ (.call 9 [(.var 1), (.con (.int 25))]) (EK ns (some (.st i0 c0)) s kp t x9 (oT T) (oF F) (dn at_) (dn q) x14 x15) = some (.v (.d (.int (d : Int))), EK ns (some (.st i1 c1)) s kp t x9 (oT T) (oF F) (dn at_) (dn q) x14 x15) := t1
    have fits : (inL F).length + [PyData.int (d : Int)].length ≤ sizeLine := add_fits (by rw [inL_len]; omega) (by simp)
    have hap : inL F ++ [PyData.int (d : Int)] = (F ++ [(d : Int)]).map PyData.int := by simp [inL]
    have ea : ev ⟨C, ioT TT, []⟩ (.bin .add (.var 11) (.lst [(.call 9 [(.var 1), (.con (.int 25))])])) (EK ns (some (.st i0 c0)) s kp t x9 (oT T) (oF F) (dn at_) (dn q) x14 x15) = some (.v (.own ((F ++ [(d : Int)]).map PyData.int)), EK ns (some (.st i1 c1)) s kp t x9 (oT T) (oF F) (dn at_) (dn q) x14 x15) := by
      have el : ev ⟨C, ioT TT, []⟩ (.lst [(.call 9 [(.var 1), (.con (.int 25))])]) (EK ns (some (.st i0 c0)) s kp t x9 (oT T) (oF F) (dn at_) (dn q) x14 x15) = some (.v (.own [.int (d : Int)]), EK ns (some (.st i1 c1)) s kp t x9 (oT T) (oF F) (dn at_) (dn q) x14 x15) := by
        rw [ev, evF, t1, Option.bind_some]
        rfl
      rw [ev, ev_ali (xs := inL F) rfl, Option.bind_some]
      have h1 : cur (EK ns (some (.st i1 c1)) s kp t x9 (oT T) (oF F) (dn at_) (dn q) x14 x15) (.v (.own [.int (d : Int)])) = some (.list [.int (d : Int)]) := rfl
      simp only [el, Option.bind_some, c11 (EK ns (some (.st i1 c1)) s kp t x9 (oT T) (oF F) (dn at_) (dn q) x14 x15) rfl, h1, binD, fits, if_true, Option.map_some, hap]
    refine ok_step (e1 := EK ns (some (.st i1 c1)) s kp t x9 (oT T) (oF ((F ++ [(d : Int)]).mergeSort leI)) (dn at_) (dn q) x14 x15) (asg_stepS (e1 := EK ns (some (.st i1 c1)) s kp t x9 (oT T) (oF F) (dn at_) (dn q) x14 x15) (w := .own (inL ((F ++ [(d : Int)]).mergeSort leI))) ?_ (by simp) (by simp)) (ok_nil (k _ _ _ _ _ ?_ n1))
    · rw [ev, evL, ea, Option.bind_some]
      have h1 : cur (EK ns (some (.st i1 c1)) s kp t x9 (oT T) (oF F) (dn at_) (dn q) x14 x15) (.v (.own ((F ++ [(d : Int)]).map PyData.int))) = some (.list ((F ++ [(d : Int)]).map PyData.int)) := rfl
      simp only [evL, Option.map_some, Option.bind_some, curs, h1, biD, sorted_ints]
      rfl
    · rw [(List.mergeSort_perm _ _).length_eq, List.length_append]
      simp
      omega
  have cn3 := evC_and (evC_cmp (Γ := ⟨C, ioT TT, []⟩) (env := EK ns (some (.st i0 c0)) s kp t x9 (oT T) (oF F) (dn at_) (dn q) x14 x15) (op := .lt) (ev_var (i := 13) (x := .int (q : Int)) rfl) (ev_con (c := .int 5)) (lt_nat (b := 5))) fun _ => evC_cmp (op := .gt) (len10 (dn at_)) (ev_con (c := .int 0)) (gt_nat (b := 0))
  refine ok_ifs cn3 (fun hk => ?_) fun _ => ok_one ?_
  · simp only [Bool.and_eq_true, decide_eq_true_eq] at hk
    obtain ⟨a, i1, c1, ha, n1, t1⟩ := draw (Γ := ⟨C, ioT TT, []⟩) (j := 1) T9 io9 (show rd (EK ns (some (.st i0 c0)) s kp t x9 (oT T) (oF F) (dn at_) (dn q) x14 x15) 1 = some (.st i0 c0) from rfl) n0 (len10 (dn at_)) (by omega) (by omega)
    refine ok_step (e1 := EK ns (some (.st i1 c1)) s kp t x9 (oT T) (oF F) (dn a) (dn q) x14 x15) (asg_stepS t1 (by simp) (by simp)) ?_
    obtain ⟨d, i2, c2, hd, n2, t2⟩ := draw (Γ := ⟨C, ioT TT, []⟩) (e := .con (.int 4)) (j := 1) T9 io9 (show rd (EK ns (some (.st i1 c1)) s kp t x9 (oT T) (oF F) (dn a) (dn q) x14 x15) 1 = some (.st i1 c1) from rfl) n1 ev_con (by decide) (by decide)
    obtain ⟨z, hz⟩ : ∃ z : Option Nat, ([.none, .int 1, .int 2, .int 0] : List D)[d]? = some (optD z) := by
      rcases (show d = 0 ∨ d = 1 ∨ d = 2 ∨ d = 3 by omega) with rfl | rfl | rfl | rfl
      · exact ⟨none, rfl⟩
      · exact ⟨some 1, rfl⟩
      · exact ⟨some 2, rfl⟩
      · exact ⟨some 0, rfl⟩
    have e1 := lst_ix (es := [(.con .none), (.con (.int 1)), (.con (.int 2)), (.con (.int 0))]) (xs := [.none, .int 1, .int 2, .int 0]) (by simp [ev, evF, fz, valD]) t2 hz
    have hset : (tD T).set a (optD z) = tD (T.set a z) := by rw [tD, tD, List.map_set]
    refine ok_step (e1 := EK ns (some (.st i2 c2)) s kp t x9 (oT (T.set a z)) (oF F) (dn a) (dn q) x14 x15) ?_ (ok_nil (k _ _ _ _ _ (by omega) n2))
    have hx : ixN (tD T).length (a : Int) = some a := by
      rw [tD_len]
      simp [ixN]
      omega
    rw [evS, e1, Option.bind_some]
    have g1 : rd (EK ns (some (.st i2 c2)) s kp t x9 (oT T) (oF F) (dn a) (dn q) x14 x15) 10 = oT T := rfl
    have g2 : ev ⟨C, ioT TT, []⟩ (.var 12) (EK ns (some (.st i2 c2)) s kp t x9 (oT T) (oF F) (dn a) (dn q) x14 x15) = some (.v (.d (.int (a : Int))), EK ns (some (.st i2 c2)) s kp t x9 (oT T) (oF F) (dn a) (dn q) x14 x15) := ev_var rfl
    show (fz (EK ns (some (.st i2 c2)) s kp t x9 (oT T) (oF F) (dn a) (dn q) x14 x15) _).bind _ = _
    simp only [fz, valD, Option.map_some, Option.bind_some, g1, g2, cur_v, hx, hset]
    rfl
  refine ok_ifs (test 5) (fun _ => ?_) fun _ => ok_nil (k _ _ _ _ _ (by omega) n0)
  have e2 : ev ⟨C, ioT TT, []⟩ (.sli (.var 10) (.con (.int 1)) (.con .none)) (EK ns (some (.st i0 c0)) s kp t x9 (oT T) (oF F) (dn at_) (dn q) x14 x15) = some (.v (.own (tD (T.drop 1))), EK ns (some (.st i0 c0)) s kp t x9 (oT T) (oF F) (dn at_) (dn q) x14 x15) := by
    refine sli_from (j := ((1 : Nat) : Int)) (ev_ali (xs := tD T) rfl) (c10 _ rfl) (ev_con (c := .int 1)) rfl ?_
    show some (Val.own (cut (tD T) (some ((1 : Nat) : Int)) none)) = _
    rw [cut_from, tD, ← List.map_drop]
    rfl
  have e3 : ev ⟨C, ioT TT, []⟩ (.lst [(.con (.int 1)), (.con (.int 1))]) (EK ns (some (.st i0 c0)) s kp t x9 (oT T) (oF F) (dn at_) (dn q) x14 x15) = some (.v (.own [.int 1, .int 1]), EK ns (some (.st i0 c0)) s kp t x9 (oT T) (oF F) (dn at_) (dn q) x14 x15) := by simp [ev, evF, fz, valD]
  have fits : (tD (T.drop 1)).length + ([.int 1, .int 1] : List D).length ≤ sizeLine := add_fits (by rw [tD_len, List.length_drop]; omega) (by simp)
  have hap : tD (T.drop 1) ++ [.int 1, .int 1] = tD (T.drop 1 ++ [some 1, some 1]) := by
    rw [tD, tD, List.map_append]
    rfl
  have e4 : ev ⟨C, ioT TT, []⟩ (.bin .add (.sli (.var 10) (.con (.int 1)) (.con .none)) (.lst [(.con (.int 1)), (.con (.int 1))])) (EK ns (some (.st i0 c0)) s kp t x9 (oT T) (oF F) (dn at_) (dn q) x14 x15) = some (.v (.own (tD (T.drop 1 ++ [some 1, some 1]))), EK ns (some (.st i0 c0)) s kp t x9 (oT T) (oF F) (dn at_) (dn q) x14 x15) := by
    rw [ev, e2, Option.bind_some]
    have g : ∀ X, cur (EK ns (some (.st i0 c0)) s kp t x9 (oT T) (oF F) (dn at_) (dn q) x14 x15) (.v (.own X)) = some (.list X) := fun X => rfl
    simp only [e3, Option.bind_some, g, binD, fits, if_true, Option.map_some, hap]
  exact ok_step (e1 := EK ns (some (.st i0 c0)) s kp t x9 (oT (T.drop 1 ++ [some 1, some 1])) (oF F) (dn at_) (dn q) x14 x15) (asg_step e4 (by simp) (by simp)) (ok_nil (k _ _ _ _ _ (by omega) n0))
end

set_option exponentiation.threshold 3000
def wdS (b : Bool) : Str := if b then "digests" else "never"
def wdB : Told → Bool
  | .dig _ _ => true
  | .nev _ => false
theorem to_wd (t : Told) : idxD (toD t) (.int 0) = some (.str (wdS (wdB t))) := by
  cases t <;> simp [toD, idxD, atI, ixN, wdS, wdB]
theorem wd_eq (b : Bool) : cmpD .eq (.str (wdS b)) (.str "digests") = some b := by
  cases b
  · rw [cmp_eq rfl rfl]; rfl
  · exact self_eq rfl
theorem nats_inL (l : List Nat) : nats l = inL (castN l) := by simp [nats, inL, castN]
theorem list_ixR {Γ : Ctx} {env : Env} {e : ME} {xs : List D} (h : ev Γ e env = some (.v (.d (.list xs)), env)) : ev Γ (.bi .list [e]) env = some (.v (.own xs), env) := by
  rw [ev, evL, h, Option.bind_some]
  simp only [evL, Option.map_some, Option.bind_some, curs, cur_v, biD, biList]
theorem idx_neg1 {Γ : Ctx} {env : Env} {i : Nat} {t : Told} (h : rd env i = some (.d (toD t))) : ev Γ (.idx (.var i) (.neg (.con (.int 1)))) env = some (.v (.d (.list (tD (tbl t)))), env) := ev_idxV (ev_var h) (y := .int (-1)) (by simp [ev, cur_v]) (to_last t)
section
variable {ns : List Int} {s : Sc} {kp : Option Val} {t : Told} {C : Calls}
theorem turns_ok (h : ScOk s) (T9 : TakeOk C 9) (ht : Res0 s t) {i0 : Int} {c0 : List Int} (n0 : c0 ≠ [])
    (c6 : ∀ u, C 6 [.d (lD s.ls), .d (.int (s.w : Int)), .d (.int (s.g : Int)), .d (qD s.q), .d (.int (s.d : Int)), .d (toD u)] = some (.d (faultP s u), [.d (lD s.ls), .d (.int (s.w : Int)), .d (.int (s.g : Int)), .d (qD s.q), .d (.int (s.d : Int)), .d (toD u)]))
    (c15 : ∀ u, (∀ F T, u = .dig F T → F.length ≤ 1000000) → C 15 [.d (lD s.ls), .d (.int (s.w : Int)), .d (.int (s.g : Int)), .d (qD s.q), .d (.int (s.d : Int)), .d (toD u)] = some (.d (faultP s u), [.d (lD s.ls), .d (.int (s.w : Int)), .d (.int (s.g : Int)), .d (qD s.q), .d (.int (s.d : Int)), .d (toD u)])) :
    OK (evS ⟨C, ioT TT, []⟩ [] (b16.getD 5 .pass) (EK ns (some (.st i0 c0)) s kp t none none none none none none none)) (fun r => ∃ s1 x9 x10 x11 x12 x13 x14 x15, r = .nx (EK ns s1 s kp t x9 x10 x11 x12 x13 x14 x15)) := by
  refine ok_for (s := ⟨nats (List.range 9), [], none⟩) (e1 := EK ns (some (.st i0 c0)) s kp t none none none none none none none) (evI_rngS (i := 9) ev_con rfl (by decide))
    (fun _ e => ∃ i' cs' x9 x10 x11 x12 x13 x14 x15, cs' ≠ [] ∧ e = EK ns (some (.st i' cs')) s kp t x9 x10 x11 x12 x13 x14 x15) ⟨i0, c0, _, _, _, _, _, _, _, n0, rfl⟩ ?_ ?_
  · rintro i x e hx ⟨i1, c1, x9, x10, x11, x12, x13, x14, x15, n1, rfl⟩
    obtain ⟨j, hj, rfl⟩ := nats_at hx
    refine ⟨trivial, EK ns (some (.st i1 c1)) s kp t (dn j) x10 x11 x12 x13 x14 x15, by simp [bindT], ?_⟩
    refine ok_step (e1 := EK ns (some (.st i1 c1)) s kp t (dn j) (oT (tbl t)) x11 x12 x13 x14 x15) (asg_step (list_ixR (idx_neg1 rfl)) (by simp) (by simp)) ?_
    have g0 : ∀ x10 x11 x12 x13 x14, ev ⟨C, ioT TT, []⟩ (.idx (.var 8) (.con (.int 0))) (EK ns (some (.st i1 c1)) s kp t (dn j) x10 x11 x12 x13 x14 x15) = some (.v (.d (.str (wdS (wdB t)))), EK ns (some (.st i1 c1)) s kp t (dn j) x10 x11 x12 x13 x14 x15) := fun _ _ _ _ _ => ev_idxV (ev_var rfl) ev_con (to_wd t)
    obtain ⟨F, hFl, e11⟩ : ∃ F : List Int, F.length ≤ 40 ∧ ev ⟨C, ioT TT, []⟩ (.ite (.cmp .eq (.idx (.var 8) (.con (.int 0))) (.con (.str "digests"))) (.bi .list [(.idx (.var 8) (.con (.int 1)))]) (.bi .list [(.var 2)])) (EK ns (some (.st i1 c1)) s kp t (dn j) (oT (tbl t)) x11 x12 x13 x14 x15) = some (.v (.own (inL F)), EK ns (some (.st i1 c1)) s kp t (dn j) (oT (tbl t)) x11 x12 x13 x14 x15) := by
      have ec := evC_cmp (op := .eq) (g0 (oT (tbl t)) x11 x12 x13 x14) (ev_con (c := .str "digests")) (wd_eq (wdB t))
      cases t with
      | dig F T =>
        refine ⟨F, ht.fl F T rfl, ?_⟩
        rw [ev_ite ec, show wdB (.dig F T) = true from rfl, if_pos rfl]
        exact list_ix (i := 8) rfl (to_found F T)
      | nev T =>
        refine ⟨castN s.ls, by unfold castN; rw [List.length_map]; have := h.len; omega, ?_⟩
        rw [ev_ite ec, show wdB (.nev T) = false from rfl, if_neg (by decide), ← nats_inL]
        exact list_ixR (ev_var rfl)
    refine ok_step (e1 := EK ns (some (.st i1 c1)) s kp t (dn j) (oT (tbl t)) (oF F) x12 x13 x14 x15) (asg_step e11 (by simp) (by simp)) ?_
    have el : ev ⟨C, ioT TT, []⟩ (.bi .max2 [(.con (.int 1)), (.bi .len [(.var 11)])]) (EK ns (some (.st i1 c1)) s kp t (dn j) (oT (tbl t)) (oF F) x12 x13 x14 x15) = some (.v (.d (.int ((max 1 F.length : Nat) : Int))), EK ns (some (.st i1 c1)) s kp t (dn j) (oT (tbl t)) (oF F) x12 x13 x14 x15) := by
      have e8 : ev ⟨C, ioT TT, []⟩ (.bi .len [(.var 11)]) (EK ns (some (.st i1 c1)) s kp t (dn j) (oT (tbl t)) (oF F) x12 x13 x14 x15) = some (.v (.d (.int (F.length : Int))), EK ns (some (.st i1 c1)) s kp t (dn j) (oT (tbl t)) (oF F) x12 x13 x14 x15) := by
        rw [len_var (xs := inL F) (.inl rfl), inL_len]
      rw [ev, evL, ev_con, Option.bind_some]
      simp only [evL, e8, Option.bind_some, Option.map_some, curs, cur_v, biD, biMax2]
      congr 6
      split <;> omega
    obtain ⟨a, i2, c2, ha, n2, t2⟩ := draw (Γ := ⟨C, ioT TT, []⟩) (j := 1) T9 io9 (show rd (EK ns (some (.st i1 c1)) s kp t (dn j) (oT (tbl t)) (oF F) x12 x13 x14 x15) 1 = some (.st i1 c1) from rfl) n1 el (by omega) (by omega)
    refine ok_step (e1 := EK ns (some (.st i2 c2)) s kp t (dn j) (oT (tbl t)) (oF F) (dn a) x13 x14 x15) (asg_stepS t2 (by simp) (by simp)) ?_
    obtain ⟨q, i3, c3, hq, n3, t3⟩ := draw (Γ := ⟨C, ioT TT, []⟩) (e := .con (.int 7)) (j := 1) T9 io9 (show rd (EK ns (some (.st i2 c2)) s kp t (dn j) (oT (tbl t)) (oF F) (dn a) x13 x14 x15) 1 = some (.st i2 c2) from rfl) n2 ev_con (by decide) (by decide)
    refine ok_step (e1 := EK ns (some (.st i3 c3)) s kp t (dn j) (oT (tbl t)) (oF F) (dn a) (dn q) x14 x15) (asg_stepS t3 (by simp) (by simp)) ?_
    have htl := ht.len
    refine ok_cons (kind_ok T9 n3 (by omega) (by omega) (by omega) ?_)
    intro F' T' i4 c4 y12 hF' n4
    -- the word
    have e14 : ∃ (b : Bool) (i' : Int) (cs' : List Int), cs' ≠ [] ∧ ev ⟨C, ioT TT, []⟩ (.ite (.cmp .eq (.call 9 [(.var 1), (.con (.int 4))]) (.con (.int 0))) (.idx (.lst [(.con (.str "digests")), (.con (.str "never"))]) (.call 9 [(.var 1), (.con (.int 2))])) (.idx (.var 8) (.con (.int 0)))) (EK ns (some (.st i4 c4)) s kp t (dn j) (oT T') (oF F') y12 (dn q) x14 x15) = some (.v (.d (.str (wdS b))), EK ns (some (.st i' cs')) s kp t (dn j) (oT T') (oF F') y12 (dn q) x14 x15) := by
      obtain ⟨d, i5, c5, hd, n5, t5⟩ := draw (Γ := ⟨C, ioT TT, []⟩) (e := .con (.int 4)) (j := 1) T9 io9 (show rd (EK ns (some (.st i4 c4)) s kp t (dn j) (oT T') (oF F') y12 (dn q) x14 x15) 1 = some (.st i4 c4) from rfl) n4 ev_con (by decide) (by decide)
      have t5 : ev ⟨C, ioT TT, []⟩ (.call 9 [(.var 1), (.con (.int 4))]) (EK ns (some (.st i4 c4)) s kp t (dn j) (oT T') (oF F') y12 (dn q) x14 x15) = some (.v (.d (.int (d : Int))), EK ns (some (.st i5 c5)) s kp t (dn j) (oT T') (oF F') y12 (dn q) x14 x15) := t5
      have ec := evC_cmp (op := .eq) t5 (ev_con (c := .int 0)) (eq_nat (b := 0))
      by_cases hd0 : d = 0
      · obtain ⟨d6, i6, c6', hd6, n6, t6⟩ := draw (Γ := ⟨C, ioT TT, []⟩) (e := .con (.int 2)) (j := 1) T9 io9 (show rd (EK ns (some (.st i5 c5)) s kp t (dn j) (oT T') (oF F') y12 (dn q) x14 x15) 1 = some (.st i5 c5) from rfl) n5 ev_con (by decide) (by decide)
        obtain ⟨b, hb⟩ : ∃ b : Bool, ([.str "digests", .str "never"] : List D)[d6]? = some (.str (wdS b)) := by
          rcases (show d6 = 0 ∨ d6 = 1 by omega) with rfl | rfl
          · exact ⟨true, rfl⟩
          · exact ⟨false, rfl⟩
        refine ⟨b, i6, c6', n6, ?_⟩
        rw [ev_ite ec, decide_eq_true hd0, if_pos rfl]
        exact lst_ix (xs := [.str "digests", .str "never"]) (by simp [ev, evF, fz, valD]) t6 hb
      · refine ⟨wdB t, i5, c5, n5, ?_⟩
        rw [ev_ite ec, decide_eq_false hd0, if_neg (by decide)]
        exact ev_idxV (ev_var rfl) ev_con (to_wd t)
    obtain ⟨b, i5, c5, n5, e14⟩ := e14
    refine ok_step (e1 := EK ns (some (.st i5 c5)) s kp t (dn j) (oT T') (oF F') y12 (dn q) (some (.d (.str (wdS b)))) x15) (asg_stepS e14 (by simp) (by simp)) ?_
    have e15 : ∃ (u : Told) (y10 y11 : Option Val), (∀ F T, u = .dig F T → F.length ≤ 1000000) ∧ ev ⟨C, ioT TT, []⟩ (.ite (.cmp .eq (.var 14) (.con (.str "digests"))) (.tup [(.con (.str "digests")), (.var 11), (.var 10)]) (.tup [(.con (.str "never")), (.var 10)])) (EK ns (some (.st i5 c5)) s kp t (dn j) (oT T') (oF F') y12 (dn q) (some (.d (.str (wdS b)))) x15) = some (.v (.d (toD u)), EK ns (some (.st i5 c5)) s kp t (dn j) y10 y11 y12 (dn q) (some (.d (.str (wdS b)))) x15) := by
      have ec := evC_cmp (op := .eq) (ev_var (Γ := ⟨C, ioT TT, []⟩) (env := EK ns (some (.st i5 c5)) s kp t (dn j) (oT T') (oF F') y12 (dn q) (some (.d (.str (wdS b)))) x15) (i := 14) (x := .str (wdS b)) rfl) (ev_con (c := .str "digests")) (wd_eq b)
      cases b with
      | true =>
        refine ⟨.dig F' T', some (.d (.list (tD T'))), some (.d (.list (inL F'))), fun F T z => by cases z; omega, ?_⟩
        rw [ev_ite ec, if_pos rfl]
        simp [ev, evF, rd, fz, valD, toD, iD, inL]
      | false =>
        refine ⟨.nev T', some (.d (.list (tD T'))), oF F', (fun F T z => nomatch z), ?_⟩
        rw [ev_ite ec, if_neg (by decide)]
        simp [ev, evF, rd, fz, valD, toD]
    obtain ⟨u, y10, y11, hu, e15⟩ := e15
    refine ok_step (e1 := EK ns (some (.st i5 c5)) s kp t (dn j) y10 y11 y12 (dn q) (some (.d (.str (wdS b)))) (some (.d (toD u)))) (asg_stepS e15 (by simp) (by simp)) ?_
    have a6 := call_pure (Γ := ⟨C, ioT TT, []⟩) (f := 6) (es := [(.var 2), (.var 3), (.var 4), (.var 5), (.var 6), (.var 15)]) (env := EK ns (some (.st i5 c5)) s kp t (dn j) y10 y11 y12 (dn q) (some (.d (.str (wdS b)))) (some (.d (toD u)))) (rs := [.v (.d (lD s.ls)), .v (.d (.int (s.w : Int))), .v (.d (.int (s.g : Int))), .v (.d (qD s.q)), .v (.d (.int (s.d : Int))), .v (.d (toD u))]) (by simp [evL, ev, rd]) rfl (by simp [argVals, io6, nonIo, valD]) (c6 u)
    have a15 := call_pure (Γ := ⟨C, ioT TT, []⟩) (f := 15) (es := [(.var 2), (.var 3), (.var 4), (.var 5), (.var 6), (.var 15)]) (env := EK ns (some (.st i5 c5)) s kp t (dn j) y10 y11 y12 (dn q) (some (.d (.str (wdS b)))) (some (.d (toD u)))) (rs := [.v (.d (lD s.ls)), .v (.d (.int (s.w : Int))), .v (.d (.int (s.g : Int))), .v (.d (qD s.q)), .v (.d (.int (s.d : Int))), .v (.d (toD u))]) (by simp [evL, ev, rd]) rfl (by simp [argVals, io15, nonIo, valD]) (c15 u hu)
    exact ok_one (ok_ifs (k := false) (evC_b (ev_cmpS a6 a15 (self_ne fault_okD))) (fun z => nomatch z) fun _ => ok_nil ⟨_, _, _, _, _, _, _, _, _, n5, rfl⟩)
  · rintro e ⟨i1, c1, x9, x10, x11, x12, x13, x14, x15, n1, rfl⟩
    exact ⟨trivial, _, _, _, _, _, _, _, _, rfl⟩
end
theorem main : ∀ ns : List Int, ns.length ≤ 63 → ∃ ws, callT TT [] (40 + 1) 16 [.scr ns] = some (.d (.bool true), ws) := by
  intro ns hns
  refine ⟨[.scr ns], call_py rfl rfl (by decide) ?_⟩
  show OK (evSs ⟨callT TT [] 40, ioT TT, []⟩ [] b16 [some (.scr ns), none, none, none, none, none, none, none, none, none, none, none, none, none, none, none]) _
  obtain ⟨i0, c0, n0, hst⟩ := state_ok 39 hns
  have T : TakeOk (callT TT [] 40) 9 := takeOk 39
  have h10 := fun (i : Int) (cs : List Int) (hne : cs ≠ []) => scene_ok 38 (i := i) (cs := cs) hne
  have h3 := fun (s : Sc) (h : ScOk s) => digests_ok 36 h
  have h6 := fun (s : Sc) (t : Told) (h : ScOk s) => fault_ok 37 (t := t) h
  have h15 := fun (s : Sc) (t : Told) (h : ScOk s) (hF : ∀ F T, t = .dig F T → F.length ≤ 1000000) => lfault_ok 37 h hF
  have hst : callT TT [] 40 8 [.scr ns] = some (.st i0 c0, [.scr ns]) := hst
  simp only [Nat.reduceAdd] at h10 h3 h6 h15
  generalize callT TT [] 40 = C at hst T h10 h3 h6 h15 ⊢
  refine ok_step (e1 := [some (.scr ns), some (.st i0 c0), none, none, none, none, none, none, none, none, none, none, none, none, none, none]) ?_ ?_
  · exact asg_stepS (e1 := [some (.scr ns), none, none, none, none, none, none, none, none, none, none, none, none, none, none, none]) (call_gen (Γ := ⟨C, ioT TT, []⟩) (e1 := [some (.scr ns), none, none, none, none, none, none, none, none, none, none, none, none, none, none, none]) (rs := [.ali 0]) (ws := [.scr ns]) (by simp [evL, ev, rd]) (by simp [alis]) (by simp [argVals, io8, nonIo, rd]) hst (by simp [io8, flatV, flatAll, backArgs])) (by simp) (by simp)
  obtain ⟨s, i1, c1, hs, n1, hc10⟩ := h10 i0 c0 n0
  refine ok_step (e1 := [some (.scr ns), some (.st i1 c1), some (.d (lD s.ls)), dn s.w, dn s.g, some (.d (qD s.q)), dn s.d, none, none, none, none, none, none, none, none, none]) ?_ ?_
  · have ec : ev ⟨C, ioT TT, []⟩ (.call 10 [(.var 1), (.con (.int 8))]) [some (.scr ns), some (.st i0 c0), none, none, none, none, none, none, none, none, none, none, none, none, none, none] = some (.v (.d (scD s)), [some (.scr ns), some (.st i1 c1), none, none, none, none, none, none, none, none, none, none, none, none, none, none]) :=
      call_gen (Γ := ⟨C, ioT TT, []⟩) (e1 := [some (.scr ns), some (.st i0 c0), none, none, none, none, none, none, none, none, none, none, none, none, none, none]) (rs := [.ali 1, .v (.d (.int 8))]) (ws := [.st i0 c0, .d (.int 8)]) (by simp [evL, ev, rd]) (by simp [alis]) (by simp [argVals, io10, nonIo, rd, valD]) hc10 (by simp only [io10, backArgs, List.mem_singleton, if_true]; rfl)
    rw [evS, ec, Option.bind_some]
    simp [asgn, fz, valD, scD, bindT, bindTs]
  have hsh := sh_ok hs
  generalize hkp : PyData.shown (.tuple [lD s.ls, qD s.q]) = sh at *
  refine ok_step (e1 := [some (.scr ns), some (.st i1 c1), some (.d (lD s.ls)), dn s.w, dn s.g, some (.d (qD s.q)), dn s.d, some (.d (.str sh)), none, none, none, none, none, none, none, none]) ?_ ?_
  · refine asg_stepS (w := .d (.str sh)) (e1 := [some (.scr ns), some (.st i1 c1), some (.d (lD s.ls)), dn s.w, dn s.g, some (.d (qD s.q)), dn s.d, none, none, none, none, none, none, none, none, none]) ?_ (by simp) (by simp)
    have e : ev ⟨C, ioT TT, []⟩ (.tup [(.var 2), (.var 5)]) [some (.scr ns), some (.st i1 c1), some (.d (lD s.ls)), dn s.w, dn s.g, some (.d (qD s.q)), dn s.d, none, none, none, none, none, none, none, none, none] = some (.v (.d (.tuple [lD s.ls, qD s.q])), [some (.scr ns), some (.st i1 c1), some (.d (lD s.ls)), dn s.w, dn s.g, some (.d (qD s.q)), dn s.d, none, none, none, none, none, none, none, none, none]) := by
      simp [ev, evF, rd, fz, valD]
    rw [ev, evL, e, Option.bind_some]
    simp only [evL, Option.map_some, Option.bind_some, curs, cur_v, biD, biRepr, hsh, if_true, hkp]
  obtain ⟨t, ht, hc3⟩ := h3 s hs
  refine ok_step (e1 := EK ns (some (.st i1 c1)) s (some (.d (.str sh))) t none none none none none none none) (asg_step (call_pure (rs := [.v (.d (lD s.ls)), .v (.d (.int (s.w : Int))), .v (.d (.int (s.g : Int))), .v (.d (qD s.q)), .v (.d (.int (s.d : Int)))]) (by simp [evL, ev, rd]) rfl (by simp [argVals, io3, nonIo, valD]) hc3) (by simp) (by simp)) ?_
  have a15 := call_pure (Γ := ⟨C, ioT TT, []⟩) (f := 15) (es := [(.var 2), (.var 3), (.var 4), (.var 5), (.var 6), (.var 8)]) (env := EK ns (some (.st i1 c1)) s (some (.d (.str sh))) t none none none none none none none) (rs := [.v (.d (lD s.ls)), .v (.d (.int (s.w : Int))), .v (.d (.int (s.g : Int))), .v (.d (qD s.q)), .v (.d (.int (s.d : Int))), .v (.d (toD t))]) (by simp [evL, ev, rd]) rfl (by simp [argVals, io15, nonIo, valD]) (h15 s t hs fun F T e => by have := ht.fl F T e; omega)
  have a6 := call_pure (Γ := ⟨C, ioT TT, []⟩) (f := 6) (es := [(.var 2), (.var 3), (.var 4), (.var 5), (.var 6), (.var 8)]) (env := EK ns (some (.st i1 c1)) s (some (.d (.str sh))) t none none none none none none none) (rs := [.v (.d (lD s.ls)), .v (.d (.int (s.w : Int))), .v (.d (.int (s.g : Int))), .v (.d (qD s.q)), .v (.d (.int (s.d : Int))), .v (.d (toD t))]) (by simp [evL, ev, rd]) rfl (by simp [argVals, io6, nonIo, valD]) (h6 s t hs)
  rw [ht.ok] at a15 a6
  have b15 := ev_cmpS (op := .notN) a15 (ev_con (c := .none)) (c := false) rfl
  have b6 := ev_cmpS (op := .notN) a6 (ev_con (c := .none)) (c := false) rfl
  refine ok_cons (ok_ifs (k := false) (evC_b (by rw [ev_orF b15]; exact b6)) (fun z => nomatch z) fun _ => ok_nil ?_)
  refine ok_cons ((turns_ok hs T ht n1 (fun u => h6 s u hs) fun u hu => h15 s u hs hu).imp ?_)
  rintro r ⟨s1, x9, x10, x11, x12, x13, x14, x15, rfl⟩
  refine ok_ret (r := .v (.d (.bool true))) (e1 := EK ns s1 s (some (.d (.str sh))) t x9 x10 x11 x12 x13 x14 x15) ?_ (by simp [endF, outs])
  have er : ev ⟨C, ioT TT, []⟩ (.bi .repr [(.tup [(.var 2), (.var 5)])]) (EK ns s1 s (some (.d (.str sh))) t x9 x10 x11 x12 x13 x14 x15) = some (.v (.d (.str sh)), EK ns s1 s (some (.d (.str sh))) t x9 x10 x11 x12 x13 x14 x15) := by
    have e : ev ⟨C, ioT TT, []⟩ (.tup [(.var 2), (.var 5)]) (EK ns s1 s (some (.d (.str sh))) t x9 x10 x11 x12 x13 x14 x15) = some (.v (.d (.tuple [lD s.ls, qD s.q])), EK ns s1 s (some (.d (.str sh))) t x9 x10 x11 x12 x13 x14 x15) := by
      simp [ev, evF, rd, fz, valD]
    rw [ev, evL, e, Option.bind_some]
    simp only [evL, Option.map_some, Option.bind_some, curs, cur_v, biD, biRepr, hsh, if_true, hkp]
  exact ev_cmpS er (ev_var rfl) (self_eq (by simp [okD, PyData.plain, PyData.depth]))

end Ev
open PySem PySem.W PyProof.Rows
set_option maxRecDepth 100000 in
set_option maxHeartbeats 0 in
theorem PySem.Challenge.cw_mailwright_k70_digests_judged_holds : PySem.Challenge.rw_mailwright_k70_digests_judged.Holds := by
  w_on; o_law; k_head; (case hw => w_witness2)
  k_fill
  refine Ev.law_walk (l := PySem.Challenge.rw_mailwright_k70_digests_judged) (TT := Ev.TT) (T := Ev.TB) (N := Ev.n16) (G := []) (k := 40) (f := 16) (st := Ev.top 18) (body := Ev.b16) rfl rfl ⟨rfl, by decide, by decide⟩ (fun w h Y => PySem.W.kIn_of Y) (fun K f fd F => ?B) ?F Ev.s16 rfl Ev.k16 Ev.main
  case B =>
    obtain ⟨oc, od, kV, doc, pm, an, cdv, ct, osl, rfl, _, _⟩ := F.ex
    exact fun s u => .of_eq rfl
  case F =>
    intro w mg h KX G
    refine' (fun p => ⟨p.1, fun base => p.2 base _⟩) (Ev.all_ok KX G ?a0 ?l0 ?c0 ?e0 ?a1 ?l1 ?c1 ?e1 ?a2 ?l2 ?c2 ?e2 ?a3 ?l3 ?c3 ?e3 ?a4 ?l4 ?c4 ?e4 ?a5 ?l5 ?c5 ?e5 ?a6 ?l6 ?c6 ?e6 ?a7 ?l7 ?c7 ?e7 ?a8 ?l8 ?c8 ?e8 ?a9 ?l9 ?c9 ?e9 ?a10 ?l10 ?c10 ?e10 ?a11 ?l11 ?c11 ?e11 ?a12 ?l12 ?c12 ?e12 ?a13 ?l13 ?c13 ?e13 ?a14 ?l14 ?c14 ?e14 ?a15 ?l15 ?c15 ?e15 ?a16 ?l16 ?c16 ?e16 ?z0 ?z1 ?z2 ?z3 ?z4 ?z5 ?z6 ?z7 ?z8 ?z9 ?z10 ?z11)
    (case a0 => k_is)
    (case l0 => k_is)
    (case c0 => k_is)
    (case e0 => k_is)
    (case a1 => k_is)
    (case l1 => k_is)
    (case c1 => k_is)
    (case e1 => k_is)
    (case a2 => k_is)
    (case l2 => k_is)
    (case c2 => k_is)
    (case e2 => k_is)
    (case a3 => k_is)
    (case l3 => k_is)
    (case c3 => k_is)
    (case e3 => k_is)
    (case a4 => k_is)
    (case l4 => k_is)
    (case c4 => k_is)
    (case e4 => k_is)
    (case a5 => k_is)
    (case l5 => k_is)
    (case c5 => k_is)
    (case e5 => k_is)
    (case a6 => k_is)
    (case l6 => k_is)
    (case c6 => k_is)
    (case e6 => k_is)
    (case a7 => k_is)
    (case l7 => k_is)
    (case c7 => k_is)
    (case e7 => k_is)
    (case a8 => k_is)
    (case l8 => k_is)
    (case c8 => k_is)
    (case e8 => k_is)
    (case a9 => k_is)
    (case l9 => k_is)
    (case c9 => k_is)
    (case e9 => k_is)
    (case a10 => k_is)
    (case l10 => k_is)
    (case c10 => k_is)
    (case e10 => k_is)
    (case a11 => k_is)
    (case l11 => k_is)
    (case c11 => k_is)
    (case e11 => k_is)
    (case a12 => k_is)
    (case l12 => k_is)
    (case c12 => k_is)
    (case e12 => k_is)
    (case a13 => k_is)
    (case l13 => k_is)
    (case c13 => k_is)
    (case e13 => k_is)
    (case a14 => k_is)
    (case l14 => k_is)
    (case c14 => k_is)
    (case e14 => k_is)
    (case a15 => k_is)
    (case l15 => k_is)
    (case c15 => k_is)
    (case e15 => k_is)
    (case a16 => k_is)
    (case l16 => k_is)
    (case c16 => k_is)
    (case e16 => k_is)
    (case z0 => k_is)
    (case z1 => k_is)
    (case z2 => k_is)
    (case z3 => k_is)
    (case z4 => k_is)
    (case z5 => k_is)
    (case z6 => k_is)
    (case z7 => k_is)
    (case z8 => k_is)
    (case z9 => k_is)
    (case z10 => k_is)
    (case z11 => k_is)
