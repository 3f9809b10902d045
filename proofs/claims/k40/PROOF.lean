import PyProof.Rows.All
import Wide.All
import OpenK.AllK
import Wide.FinOn
import HandS.ForMost
import HandS.Exc
import HandS.TryOnly
import HandS.Flow
import HandS.Wide
import HandS.Deep
import HandS.TupAny
import HandS.Conv
import HandS.Strs
import HandS.SetFor
import HandS.Style
import PyProof.ReprRoads
import KE.DataEq
import KE.DataCmp
import KE.DataAny
import KE.DataMinMax
import KE.SortData
import KE.DatumOrd
import KE.DatumMore
import HandS.NoneIn
import HandS.StrMore
import HandS.Ends
import PyProof.ReprLen
import PySem.Challenge.RW_mailwright_k40_whole_answers
set_option Elab.async false
set_option linter.all false
set_option maxRecDepth 100000
set_option autoImplicit false
set_option exponentiation.threshold 3000
set_option maxHeartbeats 4000000
/-! # Ev: a small evaluator of Python texts over plain data -/
namespace Ev
open PySem L2

abbrev D := PyData
/-- what a slot of a frame holds -/
inductive Val where
  | d (x : D)
  | own (xs : List D)
  | st (i : Int) (cs : List Int)
  | dk (kvs : List (Key × D))
  | scr (ns : List Int)
/-- what an expression hands back: a value of its own, or a slot's -/
inductive Rv where
  | v (w : Val)
  | ali (i : Nat)
inductive BOp where
  | add | sub | mul | fdiv | md | pow
inductive COp where
  | lt | le | gt | ge | eq | ne | mem | nmem | isN | notN
inductive Tg where
  | nm (i : Nat)
  | tup (ts : List Tg)
inductive Bi where
  | len | abs | int | min1 | max1 | min2 | max2 | sum | sorted | list | tuple | any | all | repr
/-- methods that tell a value -/
inductive Mt where
  | lindex | join | starts | ends | find | stripC | lstripC
/-- .. without arguments -/
inductive Mt0 where
  | lower
mutual
inductive ME where
  | var (i : Nat)
  | con (c : D)
  | glb (j : Nat)
  | bin (op : BOp) (a b : ME)
  | neg (a : ME)
  | cmp (op : COp) (a b : ME)
  | chain (op op' : COp) (a b c : ME)
  | andE (a b : ME)
  | orE (a b : ME)
  | notE (a : ME)
  | ite (c a b : ME)
  | tup (es : List ME)
  | lst (es : List ME)
  | idx (a b : ME)
  | sli (a lo hi : ME)
  | call (f : Nat) (es : List ME)
  | bi (b : Bi) (es : List ME)
  | lc (elt : ME) (tg : Tg) (it : MI) (cond : ME) (own : List Nat)
  | lrg1 (a : ME)
  | lrg2 (a b : ME)
  | sset (a : ME)
  | lset (a : ME)
  | rev (a : ME)
  | lc2 (elt : ME) (tg : Tg) (it : MI) (cond : ME) (own : List Nat) (tg1 : Tg) (it1 : MI) (cond1 : ME) (vs1 : List Nat)
  | mth (m : Mt) (a : ME) (es : List ME)
  | mth0 (m : Mt0) (a : ME)
  | gidx (j : Nat) (b : ME)
  | slen (i : Nat)
  | sidx (i : Nat) (b : ME)
  | bad
  | pop (i : Nat)
  | fz (a : ME)
  | dnew
  | dnew1 (k v : ME)
  | dget (i : Nat) (k : ME)
  | din (i : Nat) (k : ME)
  | dnin (i : Nat) (k : ME)
  | dgetd (i : Nat) (k x : ME)
  | dof (e : ME)
inductive MI where
  | seq (e : ME)
  | rng (es : List ME)
  | enum (a : ME)
  | zip (a b : ME)
end
inductive MS where
  | asg (tg : Tg) (e : ME)
  | par (is : List Nat) (es : List ME)
  | seti (i : Nat) (k v : ME)
  | dput (i : Nat) (k v : ME)
  | swp (i : Nat) (k1 k2 e1 e2 : ME)
  | app (i : Nat) (e : ME)
  | ext (i : Nat) (e : ME)
  | ifs (c : ME) (a b : List MS)
  | whl (c : ME) (b : List MS)
  | for_ (tg : Tg) (it : MI) (b : List MS)
  | ret (e : ME)
  | ex (e : ME)
  | retN
  | brk
  | cnt
  | pass

def isNoneC : ME → Bool
  | .con .none => true
  | _ => false
abbrev Env := List (Option Val)
def rd (env : Env) (i : Nat) : Option Val := (env[i]?).getD none
def valD : Val → Option D
  | .d x => some x
  | .own xs => some (.list xs)
  | _ => none
def cur (env : Env) : Rv → Option D
  | .v w => valD w
  | .ali i => (rd env i).bind valD
/-- a value that stays as it is from now on -/
def fz (env : Env) : Rv → Option (D × Env)
  | .v w => (valD w).map fun x => (x, env)
  | .ali i => ((rd env i).bind valD).map fun x => (x, env.set i (some (.d x)))
def okD (x : D) : Bool := x.plain && decide (x.depth ≤ 60)
def isNon : D → Bool
  | .none => true
  | _ => false
/-- a product that is not too great: of few bits, or one factor is small -/
abbrev MulB (i j : Int) : Prop := i.natAbs.log2 + j.natAbs.log2 < 100000000 ∨ (-18446744073709551616 < i ∧ i < 18446744073709551616) ∨ (-18446744073709551616 < j ∧ j < 18446744073709551616)
def binD : BOp → D → D → Option Val
  | .add, .int i, .int j => some (.d (.int (i + j)))
  | .add, .str x, .str y => if x.length + y.length ≤ sizeLine then some (.d (.str (x ++ y))) else none
  | .add, .list xs, .list ys => if xs.length + ys.length ≤ sizeLine then some (.own (xs ++ ys)) else none
  | .add, .tuple xs, .tuple ys => if xs.length + ys.length ≤ sizeLine then some (.d (.tuple (xs ++ ys))) else none
  | .mul, .list xs, .int k => if -4611686018427387904 ≤ k ∧ k < 4611686018427387904 ∧ xs.length * k.toNat ≤ sizeLine then some (.own (List.replicate k.toNat xs).flatten) else none
  | .sub, .int i, .int j => some (.d (.int (i - j)))
  | .mul, .int i, .int j => if MulB i j then some (.d (.int (i * j))) else none
  | .fdiv, .int i, .int j => if 0 < j ∧ j.natAbs.log2 < 9000 then some (.d (.int (i / j))) else none
  | .md, .int i, .int j => if 0 < j then some (.d (.int (i % j))) else none
  | .pow, .int i, .int j => if 0 ≤ j ∧ j ≤ 1000000 ∧ i.natAbs < 2 ^ 64 then some (.d (.int (i ^ j.toNat))) else none
  | _, _, _ => none
def cmpOk (x y : D) : Bool := W.alike x y && !isNon x && decide (x.depth ≤ 60)
def memD (x : D) : D → Option Bool
  | .list ys => if okD x && okD (.list ys) then some (ys.any fun z => z.eqv x) else none
  | .tuple ys => if okD x && okD (.tuple ys) then some (ys.any fun z => z.eqv x) else none
  | .str y => match x with
    | .str z => some (!(Builtin.Str.occurrences y z 0 y.length 1).isEmpty)
    | _ => none
  | _ => none
def cmpD : COp → D → D → Option Bool
  | .lt, .int i, .int j => some (decide (i < j))
  | .le, .int i, .int j => some (decide (i ≤ j))
  | .gt, .int i, .int j => some (decide (j < i))
  | .ge, .int i, .int j => some (decide (j ≤ i))
  | .lt, x, y => if cmpOk x y then some (W.dataLt x y) else none
  | .le, x, y => if cmpOk x y then some (!W.dataLt y x) else none
  | .gt, x, y => if cmpOk x y then some (W.dataLt y x) else none
  | .ge, x, y => if cmpOk x y then some (!W.dataLt x y) else none
  | .eq, x, y => if okD x && okD y then some (x.eqv y) else none
  | .ne, x, y => if okD x && okD y then some (!x.eqv y) else none
  | .mem, x, y => memD x y
  | .nmem, x, y => (memD x y).map not
  | .isN, x, .none => some (isNon x)
  | .notN, x, .none => some (!isNon x)
  | _, _, _ => none
def truD : D → Option Bool
  | .none => some false
  | .bool b => some b
  | .int i => some (i != 0)
  | .str x => if x.length ≤ sizeLine then some ((x.length : Int) != 0) else none
  | .list xs => some (!xs.isEmpty)
  | .tuple xs => some (!xs.isEmpty)
  | .dict _ => none
def truR (env : Env) (r : Rv) : Option Bool := (cur env r).bind truD
def idxD : D → D → Option D
  | .list xs, .int i => atI xs i
  | .tuple xs, .int i => atI xs i
  | .str z, .int i => if z.length ≤ sizeLine then (atI z.cps.toList i).map fun c => .str ⟨#[c]⟩ else none
  | _, _ => none
def cut {α : Type} (xs : List α) (lo hi : Option Int) : List α := (xs.drop (HT.sIx xs.length 0 lo)).take (HT.sIx xs.length xs.length hi - HT.sIx xs.length 0 lo)
def part (b : Bool) (x : D) : Option (Option Int) := if b then some none else match x with
  | .int i => some (some i)
  | _ => none
def sliD (x : D) (lo hi : Option Int) : Option Val := match x with
  | .str z => if z.length ≤ sizeLine then some (.d (.str (cutS z lo hi))) else none
  | .list xs => some (.own (cut xs lo hi))
  | .tuple xs => some (.d (.tuple (cut xs lo hi)))
  | _ => none
def intsOf : List D → Option (List Int)
  | [] => some []
  | .int i :: r => (intsOf r).map (i :: ·)
  | _ => none
def strsOf : List D → Option (List Str)
  | [] => some []
  | .str i :: r => (strsOf r).map (i :: ·)
  | _ => none
def boolsOf : List D → Option (List Bool)
  | [] => some []
  | .bool i :: r => (boolsOf r).map (i :: ·)
  | _ => none
def alikeB (xs : List D) : Bool := xs.all fun x => (xs.all fun y => W.alike x y) && okD x
def isTup1 : D → Bool
  | .tuple (_ :: _) => true
  | _ => false
def isOther : D → Bool
  | .none => false
  | .tuple _ => false
  | _ => true
def sortB (xs : List D) : Bool := alikeB xs && (xs.all isTup1 || xs.all isOther)
def minB (xs : List D) : Bool := alikeB xs && xs.all fun x => !isNon x
def biLen : List D → Option Val
  | [.list xs] => some (.d (.int xs.length))
  | [.tuple xs] => some (.d (.int xs.length))
  | [.str x] => if x.length ≤ sizeLine then some (.d (.int x.length)) else none
  | _ => none
def biAbs : List D → Option Val
  | [.int i] => some (.d (.int (if i < 0 then -i else i)))
  | _ => none
def biInt : List D → Option Val
  | [.int i] => some (.d (.int i))
  | [.bool b] => some (.d (.int (if b then 1 else 0)))
  | _ => none
def biMin1 : List D → Option Val
  | [.list (x :: xs)] => if minB (x :: xs) then some (.d (W.minD x xs)) else none
  | _ => none
def biMax1 : List D → Option Val
  | [.list (x :: xs)] => if minB (x :: xs) then some (.d (W.maxD x xs)) else none
  | _ => none
def biMin2 : List D → Option Val
  | [.int i, .int j] => some (.d (.int (if j < i then j else i)))
  | _ => none
def biMax2 : List D → Option Val
  | [.int i, .int j] => some (.d (.int (if i < j then j else i)))
  | _ => none
def biSum : List D → Option Val
  | [.list xs] => (intsOf xs).map fun ns => .d (.int ns.sum)
  | _ => none
def biSorted : List D → Option Val
  | [.list xs] => if sortB xs then some (.own (xs.mergeSort (W.dataLe false id))) else none
  | _ => none
def biList : List D → Option Val
  | [.list xs] => some (.own xs)
  | [.tuple xs] => some (.own xs)
  | _ => none
def biTuple : List D → Option Val
  | [.list xs] => some (.d (.tuple xs))
  | [.tuple xs] => some (.d (.tuple xs))
  | _ => none
def biAny : List D → Option Val
  | [.list xs] => (boolsOf xs).map fun bs => .d (.bool (bs.any id))
  | _ => none
def biAll : List D → Option Val
  | [.list xs] => (boolsOf xs).map fun bs => .d (.bool (bs.all id))
  | _ => none
/-- a text that can be shown -/
def shB (x : D) : Bool := x.showable && !x.hasDict && decide (x.depth ≤ 60) && decide (x.shown.length ≤ sizeLine)
def biRepr : List D → Option Val
  | [x] => if shB x then some (.d (.str x.shown)) else none
  | _ => none
/-- the ints of a list, rising, each once -/
def insI (x : Int) : List Int → List Int
  | [] => [x]
  | y :: r => if x < y then x :: y :: r else if x = y then y :: r else y :: insI x r
def setI (ns : List Int) : List Int := ns.foldr insI []
def ssetD : D → Option Val
  | .list xs => (intsOf xs).bind fun ns => if ns.length < 1000 ∧ (setI ns).length < 64 then some (.own ((setI ns).map PyData.int)) else none
  | _ => none
def lsetD : D → Option Val
  | .list xs => (intsOf xs).bind fun ns => if ns.length < 1000 then some (.d (.int ((setI ns).length : Nat))) else none
  | _ => none
def revD : D → Option Val
  | .list xs => some (.own xs.reverse)
  | _ => none
def biD : Bi → List D → Option Val
  | .len => biLen
  | .abs => biAbs
  | .int => biInt
  | .min1 => biMin1
  | .max1 => biMax1
  | .min2 => biMin2
  | .max2 => biMax2
  | .sum => biSum
  | .sorted => biSorted
  | .list => biList
  | .tuple => biTuple
  | .any => biAny
  | .all => biAll
  | .repr => biRepr
def itemsOf : D → Option (List D)
  | .list xs => some xs
  | .tuple xs => some xs
  | _ => none
def mtK : Mt → D → Bool
  | .lindex, .list _ => true
  | .lindex, _ => false
  | _, .str _ => true
  | _, _ => false
/-- the length of a join -/
def joinLen (a : Str) (ys : List Str) : Nat := (ys.map fun y => y.length).sum + a.length * ys.length
def mtD : Mt → D → List D → Option Val
  | .join, .str a, [d] => (itemsOf d).bind fun ds => (strsOf ds).bind fun ys => if joinLen a ys ≤ 1000000 then some (.d (.str (Txt.join a ys))) else none
  | .starts, .str a, [.str b] => some (.d (.bool (Txt.startswith a b)))
  | .ends, .str a, [.str b] => some (.d (.bool (Txt.endswith a b)))
  | .find, .str a, [.str b] => some (.d (.int (Txt.find a b)))
  | .stripC, .str a, [.str b] => if a.length ≤ sizeLine then some (.d (.str (Txt.stripChars a b))) else none
  | .lstripC, .str a, [.str b] => if a.length ≤ sizeLine then some (.d (.str (Txt.lstripChars a b))) else none
  | .lindex, .list ds, [d] => if SeqAt.shaped (.list ds) && SeqAt.shaped d then (ds.findIdx? fun z => z.eqv d).map fun (j : Nat) => .d (.int (j : Int)) else none
  | _, _, _ => none
def mtD0 : Mt0 → D → Option Val
  | .lower, .str a => if a.length ≤ 5592405 then some (.d (.str (Txt.lower a))) else none
  | _, _ => none
def mtK0 : Mt0 → D → Bool
  | .lower, .str _ => true
  | _, _ => false
/-! dicts with ints and texts as keys -/
def keyD : D → Option Key
  | .int i => some (.inl i)
  | .str x => some (.inr x)
  | _ => none
def valT (kvs : List (Key × D)) (k : Key) : Option D := (kvs.find? fun kv => decide (kv.1 = k)).map (·.2)
def putT (kvs : List (Key × D)) (k : Key) (x : D) : List (Key × D) :=
  if (kvs.any fun kv => decide (kv.1 = k)) = true then kvs.map (fun kv => if kv.1 = k then (kv.1, x) else kv) else kvs ++ [(k, x)]
def mergeT (kvs more : List (Key × D)) : List (Key × D) := more.foldl (fun acc kv => putT acc kv.1 kv.2) kvs
def pairsD : List D → Option (List (Key × D))
  | [] => some []
  | .tuple [k, v] :: r => (keyD k).bind fun k => (pairsD r).map ((k, v) :: ·)
  | _ => none
/-! a target is given a value; L: slots that may not change -/
mutual
def slotsT : Tg → List Nat
  | .nm i => [i]
  | .tup ts => slotsTs ts
def slotsTs : List Tg → List Nat
  | [] => []
  | t :: ts => slotsT t ++ slotsTs ts
end
mutual
def bindT (L : List Nat) : Tg → D → Env → Option Env
  | .nm i, x, env => if i ∈ L ∨ env.length ≤ i then none else some (env.set i (some (.d x)))
  | .tup ts, x, env => match x with
    | .tuple xs => bindTs L ts xs env
    | .list xs => bindTs L ts xs env
    | _ => none
def bindTs (L : List Nat) : List Tg → List D → Env → Option Env
  | [], [], env => some env
  | t :: ts, x :: xs, env => (bindT L t x env).bind fun e => bindTs L ts xs e
  | _, _, _ => none
end
/-- what a call does: the result, the arguments' values behind -/
abbrev Calls := Nat → List Val → Option (Val × List Val)
structure Ctx where
  C : Calls
  io : Nat → List Nat
  G : List D
structure Src where
  items : List D
  lk : List Nat
  g : Option (Nat × List D)
def gOk : Option (Nat × List D) → Env → Prop
  | none, _ => True
  | some (j, ys), env => rd env j = some (.own ys) ∨ rd env j = some (.d (.list ys))
def itemsD : D → Option (List D)
  | .list xs => some xs
  | .tuple xs => some xs
  | .str z => if z.length ≤ sizeLine then some (z.cps.toList.map fun c => .str ⟨#[c]⟩) else none
  | _ => none
def srcL (env : Env) : Rv → Option Src
  | .v w => match valD w with
    | some (.list xs) => some ⟨xs, [], none⟩
    | _ => none
  | .ali j => match rd env j with
    | some (.own ys) => some ⟨ys, [j], some (j, ys)⟩
    | _ => none
def srcOf (env : Env) : Rv → Option Src
  | .v w => ((valD w).bind itemsD).map fun xs => ⟨xs, [], none⟩
  | .ali j => match rd env j with
    | some (.own ys) => some ⟨ys, [j], some (j, ys)⟩
    | _ => none
def rngOf (i j : Int) : List D := (List.range (j - i).toNat).map fun k => .int (i + (k : Nat))
def rngDn (i j : Int) : List D := (List.range (i - j).toNat).map fun k => .int (i + (k : Nat) * (-1))
def rngOk (i j : Int) : Bool := decide (-(2 ^ 62) ≤ i ∧ i < 2 ^ 62 ∧ -(2 ^ 62) ≤ j ∧ j < 2 ^ 62 ∧ j - i ≤ 16777216 ∧ i - j ≤ 16777216)
def enumOf (k : Nat) : List D → List D
  | [] => []
  | x :: xs => .tuple [.int k, x] :: enumOf (k + 1) xs
def zipOf : List D → List D → List D
  | x :: xs, y :: ys => .tuple [x, y] :: zipOf xs ys
  | _, _ => []
def rngSrc : List D → Option Src
  | [.int n] => if rngOk 0 n then some ⟨rngOf 0 n, [], none⟩ else none
  | [.int i, .int n] => if rngOk i n then some ⟨rngOf i n, [], none⟩ else none
  | [.int i, .int n, .int c] => if rngOk i n ∧ c = -1 then some ⟨rngDn i n, [], none⟩ else none
  | _ => none
def curs (env : Env) : List Rv → Option (List D)
  | [] => some []
  | r :: rs => (cur env r).bind fun x => (curs env rs).map (x :: ·)
/-- the places of names that are handed in as they stand -/
def alis : List Rv → List Nat
  | [] => []
  | .ali i :: r => i :: alis r
  | _ :: r => alis r
def nonIo (env : Env) (r : Rv) : Option Val := match r with
  | .v w => (valD w).map Val.d
  | .ali i => match rd env i with
    | some (.scr ns) => some (.scr ns)
    | _ => (cur env r).map Val.d
/-- the arguments of a call: p the place, ios the places that the def changes -/
def argVals (env : Env) (ios : List Nat) : Nat → List Rv → Option (List Val)
  | _, [] => some []
  | p, r :: rs => (if p ∈ ios then (match r with
      | .ali i => (rd env i).bind fun w => match w with
        | .d _ => none
        | .scr _ => none
        | w => some w
      | _ => none) else nonIo env r).bind fun w => (argVals env ios (p + 1) rs).map (w :: ·)
/-- behind a call: the names that were changed; the others that were handed in are frozen if keep is false -/
def backArgs (ios : List Nat) (keep : Bool) : Nat → List Rv → List Val → Env → Env
  | p, .ali i :: rs, w :: ws, env => backArgs ios keep (p + 1) rs ws (if p ∈ ios then env.set i (some w) else if keep then env else env.set i (some w))
  | p, .v _ :: rs, _ :: ws, env => backArgs ios keep (p + 1) rs ws env
  | _, _, _, env => env
mutual
def noList : D → Bool
  | .list _ => false
  | .dict _ => false
  | .tuple xs => noListL xs
  | _ => true
def noListL : List D → Bool
  | [] => true
  | x :: xs => noList x && noListL xs
end
def flatV : Val → Bool
  | .d x => noList x
  | .own xs => noListL xs
  | .st _ _ => true
  | .scr _ => true
  | .dk _ => false
def flatAll (ios : List Nat) : Nat → List Val → Bool
  | _, [] => true
  | p, w :: ws => (if p ∈ ios then flatV w else true) && flatAll ios (p + 1) ws
/-- behind a call nothing is frozen if nothing told can be a list of the caller; a def whose places hold 1000 always freezes -/
def keepB (io : List Nat) (v : Val) (ws : List Val) : Bool := !io.contains 1000 && (flatV v && flatAll io 0 ws)
def doCall (Γ : Ctx) (f : Nat) (rs : List Rv) (env : Env) : Option (Rv × Env) :=
  if (alis rs).Nodup then
    (argVals env (Γ.io f) 0 rs).bind fun ws => (Γ.C f ws).map fun (v, ws') =>
      (.v v, backArgs (Γ.io f) (keepB (Γ.io f) v ws') 0 rs ws' env)
  else none
def wipeE (env : Env) : List Nat → Env
  | [] => env
  | i :: r => (wipeE env r).set i none
/-- behind a comprehension: its own names are what they were -/
def backOwn (env0 env : Env) : List Nat → Env
  | [] => env
  | i :: r => (backOwn env0 env r).set i (match rd env0 i with
    | some (.d x) => some (.d x)
    | _ => none)
open Classical in
noncomputable def lcD (elt cond : Env → Option (D × Env)) (bnd : D → Env → Option Env) (own : List Nat) (g : Option (Nat × List D)) : List D → Env → Option (List D × Env)
  | [], env => if gOk g env then some ([], env) else none
  | x :: xs, env => if gOk g env then (bnd x env).bind fun e1 => (cond e1).bind fun (c, e2) => (truD c).bind fun b =>
      if b then (elt e2).bind fun (y, e3) => (lcD elt cond bnd own g xs (wipeE e3 own)).map fun (ys, e4) => (y :: ys, e4)
      else lcD elt cond bnd own g xs (wipeE e2 own)
    else none
open Classical in
/-- two sources: inner tells the rows of one turn of the outer one -/
noncomputable def lc2D (inner : Env → Option (List D × Env)) (cond : Env → Option (D × Env)) (bnd : D → Env → Option Env) (own : List Nat) (g : Option (Nat × List D)) : List D → Env → Option (List D × Env)
  | [], env => if gOk g env then some ([], env) else none
  | x :: xs, env => if gOk g env then (bnd x env).bind fun e1 => (cond e1).bind fun (c, e2) => (truD c).bind fun b =>
      if b then (inner e2).bind fun (ys, e3) => (lc2D inner cond bnd own g xs (wipeE e3 own)).map fun (zs, e4) => (ys ++ zs, e4)
      else lc2D inner cond bnd own g xs (wipeE e2 own)
    else none
mutual
noncomputable def ev (Γ : Ctx) : ME → Env → Option (Rv × Env)
  | .var i, env => match rd env i with
    | some (.d x) => some (.v (.d x), env)
    | some _ => some (.ali i, env)
    | none => none
  | .con c, env => some (.v (.d c), env)
  | .glb j, env => (Γ.G[j]?).map fun x => (.v (.d x), env)
  | .bin op a b, env => (ev Γ a env).bind fun (ra, e1) => (ev Γ b e1).bind fun (rb, e2) => (cur e2 ra).bind fun x => (cur e2 rb).bind fun y => (binD op x y).map fun r => (.v r, e2)
  | .neg a, env => (ev Γ a env).bind fun (ra, e1) => (cur e1 ra).bind fun x => match x with
    | .int i => some (.v (.d (.int (-i))), e1)
    | _ => none
  | .cmp op a b, env => (ev Γ a env).bind fun (ra, e1) => (ev Γ b e1).bind fun (rb, e2) => (cur e2 ra).bind fun x => (cur e2 rb).bind fun y => (cmpD op x y).map fun c => (.v (.d (.bool c)), e2)
  | .chain op op' a b c, env => (ev Γ a env).bind fun (ra, e1) => (ev Γ b e1).bind fun (rb, e2) => (cur e2 ra).bind fun x => (cur e2 rb).bind fun y => (cmpD op x y).bind fun k =>
      if k then (ev Γ c e2).bind fun (rc, e3) => (cur e3 rb).bind fun y' => (cur e3 rc).bind fun z => (cmpD op' y' z).map fun k' => (.v (.d (.bool k')), e3)
      else some (.v (.d (.bool false)), e2)
  | .andE a b, env => (ev Γ a env).bind fun (ra, e1) => (truR e1 ra).bind fun k => if k then ev Γ b e1 else some (ra, e1)
  | .orE a b, env => (ev Γ a env).bind fun (ra, e1) => (truR e1 ra).bind fun k => if k then some (ra, e1) else ev Γ b e1
  | .notE a, env => (ev Γ a env).bind fun (ra, e1) => (truR e1 ra).map fun k => (.v (.d (.bool (!k))), e1)
  | .ite c a b, env => (ev Γ c env).bind fun (rc, e1) => (truR e1 rc).bind fun k => if k then ev Γ a e1 else ev Γ b e1
  | .tup es, env => (evF Γ es env).map fun (xs, e1) => (.v (.d (.tuple xs)), e1)
  | .lst es, env => (evF Γ es env).map fun (xs, e1) => (.v (.own xs), e1)
  | .idx a b, env => (ev Γ a env).bind fun (ra, e1) => (ev Γ b e1).bind fun (rb, e2) => (cur e2 ra).bind fun x => (cur e2 rb).bind fun y => (idxD x y).map fun z => (.v (.d z), e2)
  | .sli a lo hi, env => (ev Γ a env).bind fun (ra, e1) => (ev Γ lo e1).bind fun (rl, e2) => (ev Γ hi e2).bind fun (rh, e3) => (cur e3 ra).bind fun x =>
      (cur e2 rl).bind fun l => (part (isNoneC lo) l).bind fun l' => (cur e3 rh).bind fun h => (part (isNoneC hi) h).bind fun h' => (sliD x l' h').map fun r => (.v r, e3)
  | .call f es, env => (evL Γ es env).bind fun (rs, e1) => doCall Γ f rs e1
  | .bi b es, env => (evL Γ es env).bind fun (rs, e1) => (curs e1 rs).bind fun xs => (biD b xs).map fun r => (.v r, e1)
  | .lc elt tg it cond own, env => (evI Γ it env).bind fun (s, e1) => if s.lk.all (fun j => decide (j ∉ own)) then
      (lcD (fun e => (ev Γ elt e).bind fun (r, e') => fz e' r) (fun e => (ev Γ cond e).bind fun (r, e') => (cur e' r).map fun x => (x, e')) (bindT s.lk tg) own s.g s.items (wipeE e1 own)).map fun (ys, e2) => (.v (.own ys), backOwn e1 e2 own)
    else none
  | .lrg1 a, env => (ev Γ a env).bind fun (ra, e1) => (cur e1 ra).bind fun x => match x with
    | .int n => if rngOk 0 n then some (.v (.own (rngOf 0 n)), e1) else none
    | _ => none
  | .lrg2 a b, env => (ev Γ a env).bind fun (ra, e1) => (ev Γ b e1).bind fun (rb, e2) => (cur e2 ra).bind fun x => (cur e2 rb).bind fun y => match x, y with
    | .int i, .int n => if rngOk i n then some (.v (.own (rngOf i n)), e2) else none
    | _, _ => none
  | .sset a, env => (ev Γ a env).bind fun (ra, e1) => (cur e1 ra).bind fun x => (ssetD x).map fun r => (.v r, e1)
  | .lset a, env => (ev Γ a env).bind fun (ra, e1) => (cur e1 ra).bind fun x => (lsetD x).map fun r => (.v r, e1)
  | .rev a, env => (ev Γ a env).bind fun (ra, e1) => (cur e1 ra).bind fun x => (revD x).map fun r => (.v r, e1)
  | .mth m a es, env => (ev Γ a env).bind fun (ra, e1) => if ((cur e1 ra).map (mtK m)).getD false then (evL Γ es e1).bind fun (rs, e2) => (cur e2 ra).bind fun x => (curs e2 rs).bind fun xs => (mtD m x xs).map fun r => (.v r, e2)
    else none
  | .mth0 m a, env => (ev Γ a env).bind fun (ra, e1) => (cur e1 ra).bind fun x => if mtK0 m x then (mtD0 m x).map fun r => (.v r, e1) else none
  | .slen i, env => match rd env i with
    | some (.scr ns) => some (.v (.d (.int ns.length)), env)
    | _ => none
  | .sidx i b, env => match rd env i with
    | some (.scr ns) => (ev Γ b env).bind fun (rb, e1) => (cur e1 rb).bind fun y => match y with
      | .int k => (atI ns k).map fun z => (.v (.d (.int z)), e1)
      | _ => none
    | _ => none
  | .gidx j b, env => (ev Γ b env).bind fun (rb, e1) => (cur e1 rb).bind fun y => match Γ.G[j]?, y with
    | some (.tuple ds), .str z => (strsOf ds).bind fun ys => (ys.findIdx? fun u => decide (u = z)).map fun (k : Nat) => (.v (.d (.int (k : Int))), e1)
    | _, _ => none
  | .fz a, env => (ev Γ a env).bind fun (r, e1) => (fz e1 r).map fun (x, e2) => (.v (.d x), e2)
  | .dnew, env => some (.v (.dk []), env)
  | .dnew1 k v, env => (ev Γ k env).bind fun (rk, e1) => (cur e1 rk).bind fun x => (keyD x).bind fun key => (ev Γ v e1).bind fun (rv, e2) => (fz e2 rv).map fun (y, e3) => (.v (.dk [(key, y)]), e3)
  | .dget i k, env => (rd env i).bind fun _ => (ev Γ k env).bind fun (rk, e1) => (cur e1 rk).bind fun x => (keyD x).bind fun key => match rd e1 i with
    | some (.dk kvs) => (valT kvs key).map fun y => (.v (.d y), e1)
    | _ => none
  | .din i k, env => (ev Γ k env).bind fun (rk, e1) => (cur e1 rk).bind fun x => (keyD x).bind fun key => match rd e1 i with
    | some (.dk kvs) => some (.v (.d (.bool (valT kvs key).isSome)), e1)
    | _ => none
  | .dnin i k, env => (ev Γ k env).bind fun (rk, e1) => (cur e1 rk).bind fun x => (keyD x).bind fun key => match rd e1 i with
    | some (.dk kvs) => some (.v (.d (.bool (!(valT kvs key).isSome))), e1)
    | _ => none
  | .dgetd i k x, env => match rd env i with
    | some (.dk _) => (ev Γ k env).bind fun (rk, e1) => (cur e1 rk).bind fun y => (keyD y).bind fun key => (ev Γ x e1).bind fun (rx, e2) => (fz e2 rx).bind fun (z, e3) => match rd e3 i with
      | some (.dk kvs) => some (.v (.d ((valT kvs key).getD z)), e3)
      | _ => none
    | _ => none
  | .dof e, env => (ev Γ e env).bind fun (r, e1) => (cur e1 r).bind fun x => match x with
    | .list xs => (pairsD xs).bind fun kvs => if kvs.length ≤ sizeLine then some (.v (.dk (mergeT [] kvs)), e1) else none
    | _ => none
  | .bad, _ => none
  | .pop i, env => match rd env i with
    | some (.own xs) => (xs[xs.length - 1]?).map fun x => (.v (.d x), env.set i (some (.own xs.dropLast)))
    | _ => none
  | .lc2 elt tg it cond own tg1 it1 cond1 vs1, env => (evI Γ it env).bind fun (s, e1) => if s.lk.all (fun j => decide (j ∉ own)) then
      (lc2D (fun e => (evI Γ it1 e).bind fun (s1, e') => if s1.lk.all (fun j => decide (j ∉ vs1)) then
          lcD (fun e => (ev Γ elt e).bind fun (r, e') => fz e' r) (fun e => (ev Γ cond1 e).bind fun (r, e') => (cur e' r).map fun x => (x, e')) (bindT s1.lk tg1) vs1 s1.g s1.items (wipeE e' vs1)
        else none)
        (fun e => (ev Γ cond e).bind fun (r, e') => (cur e' r).map fun x => (x, e')) (bindT s.lk tg) own s.g s.items (wipeE e1 own)).bind fun (ys, e2) =>
        if ys.length ≤ sizeLine then some (.v (.own ys), backOwn e1 e2 own) else none
    else none
noncomputable def evI (Γ : Ctx) : MI → Env → Option (Src × Env)
  | .seq e, env => (ev Γ e env).bind fun (ra, e1) => (srcOf e1 ra).map fun s => (s, e1)
  | .rng es, env => (evL Γ es env).bind fun (rs, e1) => (curs e1 rs).bind fun xs => (rngSrc xs).map fun s => (s, e1)
  | .enum a, env => (ev Γ a env).bind fun (ra, e1) => (srcL e1 ra).map fun s => (⟨enumOf 0 s.items, s.lk, s.g⟩, e1)
  | .zip a b, env => (ev Γ a env).bind fun (ra, e1) => (ev Γ b e1).bind fun (rb, e2) => match ra, rb with
    | .v (.d (.list xs)), .v (.d (.list ys)) => some (⟨zipOf xs ys, [], none⟩, e2)
    | _, _ => none
noncomputable def evL (Γ : Ctx) : List ME → Env → Option (List Rv × Env)
  | [], env => some ([], env)
  | e :: es, env => (ev Γ e env).bind fun (r, e1) => (evL Γ es e1).map fun (rs, e2) => (r :: rs, e2)
/-- items of a display: frozen, one by one -/
noncomputable def evF (Γ : Ctx) : List ME → Env → Option (List D × Env)
  | [], env => some ([], env)
  | e :: es, env => (ev Γ e env).bind fun (r, e1) => (fz e1 r).bind fun (x, e2) => (evF Γ es e2).map fun (xs, e3) => (x :: xs, e3)
end

inductive Res where
  | nx (env : Env)
  | rt (r : Rv) (env : Env)
  | bk (env : Env)
  | ct (env : Env)
open Classical in
noncomputable def forD (body : Env → Option Res) (bnd : D → Env → Option Env) (g : Option (Nat × List D)) : List D → Env → Option Res
  | [], env => if gOk g env then some (.nx env) else none
  | x :: xs, env => if gOk g env then (bnd x env).bind fun e1 => (body e1).bind fun r => match r with
      | .nx e2 => forD body bnd g xs e2
      | .ct e2 => forD body bnd g xs e2
      | .bk e2 => some (.nx e2)
      | .rt v e2 => some (.rt v e2)
    else none
def whN (c : Env → Option (Bool × Env)) (b : Env → Option Res) : Nat → Env → Option Res
  | 0, _ => none
  | n + 1, env => (c env).bind fun (k, e1) => if k then (b e1).bind fun r => match r with
      | .nx e2 => whN c b n e2
      | .ct e2 => whN c b n e2
      | .bk e2 => some (.nx e2)
      | .rt v e2 => some (.rt v e2)
    else some (.nx e1)
open Classical in
noncomputable def whD (c : Env → Option (Bool × Env)) (b : Env → Option Res) (env : Env) : Option Res :=
  if h : ∃ n, (whN c b n env).isSome = true then whN c b (choose h) env else none
def setV (L : List Nat) (i : Nat) (w : Val) (env : Env) : Option Env := if i ∈ L ∨ env.length ≤ i then none else some (env.set i (some w))
/-- a name is given a result -/
def asgn (L : List Nat) : Tg → Rv → Env → Option Env
  | .nm i, .v w, env => setV L i w env
  | .nm i, .ali j, env => (fz env (.ali j)).bind fun (x, e) => setV L i (.d x) e
  | .tup ts, r, env => (fz env r).bind fun (x, e) => bindT L (.tup ts) x e
/-- a slot's value, where it is handed on, is frozen -/
def fzA (env : Env) : Rv → Option (Val × Env)
  | .v w => some (w, env)
  | .ali j => (fz env (.ali j)).map fun (x, e) => (.d x, e)
def fzAs : Env → List Rv → Option (List Val × Env)
  | env, [] => some ([], env)
  | env, r :: rs => (fzA env r).bind fun (w, e) => (fzAs e rs).map fun (ws, e') => (w :: ws, e')
def setVs (L : List Nat) : List Nat → List Val → Env → Option Env
  | [], [], env => some env
  | i :: is, w :: ws, env => (setV L i w env).bind fun e => setVs L is ws e
  | _, _, _ => none
noncomputable def evC (Γ : Ctx) (c : ME) (env : Env) : Option (Bool × Env) := (ev Γ c env).bind fun (r, e) => (truR e r).map fun k => (k, e)
def isOwn : Option Val → Bool
  | some (.own _) => true
  | _ => false
/-- one store into the own list of a slot -/
noncomputable def stoD (Γ : Ctx) (i : Nat) (ke : ME) (x : D) (env : Env) : Option Env := (rd env i).bind fun _ => (ev Γ ke env).bind fun (rk, e3) => (cur e3 rk).bind fun n => match rd e3 i, n with
      | some (.own xs), .int n => (ixN xs.length n).map fun j => e3.set i (some (.own (xs.set j x)))
      | _, _ => none
mutual
noncomputable def evS (Γ : Ctx) (L : List Nat) : MS → Env → Option Res
  | .asg tg e, env => (ev Γ e env).bind fun (r, e1) => (asgn L tg r e1).map .nx
  | .par is es, env => (evL Γ es env).bind fun (rs, e1) => (fzAs e1 rs).bind fun (ws, e2) => (setVs L is ws e2).map .nx
  | .seti i k v, env => (ev Γ v env).bind fun (rv, e1) => (fz e1 rv).bind fun (x, e2) => (rd e2 i).bind fun _ => (ev Γ k e2).bind fun (rk, e3) => (cur e3 rk).bind fun n => match rd e3 i, n with
      | some (.own xs), .int n => (ixN xs.length n).map fun j => .nx (e3.set i (some (.own (xs.set j x))))
      | _, _ => none
  | .dput i k v, env => (ev Γ v env).bind fun (rv, e1) => (fz e1 rv).bind fun (x, e2) => (rd e2 i).bind fun _ => (ev Γ k e2).bind fun (rk, e3) => (cur e3 rk).bind fun y => (keyD y).bind fun key => match rd e3 i with
      | some (.dk kvs) => if kvs.length < sizeLine then some (.nx (e3.set i (some (.dk (putT kvs key x))))) else none
      | _ => none
  | .swp i k1 k2 e1 e2, env => (evF Γ [e1, e2] env).bind fun (xs, e) => match xs with
      | [x, y] => (stoD Γ i k1 x e).bind fun e' => (stoD Γ i k2 y e').map .nx
      | _ => none
  | .app i e, env => if isOwn (rd env i) then (ev Γ e env).bind fun (r, e1) => (fz e1 r).bind fun (x, e2) => match rd e2 i with
      | some (.own xs) => if xs.length < sizeLine then some (.nx (e2.set i (some (.own (xs ++ [x]))))) else none
      | _ => none
    else none
  | .ext i e, env => if isOwn (rd env i) then (ev Γ e env).bind fun (r, e1) => (cur e1 r).bind fun y => match rd e1 i, y with
      | some (.own xs), .list ys => if xs.length + ys.length ≤ sizeLine then some (.nx (e1.set i (some (.own (xs ++ ys))))) else none
      | _, _ => none
    else none
  | .ifs c a b, env => (evC Γ c env).bind fun (k, e1) => if k then evSs Γ L a e1 else evSs Γ L b e1
  | .whl c b, env => whD (evC Γ c) (evSs Γ L b) env
  | .for_ tg it b, env => (evI Γ it env).bind fun (s, e1) => forD (evSs Γ (s.lk ++ L) b) (bindT (s.lk ++ L) tg) s.g s.items e1
  | .ret e, env => (ev Γ e env).map fun (r, e1) => .rt r e1
  | .ex e, env => (ev Γ e env).map fun (_, e1) => .nx e1
  | .retN, env => some (.rt (.v (.d .none)) env)
  | .brk, env => some (.bk env)
  | .cnt, env => some (.ct env)
  | .pass, env => some (.nx env)
noncomputable def evSs (Γ : Ctx) (L : List Nat) : List MS → Env → Option Res
  | [], env => some (.nx env)
  | s :: ss, env => (evS Γ L s env).bind fun r => match r with
    | .nx e => evSs Γ L ss e
    | r => some r
end
/-- a def of the text, or one whose value is told -/
inductive Fd where
  | py (np ns : Nat) (io : List Nat) (body : List MS)
  | pr (io : List Nat) (f : List Val → Option (Val × List Val))
def Fd.io : Fd → List Nat
  | .py _ _ io _ => io
  | .pr io _ => io
def ioT (T : List Fd) (f : Nat) : List Nat := match T[f]? with
  | some d => d.io
  | none => []
def isSt : Val → Bool
  | .st _ _ => true
  | _ => false
def outs (io : List Nat) (env : Env) : Nat → List Val → Option (List Val)
  | _, [] => some []
  | p, w :: ws => (if p ∈ io then (rd env p).bind fun u => match u with
      | .d _ => none
      | .scr _ => none
      | u => some u else match w with
        | .d x => some (.d x)
        | .scr x => some (.scr x)
        | _ => none).bind fun u => (outs io env (p + 1) ws).map (u :: ·)
def endF (io : List Nat) (ws : List Val) : Res → Option (Val × List Val)
  | .rt (.v w) env => (outs io env 0 ws).map fun us => (w, us)
  | .rt (.ali i) env => if i ∈ io then none else if ws.any isSt then (fz env (.ali i)).bind fun (x, e) => (outs io e 0 ws).map fun us => (.d x, us)
      else (rd env i).bind fun w => (outs io env 0 ws).map fun us => (w, us)
  | .nx env => (outs io env 0 ws).map fun us => (.d .none, us)
  | _ => none
noncomputable def callT (T : List Fd) (G : List D) : Nat → Calls
  | 0 => fun _ _ => none
  | k + 1 => fun f ws => match T[f]? with
    | some (.py np ns io body) => if ws.length = np ∧ np ≤ ns then (evSs ⟨callT T G k, ioT T, G⟩ io body (ws.map some ++ List.replicate (ns - np) none)).bind (endF io ws) else none
    | some (.pr _ g) => g ws
    | none => none
end Ev

namespace Ev
open PySem L2
variable {K : PySem.W.Frag} {S S' S1 S2 H H' H1 H2 H0 S0 : Hp} {σ : St} {env env' env1 env2 : Env}

theorem sameT {a : Addr} {xs : List V} (e : Same S S') (h : SqT K S a xs) : SqT K S' a xs := by
  rcases h with (h | ⟨o, h⟩) | h
  · exact .inl (.inl (e _ _ h))
  · exact .inl (.inr ⟨o, e _ _ h⟩)
  · exact .inr h
/-! data in the heap: lists are tracked, tuples may be written in the text -/
mutual
inductive Rp (K : PySem.W.Frag) (H : Hp) : V → D → Prop
  | non : Rp K H .non .none
  | bl (b : Bool) : Rp K H (.bl b) (.bool b)
  | int (i : Int) : Rp K H (.int i) (.int i)
  | str (x : Str) : Rp K H (.str x) (.str x)
  | lst {a : Addr} {xs : List V} {ds : List D} : H a = some (.lst xs) → Rps K H xs ds → Rp K H (.ref a) (.list ds)
  | tup {a : Addr} {xs : List V} {ds : List D} : SqT K H a xs → Rps K H xs ds → Rp K H (.ref a) (.tuple ds)
inductive Rps (K : PySem.W.Frag) (H : Hp) : List V → List D → Prop
  | nil : Rps K H [] []
  | cons {v : V} {vs : List V} {d : D} {ds : List D} : Rp K H v d → Rps K H vs ds → Rps K H (v :: vs) (d :: ds)
end
mutual
theorem rp_dp : ∀ {v : V} {x : D}, Rp K S v x → Dp K S v x
  | _, _, .non => .non
  | _, _, .bl b => .bl b
  | _, _, .int i => .int i
  | _, _, .str x => .str x
  | _, _, .lst h a => .lst (SqL.of h) (rps_dps a)
  | _, _, .tup h a => .tup h (rps_dps a)
theorem rps_dps : ∀ {v : List V} {x : List D}, Rps K S v x → DpAll K S v x
  | _, _, .nil => .nil
  | _, _, .cons h a => .cons (rp_dp h) (rps_dps a)
end
mutual
theorem dpMono (s : Same S S') : ∀ {v : V} {x : D}, Rp K S v x → Rp K S' v x
  | _, _, .non => .non
  | _, _, .bl b => .bl b
  | _, _, .int i => .int i
  | _, _, .str x => .str x
  | _, _, .lst h a => .lst (s _ _ h) (dpsMono s a)
  | _, _, .tup h a => .tup (sameT s h) (dpsMono s a)
theorem dpsMono (s : Same S S') : ∀ {v : List V} {x : List D}, Rps K S v x → Rps K S' v x
  | _, _, .nil => .nil
  | _, _, .cons h a => .cons (dpMono s h) (dpsMono s a)
end
theorem dps_len : ∀ {v : List V} {x : List D}, Rps K S v x → v.length = x.length
  | _, _, .nil => rfl
  | _, _, .cons _ a => by simp [dps_len a]
theorem dps_get : ∀ {vs : List V} {xs : List D} {i : Nat} {v : V}, Rps K S vs xs → vs[i]? = some v → ∃ x, xs[i]? = some x ∧ Rp K S v x
  | _, _, i, _, .nil, e => by simp at e
  | _, _, 0, _, .cons h a, e => by simp at e; subst e; exact ⟨_, rfl, h⟩
  | _, _, i + 1, _, .cons h a, e => by
    simp at e
    obtain ⟨x, h1, h2⟩ := dps_get a e
    exact ⟨x, by simpa using h1, h2⟩
theorem dps_at : ∀ {vs : List V} {xs : List D} {i : Nat} {x : D}, Rps K S vs xs → xs[i]? = some x → ∃ v, vs[i]? = some v ∧ Rp K S v x
  | _, _, i, _, .nil, e => by simp at e
  | _, _, 0, _, .cons h a, e => by simp at e; subst e; exact ⟨_, rfl, h⟩
  | _, _, i + 1, _, .cons h a, e => by
    simp at e
    obtain ⟨x, h1, h2⟩ := dps_at a e
    exact ⟨x, by simpa using h1, h2⟩
theorem dps_app : ∀ {vs ws : List V} {xs ys : List D}, Rps K S vs xs → Rps K S ws ys → Rps K S (vs ++ ws) (xs ++ ys)
  | _, _, _, _, .nil, h => h
  | _, _, _, _, .cons h a, k => .cons h (dps_app a k)
theorem dps_take : ∀ {vs : List V} {xs : List D} (n : Nat), Rps K S vs xs → Rps K S (vs.take n) (xs.take n)
  | _, _, 0, _ => by simp; exact .nil
  | _, _, n + 1, .nil => by simp; exact .nil
  | _, _, n + 1, .cons h a => by simp; exact .cons h (dps_take n a)
theorem dps_drop : ∀ {vs : List V} {xs : List D} (n : Nat), Rps K S vs xs → Rps K S (vs.drop n) (xs.drop n)
  | _, _, 0, h => by simpa using h
  | _, _, n + 1, .nil => by simp; exact .nil
  | _, _, n + 1, .cons h a => by simpa using dps_drop n a
theorem dps_set : ∀ {vs : List V} {xs : List D} {v : V} {x : D} (n : Nat), Rps K S vs xs → Rp K S v x → Rps K S (vs.set n v) (xs.set n x)
  | _, _, _, _, _, .nil, _ => by simp; exact .nil
  | _, _, _, _, 0, .cons h a, k => by simp; exact .cons k a
  | _, _, _, _, n + 1, .cons h a, k => by simp; exact .cons h (dps_set n a k)
theorem dps_cut {vs : List V} {xs : List D} (lo hi : Option Int) (h : Rps K S vs xs) : Rps K S (cutV vs lo hi) (cut xs lo hi) := by
  unfold cutV cut
  rw [dps_len h]
  exact dps_take _ (dps_drop _ h)

/-! what a slot's value is in the heap: S what stays, H all -/
/-- a list that nobody changes -/
def SqZ (K : PySem.W.Frag) (H : Hp) (a : Addr) (xs : List V) : Prop :=
  (∃ o, H a = some (.frz o (.lst xs))) ∨
    ∃ (o : Obj) (its : Array Value) (n : Nat), K.lookup a = some o ∧ o.cls = .type "list" ∧ o.dict = none ∧ o.data = .seq its n ∧ its.size ≤ sizeLine ∧ Vals xs its.toList
def RepV (K : PySem.W.Frag) (S H : Hp) (v : V) : Val → Prop
  | .d x => Rp K S v x
  | .own xs => ∃ a vs, v = .ref a ∧ S a = none ∧ H a = some (.lst vs) ∧ Rps K S vs xs
  | .st i cs => ∃ a c, v = .ref a ∧ S a = none ∧ S c = none ∧ H a = some (.lst [.int i, .ref c]) ∧ H c = some (.lst (cs.map V.int))
  | .dk kvs => ∃ a ws, v = .ref a ∧ S a = none ∧ H a = some (.dK ws) ∧ Paired (fun (p : Key × V) (q : Key × D) => p.1 = q.1 ∧ Rp K S p.2 q.2) ws kvs
  | .scr ns => ∃ a, v = .ref a ∧ SqZ K S a (ns.map V.int)
def Root (H : Hp) (v : V) : Val → Addr → Prop
  | .d _, _ => False
  | .own _, b => v = .ref b
  | .dk _, b => v = .ref b
  | .scr _, _ => False
  | .st _ _, b => v = .ref b ∨ ∃ a x, v = .ref a ∧ H a = some (.lst [x, .ref b])
def slotV (σ : St) (i : Nat) : Option V := (σ[i]?).getD none
structure RepEnv (K : PySem.W.Frag) (S H : Hp) (σ : St) (env : Env) : Prop where
  same : Same S H
  len : σ.length = env.length
  get : ∀ i w, rd env i = some w → ∃ v, slotV σ i = some v ∧ RepV K S H v w
  dis : ∀ i j w w' v v' b, i ≠ j → rd env i = some w → slotV σ i = some v → rd env j = some w' → slotV σ j = some v' → Root H v w b → Root H v' w' b → False
def Roots (H : Hp) (σ : St) (env : Env) (b : Addr) : Prop := ∃ i w v, rd env i = some w ∧ slotV σ i = some v ∧ Root H v w b
structure Step (R : Addr → Prop) (S H S' H' : Hp) : Prop where
  st : Same S S'
  same : Same S' H'
  kp : ∀ b o, H b = some o → ¬ R b → H' b = some o
  nw : ∀ b, S' b ≠ none → S b ≠ none ∨ H b = none ∨ R b
  dm : ∀ b, H b ≠ none → H' b ≠ none
def RepR (K : PySem.W.Frag) (S H : Hp) (σ : St) (env : Env) (v : V) : Rv → Prop
  | .v w => RepV K S H v w ∧ ∀ b, Root H v w b → ¬ Roots H σ env b
  | .ali i => slotV σ i = some v

theorem Step.refl {R : Addr → Prop} (h : Same S H) : Step R S H S H := ⟨Same.refl S, h, fun _ _ e _ => e, fun _ e => .inl e, fun _ e => e⟩
theorem Step.trans {R R1 : Addr → Prop} (a : Step R S H S1 H1) (b : Step R1 S1 H1 S2 H2) (hR : ∀ c, R1 c → R c ∨ H c = none) : Step R S H S2 H2 := by
  refine ⟨a.st.trans b.st, b.same, fun c o e n => ?_, fun c e => ?_, fun c e => b.dm c (a.dm c e)⟩
  · refine b.kp c o (a.kp c o e n) fun r => ?_
    rcases hR c r with h | h
    · exact n h
    · rw [e] at h; cases h
  · rcases b.nw c e with h | h | h
    · exact a.nw c h
    · by_cases hr : R c
      · exact .inr (.inr hr)
      · cases q : H c with
        | none => exact .inr (.inl rfl)
        | some o => rw [a.kp c o q hr] at h; cases h
    · rcases hR c h with h | h
      · exact .inr (.inr h)
      · exact .inr (.inl h)
theorem Step.mono {R R1 : Addr → Prop} (a : Step R S H S' H') (h : ∀ b, R b → R1 b) : Step R1 S H S' H' :=
  ⟨a.st, a.same, fun b o e n => a.kp b o e fun r => n (h b r), fun b e => (a.nw b e).imp id (Or.imp id (h b)), a.dm⟩
/-- nothing that was there has changed -/
theorem Step.grow {R : Addr → Prop} (h1 : Same S S') (h2 : Same S' H') (h3 : Same H H') (h4 : ∀ b, S' b ≠ none → S b ≠ none ∨ H b = none) : Step R S H S' H' :=
  ⟨h1, h2, fun b o e _ => h3 b o e, fun b e => (h4 b e).imp id .inl, fun b e => by
    cases q : H b with
    | none => exact absurd q e
    | some o => rw [h3 b o q]; simp⟩

theorem root_free {v : V} {w : Val} {b : Addr} (r : RepV K S H v w) (h : Root H v w b) : S b = none ∧ ∃ o, H b = some o := by
  cases w with
  | d x => exact h.elim
  | scr x => exact h.elim
  | own xs =>
    obtain ⟨a, vs, rfl, h1, h2, _⟩ := r
    have : a = b := by simpa [Root] using h
    subst this
    exact ⟨h1, _, h2⟩
  | dk kvs =>
    obtain ⟨a, vs, rfl, h1, h2, _⟩ := r
    have : a = b := by simpa [Root] using h
    subst this
    exact ⟨h1, _, h2⟩
  | st i cs =>
    obtain ⟨a, c, rfl, h1, h2, h3, h4⟩ := r
    rcases h with h | ⟨a', x, h, h'⟩
    · cases h; exact ⟨h1, _, h3⟩
    · cases h
      rw [h3] at h'
      cases h'
      exact ⟨h2, _, h4⟩
/-- the roots of one value, by what stands there -/
theorem root_iff {v : V} {w : Val} {b : Addr} (r : RepV K S H v w) (hk : ∀ c, Root H v w c → ∀ o, H c = some o → H' c = some o) : Root H' v w b ↔ Root H v w b := by
  cases w with
  | d x => exact Iff.rfl
  | scr x => exact Iff.rfl
  | own xs => exact Iff.rfl
  | dk kvs => exact Iff.rfl
  | st i cs =>
    obtain ⟨a, c, rfl, h1, h2, h3, h4⟩ := r
    have e : H' a = some (.lst [.int i, .ref c]) := hk a (.inl rfl) _ h3
    constructor
    · rintro (h | ⟨a', x, h, h'⟩)
      · exact .inl h
      · cases h
        rw [e] at h'
        cases h'
        exact .inr ⟨a, _, rfl, h3⟩
    · rintro (h | ⟨a', x, h, h'⟩)
      · exact .inl h
      · cases h
        rw [h3] at h'
        cases h'
        exact .inr ⟨a, _, rfl, e⟩
theorem sqZ_mono {a : Addr} {xs : List V} (h1 : ∀ b o, S b = some o → (∀ xs, o ≠ .lst xs) → S' b = some o) (h : SqZ K S a xs) : SqZ K S' a xs := by
  rcases h with ⟨o, h⟩ | h
  · exact .inl ⟨o, h1 _ _ h fun _ z => nomatch z⟩
  · exact .inr h
theorem SqZ.sq {a : Addr} {xs : List V} (h : SqZ K S a xs) : SqL K S a xs := by
  rcases h with ⟨o, h⟩ | h
  · exact .inl (.inr ⟨o, h⟩)
  · exact .inr h
theorem repV_step {v : V} {w : Val} (r : RepV K S H v w) (h1 : Same S S') (hk : ∀ c, Root H v w c → S' c = none ∧ ∀ o, H c = some o → H' c = some o) : RepV K S' H' v w := by
  cases w with
  | d x => exact dpMono h1 r
  | scr ns =>
    obtain ⟨a, e1, e2⟩ := r
    exact ⟨a, e1, sqZ_mono (fun b o z _ => h1 b o z) e2⟩
  | own xs =>
    obtain ⟨a, vs, rfl, e1, e2, e3⟩ := r
    obtain ⟨k1, k2⟩ := hk a rfl
    exact ⟨a, vs, rfl, k1, k2 _ e2, dpsMono h1 e3⟩
  | dk kvs =>
    obtain ⟨a, vs, rfl, e1, e2, e3⟩ := r
    obtain ⟨k1, k2⟩ := hk a rfl
    exact ⟨a, vs, rfl, k1, k2 _ e2, Paired.mapP e3 fun p q z => ⟨z.1, dpMono h1 z.2⟩⟩
  | st i cs =>
    obtain ⟨a, c, rfl, e1, e2, e3, e4⟩ := r
    obtain ⟨k1, k2⟩ := hk a (.inl rfl)
    obtain ⟨k3, k4⟩ := hk c (.inr ⟨a, _, rfl, e3⟩)
    exact ⟨a, c, rfl, k1, k3, k2 _ e3, k4 _ e4⟩
/-- a step that keeps what a value leans on -/
theorem repV_keep {R : Addr → Prop} {v : V} {w : Val} (r : RepV K S H v w) (st : Step R S H S' H') (hR : ∀ b, Root H v w b → ¬ R b) : RepV K S' H' v w ∧ ∀ b, Root H' v w b ↔ Root H v w b := by
  have hk : ∀ c, Root H v w c → S' c = none ∧ ∀ o, H c = some o → H' c = some o := fun c h => by
    obtain ⟨f, o, e⟩ := root_free r h
    refine ⟨?_, fun o e => st.kp c o e (hR c h)⟩
    cases q : S' c with
    | none => rfl
    | some u =>
      rcases st.nw c (by rw [q]; simp) with z | z | z
      · exact absurd f z
      · rw [e] at z; cases z
      · exact absurd z (hR c h)
  exact ⟨repV_step r st.st hk, fun b => root_iff r fun c h => (hk c h).2⟩

theorem Roots.free (e : RepEnv K S H σ env) {b : Addr} (h : Roots H σ env b) : S b = none ∧ ∃ o, H b = some o := by
  obtain ⟨i, w, v, h1, h2, h3⟩ := h
  obtain ⟨v', e1, e2⟩ := e.get i w h1
  rw [h2] at e1; cases e1
  exact root_free e2 h3
/-- the environment behind a step that changes none of its roots -/
theorem RepEnv.keep {R : Addr → Prop} (e : RepEnv K S H σ env) (st : Step R S H S' H') (hR : ∀ b, Roots H σ env b → ¬ R b) : RepEnv K S' H' σ env ∧ ∀ b, Roots H' σ env b ↔ Roots H σ env b := by
  have one : ∀ i w v, rd env i = some w → slotV σ i = some v → RepV K S' H' v w ∧ ∀ b, Root H' v w b ↔ Root H v w b := fun i w v h1 h2 => by
    obtain ⟨v', e1, e2⟩ := e.get i w h1
    rw [h2] at e1; cases e1
    exact repV_keep e2 st fun b hb => hR b ⟨i, w, v, h1, h2, hb⟩
  refine ⟨⟨st.same, e.len, fun i w h => ?_, fun i j w w' v v' b n h1 h2 h3 h4 h5 h6 => ?_⟩, fun b => ⟨?_, ?_⟩⟩
  · obtain ⟨v, e1, _⟩ := e.get i w h
    exact ⟨v, e1, (one i w v h e1).1⟩
  · exact e.dis i j w w' v v' b n h1 h2 h3 h4 (((one i w v h1 h2).2 b).mp h5) (((one j w' v' h3 h4).2 b).mp h6)
  · rintro ⟨i, w, v, h1, h2, h3⟩
    exact ⟨i, w, v, h1, h2, ((one i w v h1 h2).2 b).mp h3⟩
  · rintro ⟨i, w, v, h1, h2, h3⟩
    exact ⟨i, w, v, h1, h2, ((one i w v h1 h2).2 b).mpr h3⟩
theorem RepEnv.grow (e : RepEnv K S H σ env) (h1 : Same S S') (h2 : Same S' H') (h3 : Same H H') (h4 : ∀ b, S' b ≠ none → S b ≠ none ∨ H b = none) : RepEnv K S' H' σ env ∧ ∀ b, Roots H' σ env b ↔ Roots H σ env b :=
  e.keep (R := fun _ => False) (Step.grow h1 h2 h3 h4) fun _ _ h => h
/-- the state behind an expression -/
theorem none_bk {R : Addr → Prop} {b : Addr} (st : Step R S H S' H') (h : H' b = none) : H b = none := by
  cases q : H b with
  | none => rfl
  | some o => exact absurd h (st.dm b (by rw [q]; simp))
structure Pst (K : PySem.W.Frag) (S H : Hp) (σ : St) (env : Env) (S' H' : Hp) (env' : Env) : Prop where
  step : Step (Roots H σ env) S H S' H'
  rep : RepEnv K S' H' σ env'
  sub : ∀ b, Roots H' σ env' b → Roots H σ env b ∨ H b = none
  slots : env'.length = env.length
theorem Pst.refl (e : RepEnv K S H σ env) : Pst K S H σ env S H env := ⟨Step.refl e.same, e, fun _ h => .inl h, rfl⟩
theorem Pst.trans (a : Pst K S H σ env S1 H1 env1) (b : Pst K S1 H1 σ env1 S2 H2 env2) : Pst K S H σ env S2 H2 env2 :=
  ⟨a.step.trans b.step fun c h => a.sub c h, b.rep, fun c h => (b.sub c h).elim (a.sub c) fun z => .inr (none_bk a.step z), b.slots.trans a.slots⟩
/-- .. with its value -/
structure Psv (K : PySem.W.Frag) (S H : Hp) (σ : St) (env : Env) (S' H' : Hp) (env' : Env) (v : V) (r : Rv) : Prop extends Pst K S H σ env S' H' env' where
  res : RepR K S' H' σ env' v r
  new : ∀ w, r = .v w → ∀ b, Root H' v w b → H b = none
/-- an earlier value behind a further step -/
theorem RepR.step {v : V} {r : Rv} (res : RepR K S1 H1 σ env1 v r) (p : Pst K S1 H1 σ env1 S2 H2 env2) : RepR K S2 H2 σ env2 v r := by
  cases r with
  | ali i => exact res
  | v w =>
    obtain ⟨k1, k2⟩ := repV_keep res.1 p.step res.2
    exact ⟨k1, fun b hb hr => (p.sub b hr).elim (res.2 b ((k2 b).mp hb)) fun z => by
      obtain ⟨_, o, e⟩ := root_free res.1 ((k2 b).mp hb)
      rw [z] at e; cases e⟩
theorem Root_new {v : V} {w : Val} (res : RepR K S1 H1 σ env1 v (.v w)) (p : Pst K S1 H1 σ env1 S2 H2 env2) (b : Addr) : Root H2 v w b ↔ Root H1 v w b := (repV_keep res.1 p.step res.2).2 b
/-- what a value is just now -/
def RepC (K : PySem.W.Frag) (S H : Hp) (v : V) (x : D) : Prop := Rp K S v x ∨ ∃ a vs xs, v = .ref a ∧ x = .list xs ∧ H a = some (.lst vs) ∧ Rps K S vs xs
theorem RepC.dp {v : V} {x : D} (h : RepC K S H v x) (s : Same S H) : Rp K H v x := by
  rcases h with h | ⟨a, vs, xs, rfl, rfl, h1, h2⟩
  · exact dpMono s h
  · exact .lst h1 (dpsMono s h2)
theorem RepC.list {v : V} {xs : List D} (h : RepC K S H v (.list xs)) (s : Same S H) : ∃ a vs, v = .ref a ∧ H a = some (.lst vs) ∧ Rps K S vs xs := by
  rcases h with h | ⟨a, vs, xs', rfl, e, h1, h2⟩
  · cases h with
    | lst h1 h2 => exact ⟨_, _, rfl, s _ _ h1, h2⟩
  · cases e
    exact ⟨a, vs, rfl, h1, h2⟩
theorem RepC.tuple {v : V} {xs : List D} (h : RepC K S H v (.tuple xs)) : ∃ a vs, v = .ref a ∧ SqT K S a vs ∧ Rps K S vs xs := by
  rcases h with h | ⟨a, vs, xs', rfl, e, h1, h2⟩
  · cases h with
    | tup h1 h2 => exact ⟨_, _, rfl, h1, h2⟩
  · cases e
theorem RepC.int {v : V} {i : Int} (h : RepC K S H v (.int i)) : v = .int i := by
  rcases h with h | ⟨a, vs, xs', rfl, e, h1, h2⟩
  · cases h; rfl
  · cases e
theorem RepC.str {v : V} {i : Str} (h : RepC K S H v (.str i)) : v = .str i := by
  rcases h with h | ⟨a, vs, xs', rfl, e, h1, h2⟩
  · cases h; rfl
  · cases e
theorem RepC.bool {v : V} {i : Bool} (h : RepC K S H v (.bool i)) : v = .bl i := by
  rcases h with h | ⟨a, vs, xs', rfl, e, h1, h2⟩
  · cases h; rfl
  · cases e
theorem RepC.none {v : V} (h : RepC K S H v .none) : v = .non := by
  rcases h with h | ⟨a, vs, xs', rfl, e, h1, h2⟩
  · cases h; rfl
  · cases e
theorem repC_val {v : V} {w : Val} {x : D} (r : RepV K S H v w) (e : valD w = some x) : RepC K S H v x := by
  cases w with
  | d y => cases e; exact .inl r
  | own xs =>
    cases e
    obtain ⟨a, vs, h1, h2, h3, h4⟩ := r
    exact .inr ⟨a, vs, xs, h1, rfl, h3, h4⟩
  | dk _ => cases e
  | st _ _ => cases e
  | scr _ => cases e
theorem repC_of {v : V} {r : Rv} {x : D} (p : RepEnv K S H σ env) (res : RepR K S H σ env v r) (e : cur env r = some x) : RepC K S H v x := by
  cases r with
  | v w => exact repC_val res.1 e
  | ali i =>
    have h1 : slotV σ i = some v := res
    obtain ⟨w, h2, e⟩ := Option.bind_eq_some_iff.mp (show (rd env i).bind valD = some x from e)
    obtain ⟨v', e1, e2⟩ := p.get i w h2
    rw [h1] at e1; cases e1
    exact repC_val e2 e
theorem cur_ali {i : Nat} {x : D} (e : cur env (.ali i) = some x) : ∃ w, rd env i = some w := by
  have e : (rd env i).bind valD = some x := e
  cases q : rd env i with
  | none => rw [q] at e; cases e
  | some w => exact ⟨w, rfl⟩
end Ev

namespace Ev
open PySem L2
variable {K : PySem.W.Frag} {S S' S1 S2 H H' H1 H2 H0 S0 : Hp} {σ : St} {env env' env0 env1 env2 : Env}

theorem rd_some {i : Nat} {w : Val} (h : rd env i = some w) : i < env.length := by
  unfold rd at h
  by_cases hi : i < env.length
  · exact hi
  · rw [List.getElem?_eq_none (by omega)] at h
    cases h
theorem rd_set (env : Env) (i j : Nat) (w : Option Val) : rd (env.set i w) j = if i = j ∧ i < env.length then w else rd env j := by
  unfold rd
  by_cases h : i = j
  · subst h
    by_cases hi : i < env.length
    · rw [List.getElem?_set_self hi, if_pos ⟨rfl, hi⟩]; rfl
    · rw [if_neg (by omega), List.getElem?_eq_none (by rw [List.length_set]; omega), List.getElem?_eq_none (by omega)]
  · rw [List.getElem?_set_ne h, if_neg (by omega)]
theorem slotV_set (σ : St) (i j : Nat) (w : Option V) : slotV (σ.set i w) j = if i = j ∧ i < σ.length then w else slotV σ j := by
  unfold slotV
  by_cases h : i = j
  · subst h
    by_cases hi : i < σ.length
    · rw [List.getElem?_set_self hi, if_pos ⟨rfl, hi⟩]; rfl
    · rw [if_neg (by omega), List.getElem?_eq_none (by rw [List.length_set]; omega), List.getElem?_eq_none (by omega)]
  · rw [List.getElem?_set_ne h, if_neg (by omega)]
theorem slotV_get {i : Nat} {v : V} (h : slotV σ i = some v) : σ[i]? = some (some v) := by
  unfold slotV at h
  cases q : σ[i]? with
  | none => rw [q] at h; cases h
  | some o => rw [q] at h; simp at h; rw [h]
theorem slotV_of {i : Nat} {v : V} (h : σ[i]? = some (some v)) : slotV σ i = some v := by unfold slotV; rw [h]; rfl

open Classical in
noncomputable def frzS (S H : Hp) (B : Addr → Prop) : Hp := fun b => if B b then H b else S b
theorem frzS_pos {B : Addr → Prop} {b : Addr} (h : B b) : frzS S H B b = H b := if_pos h
theorem frzS_neg {B : Addr → Prop} {b : Addr} (h : ¬ B b) : frzS S H B b = S b := if_neg h
theorem frzS_at {a : Addr} : frzS S H (fun b => b = a) a = H a := frzS_pos (B := fun b => b = a) rfl
theorem frzS_same {B : Addr → Prop} (s : Same S H) : Same S (frzS S H B) ∧ Same (frzS S H B) H := by
  refine ⟨fun b o e => ?_, fun b o e => ?_⟩
  · by_cases h : B b
    · rw [frzS_pos h]; exact s b o e
    · rw [frzS_neg h]; exact e
  · by_cases h : B b
    · rw [frzS_pos h] at e; exact e
    · rw [frzS_neg h] at e; exact s b o e
theorem RepEnv.frz {R B : Addr → Prop} (st : Step R S0 H0 S H) (e : RepEnv K S H σ env) (hB : ∀ b, B b → R b ∨ H0 b = none) (hl : env2.length = env.length)
    (h : ∀ i w', rd env2 i = some w' → (rd env i = some w' ∧ ∀ v b, slotV σ i = some v → Root H v w' b → ¬ B b) ∨ ∃ xs a, rd env i = some (.own xs) ∧ w' = .d (.list xs) ∧ slotV σ i = some (.ref a) ∧ B a) :
    Step R S0 H0 (frzS S H B) H ∧ RepEnv K (frzS S H B) H σ env2 ∧ ∀ b, Roots H σ env2 b → Roots H σ env b ∧ ¬ B b := by
  obtain ⟨s1, s2⟩ := frzS_same (B := B) e.same
  refine ⟨⟨st.st.trans s1, s2, st.kp, fun b hb => ?_, st.dm⟩, ⟨s2, e.len.trans hl.symm, fun i w' hw => ?_, fun i j w w' v v' b n h1 h2 h3 h4 h5 h6 => ?_⟩, ?_⟩
  · by_cases q : B b
    · rcases hB b q with z | z
      · exact .inr (.inr z)
      · exact .inr (.inl z)
    · rw [frzS_neg q] at hb; exact st.nw b hb
  · rcases h i w' hw with ⟨h1, h2⟩ | ⟨xs, a, h1, rfl, h2, h3⟩
    · obtain ⟨v, e1, e2⟩ := e.get i w' h1
      refine ⟨v, e1, repV_step e2 s1 fun c hc => ⟨?_, fun o q => q⟩⟩
      rw [frzS_neg (h2 v c e1 hc)]
      exact (root_free e2 hc).1
    · obtain ⟨v, e1, a', vs, e2, e3, e4, e5⟩ := e.get i _ h1
      rw [h2] at e1; cases e1; cases e2
      exact ⟨_, h2, .lst (by rw [frzS_pos h3]; exact e4) (dpsMono s1 e5)⟩
  · rcases h i w h1 with ⟨k1, _⟩ | ⟨xs, a, k1, rfl, _⟩
    · rcases h j w' h3 with ⟨k2, _⟩ | ⟨xs, a, k2, rfl, _⟩
      · exact e.dis i j w w' v v' b n k1 h2 k2 h4 h5 h6
      · exact h6.elim
    · exact h5.elim
  · rintro b ⟨i, w, v, h1, h2, h3⟩
    rcases h i w h1 with ⟨k1, k2⟩ | ⟨xs, a, k1, rfl, _⟩
    · exact ⟨⟨i, w, v, k1, h2, h3⟩, k2 v b h2 h3⟩
    · exact h3.elim
/-- a value is frozen -/
theorem fz_ok {v : V} {r : Rv} {x : D} (p : Psv K S0 H0 σ env0 S H env v r) (e : fz env r = some (x, env2)) : ∃ S2, Pst K S0 H0 σ env0 S2 H env2 ∧ Rp K S2 v x ∧ Same S S2 := by
  cases r with
  | v w =>
    simp only [fz, Option.map_eq_some_iff] at e
    obtain ⟨y, e1, e2⟩ := e
    cases e2
    cases w with
    | d z => cases e1; exact ⟨S, p.toPst, p.res.1, Same.refl _⟩
    | own xs =>
      cases e1
      obtain ⟨⟨a, vs, rfl, h1, h2, h3⟩, hn⟩ := p.res
      have hnew : H0 a = none := p.new _ rfl a rfl
      obtain ⟨k1, k2, k3⟩ := RepEnv.frz (B := fun b => b = a) p.step p.rep (fun b hb => .inr (by rw [hb]; exact hnew)) rfl (fun i w' hw => .inl ⟨hw, fun v b hv hr hb => hn a rfl ⟨i, w', v, hw, hv, by rw [← hb]; exact hr⟩⟩)
      exact ⟨_, ⟨k1, k2, fun b hb => p.sub b (k3 b hb).1, p.slots⟩, .lst (frzS_at.trans h2) (dpsMono (frzS_same p.rep.same).1 h3), (frzS_same p.rep.same).1⟩
    | dk _ => cases e1
    | st _ _ => cases e1
    | scr _ => cases e1
  | ali i =>
    simp only [fz, Option.map_eq_some_iff] at e
    obtain ⟨y, e1, e2⟩ := e
    cases e2
    have hs : slotV σ i = some v := p.res
    obtain ⟨w, hw, e1⟩ := Option.bind_eq_some_iff.mp e1
    have hi := rd_some hw
    obtain ⟨v', g1, g2⟩ := p.rep.get i w hw
    rw [hs] at g1; cases g1
    cases w with
    | d z =>
      have ez : z = x := by simpa [valD] using e1
      rw [ez] at hw g2
      have side : ∀ j w', rd (env.set i (some (.d x))) j = some w' → rd env j = some w' := fun j w' hj => by
        rw [rd_set] at hj
        split at hj
        · rename_i c; obtain ⟨rfl, _⟩ := c; rw [hw]; exact hj
        · exact hj
      obtain ⟨k1, k2, k3⟩ := RepEnv.frz (B := fun _ => False) (env2 := env.set i (some (.d x))) p.step p.rep (fun b hb => hb.elim) (by simp) (fun j w' hj => .inl ⟨side j w' hj, fun _ _ _ _ h => h⟩)
      exact ⟨_, ⟨k1, k2, fun b hb => p.sub b (k3 b hb).1, by simpa using p.slots⟩, dpMono (frzS_same p.rep.same).1 g2, (frzS_same p.rep.same).1⟩
    | own xs =>
      cases e1
      obtain ⟨a, vs, rfl, h1, h2, h3⟩ := g2
      have side : ∀ j w', rd (env.set i (some (.d (.list xs)))) j = some w' → (rd env j = some w' ∧ ∀ v b, slotV σ j = some v → Root H v w' b → ¬ b = a) ∨ ∃ xs a', rd env j = some (.own xs) ∧ w' = .d (.list xs) ∧ slotV σ j = some (.ref a') ∧ a' = a := fun j w' hj => by
        rw [rd_set] at hj
        split at hj
        · rename_i c; obtain ⟨rfl, _⟩ := c; cases hj
          exact .inr ⟨xs, a, hw, rfl, hs, rfl⟩
        · rename_i c
          have hij : i ≠ j := fun q => c ⟨q, hi⟩
          refine .inl ⟨hj, fun v b hv hr hb => ?_⟩
          exact p.rep.dis i j _ _ _ _ b hij hw hs hj hv (by rw [hb]; rfl) hr
      obtain ⟨k1, k2, k3⟩ := RepEnv.frz (B := fun b => b = a) (env2 := env.set i (some (.d (.list xs)))) p.step p.rep (fun b hb => p.sub b ⟨i, _, _, hw, hs, by rw [hb]; rfl⟩) (by simp) side
      exact ⟨_, ⟨k1, k2, fun b hb => p.sub b (k3 b hb).1, by simpa using p.slots⟩, .lst (frzS_at.trans h2) (dpsMono (frzS_same p.rep.same).1 h3), (frzS_same p.rep.same).1⟩
    | dk _ => cases e1
    | st _ _ => cases e1
    | scr _ => cases e1
/-- a slot is stored -/
theorem RepEnv.put {i : Nat} {v : V} {w : Val} (e : RepEnv K S H σ env) (hi : i < env.length) (r : RepV K S H v w) (n : ∀ b, Root H v w b → ¬ Roots H σ env b) :
    RepEnv K S H (σ.set i (some v)) (env.set i (some w)) ∧ ∀ b, Roots H (σ.set i (some v)) (env.set i (some w)) b → Roots H σ env b ∨ Root H v w b := by
  have hσ : i < σ.length := by rw [e.len]; exact hi
  have one : ∀ j u x, rd (env.set i (some w)) j = some u → slotV (σ.set i (some v)) j = some x → (j = i ∧ u = w ∧ x = v) ∨ (j ≠ i ∧ rd env j = some u ∧ slotV σ j = some x) := fun j u x h1 h2 => by
    rw [rd_set] at h1
    rw [slotV_set] at h2
    by_cases hj : i = j
    · subst hj
      rw [if_pos ⟨rfl, hi⟩] at h1
      rw [if_pos ⟨rfl, hσ⟩] at h2
      cases h1; cases h2
      exact .inl ⟨rfl, rfl, rfl⟩
    · rw [if_neg (by omega)] at h1
      rw [if_neg (by omega)] at h2
      exact .inr ⟨Ne.symm hj, h1, h2⟩
  refine ⟨⟨e.same, by simpa using e.len, fun j u h => ?_, fun j k u u' x x' b hne h1 h2 h3 h4 h5 h6 => ?_⟩, ?_⟩
  · rw [rd_set] at h
    rw [slotV_set]
    by_cases hj : i = j
    · subst hj
      rw [if_pos ⟨rfl, hi⟩] at h
      cases h
      exact ⟨v, by rw [if_pos ⟨rfl, hσ⟩], r⟩
    · rw [if_neg (by omega)] at h
      rw [if_neg (by omega)]
      exact e.get j u h
  · rcases one j u x h1 h2 with ⟨rfl, rfl, rfl⟩ | ⟨q1, q2, q3⟩
    · rcases one k u' x' h3 h4 with ⟨rfl, rfl, rfl⟩ | ⟨q4, q5, q6⟩
      · exact hne rfl
      · exact n b h5 ⟨k, u', x', q5, q6, h6⟩
    · rcases one k u' x' h3 h4 with ⟨rfl, rfl, rfl⟩ | ⟨q4, q5, q6⟩
      · exact n b h6 ⟨j, u, x, q2, q3, h5⟩
      · exact e.dis j k u u' x x' b hne q2 q3 q5 q6 h5 h6
  · rintro b ⟨j, u, x, h1, h2, h3⟩
    rcases one j u x h1 h2 with ⟨rfl, rfl, rfl⟩ | ⟨q1, q2, q3⟩
    · exact .inr h3
    · exact .inl ⟨j, u, x, q2, q3, h3⟩
/-- an owned object is changed in place -/
theorem RepEnv.mut {i : Nat} {a : Addr} {w0 w : Val} {o : HO} (e : RepEnv K S H σ env) (h0 : rd env i = some w0) (hs : slotV σ i = some (.ref a)) (hr : ∀ b, Root H (.ref a) w0 b ↔ b = a)
    (r : RepV K S (upd H a o) (.ref a) w) (hw : ∀ b, Root (upd H a o) (.ref a) w b → b = a) :
    Pst K S H σ env S (upd H a o) (env.set i (some w)) := by
  have hi := rd_some h0
  have hσ : i < σ.length := by rw [e.len]; exact hi
  obtain ⟨v0, g1, g2⟩ := e.get i w0 h0
  rw [hs] at g1; cases g1
  obtain ⟨fr, _⟩ := root_free g2 ((hr a).mpr rfl)
  have sm : Same S (upd H a o) := fun b u q => by
    have : b ≠ a := fun z => by rw [z, fr] at q; cases q
    rw [upd_ne this]; exact e.same b u q
  have st : Step (fun b => b = a) S H S (upd H a o) := ⟨Same.refl _, sm, fun b u q n => by rw [upd_ne n]; exact q, fun b q => .inl q, fun b q => by
    by_cases z : b = a
    · rw [z, upd_same]; simp
    · rw [upd_ne z]; exact q⟩
  have oth : ∀ j u x, j ≠ i → rd env j = some u → slotV σ j = some x → RepV K S (upd H a o) x u ∧ (∀ b, Root (upd H a o) x u b ↔ Root H x u b) ∧ ∀ b, Root H x u b → b ≠ a := fun j u x hne h1 h2 => by
    obtain ⟨x', q1, q2⟩ := e.get j u h1
    rw [h2] at q1; cases q1
    have nr : ∀ b, Root H x u b → ¬ (b = a) := fun b hb z => e.dis j i u w0 x _ b hne h1 h2 h0 hs hb ((hr b).mpr z)
    obtain ⟨k1, k2⟩ := repV_keep q2 st nr
    exact ⟨k1, k2, nr⟩
  have one : ∀ j u x, rd (env.set i (some w)) j = some u → slotV σ j = some x → (j = i ∧ u = w ∧ x = .ref a) ∨ (j ≠ i ∧ rd env j = some u) := fun j u x h1 h2 => by
    rw [rd_set] at h1
    by_cases hj : i = j
    · subst hj
      rw [if_pos ⟨rfl, hi⟩] at h1
      cases h1
      rw [hs] at h2; cases h2
      exact .inl ⟨rfl, rfl, rfl⟩
    · rw [if_neg (by omega)] at h1
      exact .inr ⟨Ne.symm hj, h1⟩
  refine ⟨st.mono fun b hb => ⟨i, w0, _, h0, hs, (hr b).mpr hb⟩, ⟨sm, by simpa using e.len, fun j u h => ?_, fun j k u u' x x' b hne h1 h2 h3 h4 h5 h6 => ?_⟩, ?_, by simp⟩
  · rw [rd_set] at h
    by_cases hj : i = j
    · subst hj
      rw [if_pos ⟨rfl, hi⟩] at h
      cases h
      exact ⟨_, hs, r⟩
    · rw [if_neg (by omega)] at h
      obtain ⟨x, q1, q2⟩ := e.get j u h
      exact ⟨x, q1, (oth j u x (Ne.symm hj) h q1).1⟩
  · rcases one j u x h1 h2 with ⟨rfl, rfl, rfl⟩ | ⟨q1, q2⟩
    · rcases one k u' x' h3 h4 with ⟨rfl, rfl, rfl⟩ | ⟨q4, q5⟩
      · exact hne rfl
      · obtain ⟨_, z1, z2⟩ := oth k u' x' q4 q5 h4
        exact z2 b ((z1 b).mp h6) (hw b h5)
    · obtain ⟨_, y1, y2⟩ := oth j u x q1 q2 h2
      rcases one k u' x' h3 h4 with ⟨rfl, rfl, rfl⟩ | ⟨q4, q5⟩
      · exact y2 b ((y1 b).mp h5) (hw b h6)
      · obtain ⟨_, z1, z2⟩ := oth k u' x' q4 q5 h4
        exact e.dis j k u u' x x' b hne q2 h2 q5 h4 ((y1 b).mp h5) ((z1 b).mp h6)
  · rintro b ⟨j, u, x, h1, h2, h3⟩
    rcases one j u x h1 h2 with ⟨rfl, rfl, rfl⟩ | ⟨q1, q2⟩
    · exact .inl ⟨_, w0, _, h0, hs, (hr b).mpr (hw b h3)⟩
    · exact .inl ⟨j, u, x, q2, h2, ((oth j u x q1 q2 h2).2.1 b).mp h3⟩
theorem rd_wipe (env : Env) (i : Nat) : ∀ own : List Nat, rd (wipeE env own) i = if i ∈ own then none else rd env i
  | [] => by simp [wipeE]
  | j :: r => by
    rw [wipeE, rd_set, rd_wipe env i r]
    have hl : ∀ r : List Nat, (wipeE env r).length = env.length := fun r => by induction r with
      | nil => rfl
      | cons a r ih => rw [wipeE, List.length_set, ih]
    rw [hl]
    by_cases h : j = i
    · subst h
      by_cases hj : j < env.length
      · simp [hj]
      · have : rd env j = none := by
          cases q : rd env j with
          | none => rfl
          | some w => exact absurd (rd_some q) hj
        simp [hj, this]
    · have h' : ¬ i = j := fun z => h z.symm
      simp [h, h', List.mem_cons]
theorem wipeE_length (env : Env) : ∀ own : List Nat, (wipeE env own).length = env.length
  | [] => rfl
  | j :: r => by rw [wipeE, List.length_set, wipeE_length env r]
theorem slotV_wipe (σ : St) (i : Nat) : ∀ own : List Nat, slotV (wipe σ own) i = if i ∈ own then none else slotV σ i
  | [] => by simp [wipe]
  | j :: r => by
    rw [wipe, slotV_set, slotV_wipe σ i r, wipe_length]
    by_cases h : j = i
    · subst h
      by_cases hj : j < σ.length
      · simp [hj]
      · have : slotV σ j = none := by
          unfold slotV
          rw [List.getElem?_eq_none (by omega)]; rfl
        simp [hj, this]
    · have h' : ¬ i = j := fun z => h z.symm
      simp [h, h', List.mem_cons]
theorem RepEnv.wipe (e : RepEnv K S H σ env) (own : List Nat) : RepEnv K S H (wipe σ own) (wipeE env own) ∧ ∀ b, Roots H (L2.wipe σ own) (wipeE env own) b → Roots H σ env b := by
  have one : ∀ j u x, rd (wipeE env own) j = some u → slotV (L2.wipe σ own) j = some x → rd env j = some u ∧ slotV σ j = some x := fun j u x h1 h2 => by
    rw [rd_wipe] at h1
    rw [slotV_wipe] at h2
    by_cases hj : j ∈ own
    · rw [if_pos hj] at h1; cases h1
    · rw [if_neg hj] at h1 h2
      exact ⟨h1, h2⟩
  refine ⟨⟨e.same, by rw [wipe_length, wipeE_length]; exact e.len, fun j u h => ?_, fun j k u u' x x' b hne h1 h2 h3 h4 h5 h6 => ?_⟩, ?_⟩
  · rw [rd_wipe] at h
    rw [slotV_wipe]
    by_cases hj : j ∈ own
    · rw [if_pos hj] at h; cases h
    · rw [if_neg hj] at h ⊢
      exact e.get j u h
  · obtain ⟨q1, q2⟩ := one j u x h1 h2
    obtain ⟨q3, q4⟩ := one k u' x' h3 h4
    exact e.dis j k u u' x x' b hne q1 q2 q3 q4 h5 h6
  · rintro b ⟨j, u, x, h1, h2, h3⟩
    obtain ⟨q1, q2⟩ := one j u x h1 h2
    exact ⟨j, u, x, q1, q2, h3⟩
theorem rd_back (env0 env : Env) (hl : env0.length = env.length) (i : Nat) : ∀ own : List Nat, rd (backOwn env0 env own) i = if i ∈ own then (match rd env0 i with | some (.d x) => some (.d x) | _ => none) else rd env i
  | [] => by simp [backOwn]
  | j :: r => by
    have hb : ∀ r : List Nat, (backOwn env0 env r).length = env.length := fun r => by induction r with
      | nil => rfl
      | cons a r ih => rw [backOwn, List.length_set, ih]
    rw [backOwn, rd_set, rd_back env0 env hl i r, hb]
    by_cases h : j = i
    · subst h
      by_cases hj : j < env.length
      · simp only [hj, and_self, if_true, List.mem_cons, true_or]
        all_goals (rcases rd env0 j with _ | (_ | _ | _ | _ | _) <;> rfl)
      · have : rd env0 j = none := by
          cases q : rd env0 j with
          | none => rfl
          | some w => exact absurd (rd_some q) (by omega)
        have h2 : rd env j = none := by
          cases q : rd env j with
          | none => rfl
          | some w => exact absurd (rd_some q) hj
        simp [hj, this, h2]
    · have h' : ¬ i = j := fun z => h z.symm
      simp [h, h', List.mem_cons]
theorem backOwn_length (env0 env : Env) : ∀ own : List Nat, (backOwn env0 env own).length = env.length
  | [] => rfl
  | j :: r => by rw [backOwn, List.length_set, backOwn_length env0 env r]
/-- behind a comprehension's block -/
theorem RepEnv.back (own : List Nat) (e0 : RepEnv K S1 H1 σ env1) (s : Same S1 S2) (e : RepEnv K S2 H2 (L2.wipe σ own) env2) : RepEnv K S2 H2 σ (backOwn env1 env2 own) ∧ ∀ b, Roots H2 σ (backOwn env1 env2 own) b → Roots H2 (L2.wipe σ own) env2 b := by
  have hl : env1.length = env2.length := by rw [← e0.len, ← e.len, wipe_length]
  have one : ∀ j u x, rd (backOwn env1 env2 own) j = some u → slotV σ j = some x → (∃ z, u = .d z ∧ rd env1 j = some u) ∨ (rd env2 j = some u ∧ slotV (L2.wipe σ own) j = some x) := fun j u x h1 h2 => by
    rw [rd_back _ _ hl] at h1
    rw [slotV_wipe]
    by_cases hj : j ∈ own
    · rw [if_pos hj] at h1
      split at h1
      · rename_i z hz
        cases h1
        exact .inl ⟨z, rfl, hz⟩
      · cases h1
    · rw [if_neg hj] at h1 ⊢
      exact .inr ⟨h1, h2⟩
  refine ⟨⟨e.same, by rw [backOwn_length, e0.len, hl], fun j u h => ?_, fun j k u u' x x' b hne h1 h2 h3 h4 h5 h6 => ?_⟩, ?_⟩
  · have h' := h
    rw [rd_back _ _ hl] at h
    by_cases hj : j ∈ own
    · rw [if_pos hj] at h
      split at h
      · rename_i z hz
        cases h
        obtain ⟨x, q1, q2⟩ := e0.get j _ hz
        exact ⟨x, q1, dpMono s q2⟩
      · cases h
    · rw [if_neg hj] at h
      obtain ⟨x, q1, q2⟩ := e.get j u h
      rw [slotV_wipe, if_neg hj] at q1
      exact ⟨x, q1, q2⟩
  · rcases one j u x h1 h2 with ⟨z, rfl, _⟩ | ⟨q1, q2⟩
    · exact h5.elim
    · rcases one k u' x' h3 h4 with ⟨z, rfl, _⟩ | ⟨q3, q4⟩
      · exact h6.elim
      · exact e.dis j k u u' x x' b hne q1 q2 q3 q4 h5 h6
  · rintro b ⟨j, u, x, h1, h2, h3⟩
    rcases one j u x h1 h2 with ⟨z, rfl, _⟩ | ⟨q1, q2⟩
    · exact h3.elim
    · exact ⟨j, u, x, q1, q2, h3⟩
end Ev

namespace Ev
open PySem L2

/-! ### forms of expressions -/
def simpleE : Expr → Bool
  | .Name .. => true
  | .Constant .. => true
  | .BinOp .. => true
  | .UnaryOp .. => true
  | .BoolOp .. => true
  | .Compare .. => true
  | .Call .. => true
  | .Subscript .. => true
  | .List .. => true
  | .Tuple .. => true
  | .IfExp .. => true
  | .Attribute .. => true
  | .Dict .. => true
  | _ => false
def isLC : Expr → Bool
  | .ListComp .. => true
  | _ => false
def fineE (e : Expr) : Bool := simpleE e || isLC e
theorem star_fine {e : Expr} {es : List Expr} {env : PySem.Env} (h : fineE e = true) : starEach (e :: es) env = (false, eval e env) :: starEach es env := by
  cases e <;> first | rfl | (simp [fineE, simpleE, isLC] at h)
theorem noswap {e : Expr} {t : Option Expr} {l : Nat} {env : PySem.Env} (h : simpleE e = true) : swapsWith e t l env = pure false := by
  cases e <;> first | rfl | (simp [simpleE] at h)
theorem plainIx {e : Expr} (h : fineE e = true) : PlainIx e := by
  intro o i
  cases e <;> first | rfl | (simp [fineE, simpleE, isLC] at h)
theorem nofold {e : Expr} {env : PySem.Env} (h : fineE e = true) : ∀ x, foldedSetIterable e env x = pure x := by
  intro x
  cases e <;> first | rfl | (simp [fineE, simpleE, isLC] at h)
theorem nomarkE {e : Expr} {op : CmpOp} (h : fineE e = true) : behindInMarks op e = false := by
  cases e <;> first | rfl | (simp [fineE, simpleE, isLC] at h)

/-! ### what an operation hands back -/
structure Gr (S H S' H' : Hp) : Prop where
  st : Same S S'
  same : Same S' H'
  hh : Same H H'
  nw : ∀ b, S' b ≠ none → S b ≠ none ∨ H b = none
def RB (K : PySem.W.Frag) (S H : Hp) (w : Val) (Q : VK) : Prop := ∀ v S' H', Gr S H S' H' → RepV K S' H' v w → (∀ b, Root H' v w b → H b = none) → Q v H'
section
variable {K : PySem.W.Frag} {S S' S1 S2 H H' H1 H2 H0 S0 : Hp} {σ : St} {env env' env0 env1 env2 : Env} {Q : VK}
theorem Gr.refl (h : Same S H) : Gr S H S H := ⟨Same.refl _, h, Same.refl _, fun _ e => .inl e⟩
theorem Gr.trans (a : Gr S H S1 H1) (b : Gr S1 H1 S2 H2) : Gr S H S2 H2 := ⟨a.st.trans b.st, b.same, a.hh.trans b.hh, fun c e => by
  rcases b.nw c e with h | h
  · exact a.nw c h
  · exact .inr (a.hh.free h)⟩
theorem upd_same_of {p : Addr} {o : HO} (hp : H p = none) : Same H (upd H p o) := fun b u e => by
  rw [upd_ne (ne_of_none e hp)]; exact e
theorem Gr.newS {p : Addr} {o : HO} (h : Same S H) (hp : H p = none) : Gr S H (upd S p o) (upd H p o) := by
  have hs : S p = none := h.free hp
  refine ⟨upd_same_of hs, fun b u e => ?_, upd_same_of hp, fun b e => ?_⟩
  · by_cases q : b = p
    · subst q; rw [upd_same] at e ⊢; exact e
    · rw [upd_ne q] at e ⊢; exact h b u e
  · by_cases q : b = p
    · subst q; exact .inr hp
    · rw [upd_ne q] at e; exact .inl e
theorem Gr.newH {p : Addr} {o : HO} (h : Same S H) (hp : H p = none) : Gr S H S (upd H p o) :=
  ⟨Same.refl _, h.trans (upd_same_of hp), upd_same_of hp, fun _ e => .inl e⟩
theorem Gr.step {R : Addr → Prop} (g : Gr S H S' H') : Step R S H S' H' := Step.grow g.st g.same g.hh g.nw
theorem RB.dat {v : V} {x : D} (q : RB K S H (.d x) Q) (h : Same S H) (r : Rp K S v x) : Q v H := q v S H (Gr.refl h) r fun _ z => z.elim
theorem RB.tup {vs : List V} {xs : List D} {p : Addr} (q : RB K S H (.d (.tuple xs)) Q) (h : Same S H) (r : Rps K S vs xs) (hp : H p = none) : Q (.ref p) (upd H p (.tup vs)) := by
  refine q _ _ _ (Gr.newS h hp) (.tup (SqT.of upd_same) (dpsMono (Gr.newS h hp).st r)) fun _ z => z.elim
theorem RB.lst {vs : List V} {xs : List D} {p : Addr} (q : RB K S H (.own xs) Q) (h : Same S H) (r : Rps K S vs xs) (hp : H p = none) : Q (.ref p) (upd H p (.lst vs)) := by
  refine q _ _ _ (Gr.newH h hp) ⟨p, vs, rfl, h.free hp, upd_same, r⟩ fun b z => ?_
  cases z
  exact hp
theorem psv_gr {v : V} {w : Val} (p : Pst K S0 H0 σ env0 S H env) (g : Gr S H S' H') (r : RepV K S' H' v w) (n : ∀ b, Root H' v w b → H b = none) : Psv K S0 H0 σ env0 S' H' env v (.v w) := by
  obtain ⟨k1, k2⟩ := p.rep.grow g.st g.same g.hh g.nw
  refine ⟨⟨p.step.trans (g.step (R := fun _ => False)) fun _ z => z.elim, k1, fun b hb => p.sub b ((k2 b).mp hb), p.slots⟩, ⟨r, fun b hb hr => ?_⟩, fun w' e b hb => ?_⟩
  · obtain ⟨_, o, e⟩ := Roots.free p.rep ((k2 b).mp hr)
    rw [n b hb] at e; cases e
  · cases e
    cases q : H0 b with
    | none => rfl
    | some o => exact absurd (n b hb) (p.step.dm b (by rw [q]; simp))
end

/-! ### operations -/
section
variable {X : Cx}
theorem OpR.imp {f : Value → Value → Sem Value} {r r' : R2} (h : OpR X f r) (k : ∀ x y H Q, r' x y H Q → r x y H Q) : OpR X f r' :=
  fun pins s σ H x y v u Q I rx ry q => h pins s σ H x y v u Q I rx ry (k x y H Q q)
/-- * of two factors of together less than a hundred million bits -/
def CMulX (i j : Int) : Prop := MulB i j
theorem CMulX.ok {i j : Int} (h : CMulX i j) : IntMulOk i j := by
  rcases h with h | h
  case inr => exact CMul.ok h
  have b : ∀ x : Int, Builtin.Int.intBits x ≤ x.natAbs.log2 + 1 := fun x => by
    unfold Builtin.Int.intBits
    split <;> omega
  have h1 := b i
  have h2 := b j
  have h3 : i.natAbs.log2 + j.natAbs.log2 < 100000000 := h
  have e : bitsLine = 134217728 := by decide
  unfold IntMulOk
  intro z
  rw [Bool.and_eq_true] at z
  have z2 := z.2
  unfold Builtin.Int.intTooBig at z2
  have z3 := of_decide_eq_true z2
  rw [e] at z3
  omega
theorem op_mulX : OpR X (binaryOp .Mult) (rI CMulX fun i j => .int (i * j)) := opI fun _ _ _ _ _ _ _ hc q => PyProof.Rows.mul_int q hc.ok
theorem dps_rep {K : PySem.W.Frag} {S : Hp} {vs : List V} {xs : List D} (n : Nat) (h : Rps K S vs xs) : Rps K S (List.replicate n vs).flatten (List.replicate n xs).flatten := by
  induction n with
  | zero => exact .nil
  | succ n ih =>
    rw [List.replicate_succ, List.replicate_succ, List.flatten_cons, List.flatten_cons]
    exact dps_app h ih
def bopO : BOp → Operator
  | .add => .Add
  | .sub => .Sub
  | .mul => .Mult
  | .fdiv => .FloorDiv
  | .md => .Mod
  | .pow => .Pow
def rBin (K : PySem.W.Frag) (op : BOp) : R2 := fun x y H Q => ∃ S dx dy w, Same S H ∧ RepC K S H x dx ∧ RepC K S H y dy ∧ binD op dx dy = some w ∧ RB K S H w Q
theorem r_bin (op : BOp) : OpR X (binaryOp (bopO op)) (rBin X.K op) := by
  cases op with
  | add =>
    refine OpR.imp (OpR.or op_add (OpR.or op_add_str (OpR.or op_cat op_catA))) fun x y H Q h => ?_
    obtain ⟨S, dx, dy, w, hs, hx, hy, e, k⟩ := h
    cases dx <;> cases dy <;> simp only [binD, Option.some.injEq, reduceCtorEq, Option.ite_none_right_eq_some] at e
    · subst e
      exact .inl ⟨_, _, hx.int, hy.int, k.dat hs (.int _)⟩
    · obtain ⟨e1, e2⟩ := e
      subst e2
      exact .inr (.inl ⟨_, _, hx.str, hy.str, e1, k.dat hs (.str _)⟩)
    · obtain ⟨e1, e2⟩ := e
      subst e2
      obtain ⟨a, vs, q1, q2, q3⟩ := hx.list hs
      obtain ⟨b, ws, q4, q5, q6⟩ := hy.list hs
      exact .inr (.inr (.inl ⟨a, b, vs, ws, q1, q4, q2, q5, by rw [dps_len q3, dps_len q6]; exact e1, fun p hp => k.lst hs (dps_app q3 q6) hp⟩))
    · obtain ⟨e1, e2⟩ := e
      subst e2
      obtain ⟨a, vs, q1, q2, q3⟩ := hx.tuple
      obtain ⟨b, ws, q4, q5, q6⟩ := hy.tuple
      refine .inr (.inr (.inr ⟨a, b, vs, ws, q1, q4, sameT hs q2, sameT hs q5, by rw [dps_len q3, dps_len q6]; exact e1, fun z => ?_, fun z1 z2 => ?_, fun _ _ p hp => k.tup hs (dps_app q3 q6) hp⟩))
      · subst z
        cases q3
        exact k.dat hs (.tup q5 q6)
      · subst z2
        cases q6
        rw [List.append_nil] at k
        exact k.dat hs (.tup q2 q3)
  | sub =>
    refine OpR.imp op_sub fun x y H Q h => ?_
    obtain ⟨S, dx, dy, w, hs, hx, hy, e, k⟩ := h
    cases dx <;> cases dy <;> simp only [binD, Option.some.injEq, reduceCtorEq, Option.ite_none_right_eq_some] at e
    subst e
    exact ⟨_, _, hx.int, hy.int, k.dat hs (.int _)⟩
  | mul =>
    refine OpR.imp (OpR.or op_mulX op_rep) fun x y H Q h => ?_
    obtain ⟨S, dx, dy, w, hs, hx, hy, e, k⟩ := h
    cases dx <;> cases dy <;> simp only [binD, Option.some.injEq, reduceCtorEq, Option.ite_none_right_eq_some] at e
    · obtain ⟨e1, e2⟩ := e
      subst e2
      exact .inl ⟨_, _, hx.int, hy.int, e1, k.dat hs (.int _)⟩
    · obtain ⟨⟨e1, e2, e3⟩, e4⟩ := e
      subst e4
      obtain ⟨a, vs, q1, q2, q3⟩ := hx.list hs
      exact .inr ⟨a, _, vs, q1, hy.int, q2, by omega, by omega, by rw [dps_len q3]; exact e3, fun p hp => k.lst hs (dps_rep _ q3) hp⟩
  | fdiv =>
    refine OpR.imp op_fdivW fun x y H Q h => ?_
    obtain ⟨S, dx, dy, w, hs, hx, hy, e, k⟩ := h
    cases dx <;> cases dy <;> simp only [binD, Option.some.injEq, reduceCtorEq, Option.ite_none_right_eq_some] at e
    obtain ⟨e1, e2⟩ := e
    subst e2
    exact ⟨_, _, hx.int, hy.int, e1, k.dat hs (.int _)⟩
  | md =>
    refine OpR.imp op_mod fun x y H Q h => ?_
    obtain ⟨S, dx, dy, w, hs, hx, hy, e, k⟩ := h
    cases dx <;> cases dy <;> simp only [binD, Option.some.injEq, reduceCtorEq, Option.ite_none_right_eq_some] at e
    obtain ⟨e1, e2⟩ := e
    subst e2
    exact ⟨_, _, hx.int, hy.int, e1, k.dat hs (.int _)⟩
  | pow =>
    refine OpR.imp op_pow fun x y H Q h => ?_
    obtain ⟨S, dx, dy, w, hs, hx, hy, e, k⟩ := h
    cases dx <;> cases dy <;> simp only [binD, Option.some.injEq, reduceCtorEq, Option.ite_none_right_eq_some] at e
    obtain ⟨e1, e2⟩ := e
    subst e2
    exact ⟨_, _, hx.int, hy.int, e1, k.dat hs (.int _)⟩

def copO : COp → CmpOp
  | .lt => .Lt
  | .le => .LtE
  | .gt => .Gt
  | .ge => .GtE
  | .eq => .Eq
  | .ne => .NotEq
  | .mem => .In
  | .nmem => .NotIn
  | .isN => .Is
  | .notN => .IsNot
def rCmp (K : PySem.W.Frag) (op : COp) : R2 := fun x y H Q => ∃ S dx dy c, Same S H ∧ RepC K S H x dx ∧ RepC K S H y dy ∧ cmpD op dx dy = some c ∧ Q (.bl c) H
theorem okD_p {x : D} (h : okD x = true) : x.plain = true ∧ x.depth ≤ 60 := by
  unfold okD at h
  rw [Bool.and_eq_true] at h
  exact ⟨h.1, of_decide_eq_true h.2⟩
theorem reads_of {pins : List (Addr × Obj)} {s : Shared} {σ : St} {H S : Hp} {v : V} {u : Value} {x : D} (I : Inv X pins σ H s) (hs : Same S H) (r : RepC X.K S H v x) (rv : RelV v u) : ∃ as, PySem.Reads s.heap u x as :=
  Dp.reads I x v u (rp_dp (r.dp hs)) rv
/-- comparisons over any data -/
def rEqD (K : PySem.W.Frag) (neg : Bool) : R2 := fun x y H Q => ∃ S dx dy, Same S H ∧ RepC K S H x dx ∧ RepC K S H y dy ∧ okD dx = true ∧ okD dy = true ∧ Q (.bl (if neg then !dx.eqv dy else dx.eqv dy)) H
theorem op_eqA (hu : X.A.units + 64 < cLine) : OpR X (compareOp .Eq) (rEqD X.K false) := by
  intro pins s σ H x y v u Q I rx ry h
  obtain ⟨S, dx, dy, hs, hx, hy, ox, oy, q⟩ := h
  obtain ⟨as, r1⟩ := reads_of I hs hx rx
  obtain ⟨bs, r2⟩ := reads_of I hs hy ry
  have := (okD_p ox).2
  exact SeqAt.eq_plain r1 r2 (okD_p ox).1 (okD_p oy).1 (by omega) ⟨.bl _, H, I, rfl, q⟩
theorem op_neA (hu : X.A.units + 64 < cLine) : OpR X (compareOp .NotEq) (rEqD X.K true) := by
  intro pins s σ H x y v u Q I rx ry h
  obtain ⟨S, dx, dy, hs, hx, hy, ox, oy, q⟩ := h
  obtain ⟨as, r1⟩ := reads_of I hs hx rx
  obtain ⟨bs, r2⟩ := reads_of I hs hy ry
  have := (okD_p ox).2
  exact SeqAt.ne_plain r1 r2 (okD_p ox).1 (okD_p oy).1 (by omega) ⟨.bl _, H, I, rfl, q⟩
def rOrdD (K : PySem.W.Frag) (g : D → D → Bool) : R2 := fun x y H Q => ∃ S dx dy, Same S H ∧ RepC K S H x dx ∧ RepC K S H y dy ∧ cmpOk dx dy = true ∧ Q (.bl (g dx dy)) H
theorem cmpOk_p {x y : D} (h : cmpOk x y = true) : W.alike x y = true ∧ x ≠ .none ∧ x.depth ≤ 60 := by
  unfold cmpOk at h
  simp only [Bool.and_eq_true, decide_eq_true_eq] at h
  obtain ⟨⟨h1, h2⟩, h3⟩ := h
  exact ⟨h1, fun e => by subst e; simp [isNon] at h2, h3⟩
theorem op_ordA {op : CmpOp} {g : D → D → Bool} (hu : X.A.units + 64 < cLine)
    (rule : ∀ (s : Shared) (a b : Value) (da db : D) (as bs : List Addr) (Q : Value → Shared → Prop), PySem.Reads s.heap a da as → PySem.Reads s.heap b db bs → W.alike da db = true → da ≠ .none → X.A.units + min da.depth db.depth < cLine → Q (.bool (g da db)) s → wpAny (model X.prog X.w) X.A (compareOp op a b) Q X.xe s) :
    OpR X (compareOp op) (rOrdD X.K g) := by
  intro pins s σ H x y v u Q I rx ry h
  obtain ⟨S, dx, dy, hs, hx, hy, ok, q⟩ := h
  obtain ⟨as, r1⟩ := reads_of I hs hx rx
  obtain ⟨bs, r2⟩ := reads_of I hs hy ry
  obtain ⟨k1, k2, k3⟩ := cmpOk_p ok
  exact rule s v u dx dy as bs _ r1 r2 k1 k2 (by omega) ⟨.bl _, H, I, rfl, q⟩
end
end Ev

namespace Ev
open PySem L2
section
variable {X : Cx}
theorem op_memA (hu : X.A.units + 66 < cLine) : OpR X (compareOp .In) (fun x y H Q => ∃ S dx dy c, Same S H ∧ RepC X.K S H x dx ∧ RepC X.K S H y dy ∧ memD dx dy = some c ∧ Q (.bl c) H) := by
  intro pins s σ H x y v u Q I rx ry h
  obtain ⟨S, dx, dy, c, hs, hx, hy, e, q⟩ := h
  obtain ⟨as, r1⟩ := reads_of I hs hx rx
  obtain ⟨bs, r2⟩ := reads_of I hs hy ry
  cases dy with
  | list ys =>
    simp only [memD, Option.ite_none_right_eq_some, Bool.and_eq_true, Option.some.injEq] at e
    obtain ⟨⟨e1, e2⟩, e3⟩ := e
    subst e3
    obtain ⟨p1, p2⟩ := okD_p e1
    obtain ⟨p3, p4⟩ := okD_p e2
    simp only [PyData.plain] at p3
    exact SeqAt.in_list_data r2 r1 p3 p1 (by have := Nat.min_le_right (PyData.depthAll ys) dx.depth; omega) ⟨.bl _, H, I, rfl, q⟩
  | tuple ys =>
    simp only [memD, Option.ite_none_right_eq_some, Bool.and_eq_true, Option.some.injEq] at e
    obtain ⟨⟨e1, e2⟩, e3⟩ := e
    subst e3
    obtain ⟨p1, p2⟩ := okD_p e1
    obtain ⟨p3, p4⟩ := okD_p e2
    simp only [PyData.plain] at p3
    exact SeqAt.in_tuple_data r2 r1 p3 p1 (by have := Nat.min_le_right (PyData.depthAll ys) dx.depth; omega) ⟨.bl _, H, I, rfl, q⟩
  | str z =>
    cases dx <;> simp only [memD, reduceCtorEq, Option.some.injEq] at e
    subst e
    exact op_in_str pins s σ H x y v u Q I rx ry ⟨_, _, hx.str, hy.str, q⟩
  | _ => simp [memD] at e
theorem op_nmemA (hu : X.A.units + 66 < cLine) : OpR X (compareOp .NotIn) (fun x y H Q => ∃ S dx dy c, Same S H ∧ RepC X.K S H x dx ∧ RepC X.K S H y dy ∧ memD dx dy = some c ∧ Q (.bl (!c)) H) := by
  intro pins s σ H x y v u Q I rx ry h
  obtain ⟨S, dx, dy, c, hs, hx, hy, e, q⟩ := h
  obtain ⟨as, r1⟩ := reads_of I hs hx rx
  obtain ⟨bs, r2⟩ := reads_of I hs hy ry
  cases dy with
  | list ys =>
    simp only [memD, Option.ite_none_right_eq_some, Bool.and_eq_true, Option.some.injEq] at e
    obtain ⟨⟨e1, e2⟩, e3⟩ := e
    subst e3
    obtain ⟨p1, p2⟩ := okD_p e1
    obtain ⟨p3, p4⟩ := okD_p e2
    simp only [PyData.plain] at p3
    exact SeqAt.notIn_list_data r2 r1 p3 p1 (by have := Nat.min_le_right (PyData.depthAll ys) dx.depth; omega) ⟨.bl _, H, I, rfl, q⟩
  | tuple ys =>
    simp only [memD, Option.ite_none_right_eq_some, Bool.and_eq_true, Option.some.injEq] at e
    obtain ⟨⟨e1, e2⟩, e3⟩ := e
    subst e3
    obtain ⟨p1, p2⟩ := okD_p e1
    obtain ⟨p3, p4⟩ := okD_p e2
    simp only [PyData.plain] at p3
    exact SeqAt.notIn_tuple_data r2 r1 p3 p1 (by have := Nat.min_le_right (PyData.depthAll ys) dx.depth; omega) ⟨.bl _, H, I, rfl, q⟩
  | str z =>
    cases dx <;> simp only [memD, reduceCtorEq, Option.some.injEq] at e
    subst e
    exact op_notin_str pins s σ H x y v u Q I rx ry ⟨_, _, hx.str, hy.str, q⟩
  | _ => simp [memD] at e
theorem isNon_rep {K : PySem.W.Frag} {S H : Hp} {x : V} {dx : D} (h : RepC K S H x dx) : decide (x = .non) = isNon dx := by
  rcases h with h | ⟨a, vs, xs, rfl, rfl, _, _⟩
  · cases h <;> rfl
  · rfl
theorem r_cmp (op : COp) (hu : X.A.units + 66 < cLine) : OpR X (compareOp (copO op)) (rCmp X.K op) := by
  have big : ∀ {op : CmpOp} {g : D → D → Bool} {pI : Int → Int → Bool} (cop : COp)
      (r1 : OpR X (compareOp op) (rI0 fun i j => .bl (pI i j))) (r2 : OpR X (compareOp op) (rOrdD X.K g))
      (hc : ∀ x y, cmpD cop x y = match x, y with | .int i, .int j => some (pI i j) | x, y => if cmpOk x y then some (g x y) else none), OpR X (compareOp op) (rCmp X.K cop) := by
    intro op g pI cop r1 r2 hc
    refine OpR.imp (OpR.or r1 r2) fun x y H Q h => ?_
    obtain ⟨S, dx, dy, c, hs, hx, hy, e, q⟩ := h
    rw [hc] at e
    split at e
    · cases e
      exact .inl ⟨_, _, hx.int, hy.int, q⟩
    · simp only [Option.ite_none_right_eq_some, Option.some.injEq] at e
      obtain ⟨e1, e2⟩ := e
      subst e2
      exact .inr ⟨S, _, _, hs, hx, hy, e1, q⟩
  cases op with
  | lt => exact big .lt op_lt (op_ordA (by omega) fun s a b da db as bs Q h1 h2 h3 h4 h5 h6 => W.lt_data h1 h2 h3 h4 h5 h6) fun x y => by cases x <;> cases y <;> rfl
  | le => exact big .le op_le (op_ordA (by omega) fun s a b da db as bs Q h1 h2 h3 h4 h5 h6 => W.le_data h1 h2 h3 h4 h5 h6) fun x y => by cases x <;> cases y <;> rfl
  | gt => exact big .gt op_gt (op_ordA (by omega) fun s a b da db as bs Q h1 h2 h3 h4 h5 h6 => W.gt_data h1 h2 h3 h4 h5 h6) fun x y => by cases x <;> cases y <;> rfl
  | ge => exact big .ge op_ge (op_ordA (by omega) fun s a b da db as bs Q h1 h2 h3 h4 h5 h6 => W.ge_data h1 h2 h3 h4 h5 h6) fun x y => by cases x <;> cases y <;> rfl
  | eq =>
    refine OpR.imp (op_eqA (by omega)) fun x y H Q h => ?_
    obtain ⟨S, dx, dy, c, hs, hx, hy, e, q⟩ := h
    simp only [cmpD, Option.ite_none_right_eq_some, Bool.and_eq_true, Option.some.injEq] at e
    obtain ⟨⟨e1, e2⟩, e3⟩ := e
    subst e3
    exact ⟨S, dx, dy, hs, hx, hy, e1, e2, q⟩
  | ne =>
    refine OpR.imp (op_neA (by omega)) fun x y H Q h => ?_
    obtain ⟨S, dx, dy, c, hs, hx, hy, e, q⟩ := h
    simp only [cmpD, Option.ite_none_right_eq_some, Bool.and_eq_true, Option.some.injEq] at e
    obtain ⟨⟨e1, e2⟩, e3⟩ := e
    subst e3
    exact ⟨S, dx, dy, hs, hx, hy, e1, e2, q⟩
  | mem => exact OpR.imp (op_memA hu) fun x y H Q h => h
  | nmem =>
    refine OpR.imp (op_nmemA hu) fun x y H Q h => ?_
    obtain ⟨S, dx, dy, c, hs, hx, hy, e, q⟩ := h
    simp only [cmpD, Option.map_eq_some_iff] at e
    obtain ⟨k, e1, e2⟩ := e
    subst e2
    exact ⟨S, dx, dy, k, hs, hx, hy, e1, q⟩
  | isN =>
    refine OpR.imp op_isN fun x y H Q h => ?_
    obtain ⟨S, dx, dy, c, hs, hx, hy, e, q⟩ := h
    cases dy <;> simp only [cmpD, reduceCtorEq, Option.some.injEq] at e
    subst e
    exact ⟨hy.none, by rw [isNon_rep hx]; exact q⟩
  | notN =>
    refine OpR.imp op_notN fun x y H Q h => ?_
    obtain ⟨S, dx, dy, c, hs, hx, hy, e, q⟩ := h
    cases dy <;> simp only [cmpD, reduceCtorEq, Option.some.injEq] at e
    subst e
    exact ⟨hy.none, by rw [isNon_rep hx]; exact q⟩
/-- truth -/
theorem tru_rep {K : PySem.W.Frag} {S H : Hp} {x : V} {dx : D} {k : Bool} (hs : Same S H) (h : RepC K S H x dx) (e : truD dx = some k) : TruV K x H k := by
  cases dx with
  | none => rw [h.none]; simpa [truD, TruV] using e.symm
  | bool b => rw [h.bool]; simpa [truD, TruV] using e.symm
  | int i => rw [h.int]; simpa [truD, TruV] using e.symm
  | str z =>
    rw [h.str]
    simp only [truD, Option.ite_none_right_eq_some, Option.some.injEq] at e
    exact ⟨e.1, e.2.symm⟩
  | list xs =>
    obtain ⟨a, vs, rfl, h1, h2⟩ := h.list hs
    have el := dps_len h2
    have e : (!xs.isEmpty) = k := by simpa [truD] using e
    refine .inl ⟨vs, SqL.of h1, ?_⟩
    rw [← e]
    cases vs <;> cases xs <;> simp_all
  | tuple xs =>
    obtain ⟨a, vs, rfl, h1, h2⟩ := h.tuple
    have el := dps_len h2
    have e : (!xs.isEmpty) = k := by simpa [truD] using e
    refine .inr (.inl ⟨vs, sameT hs h1, ?_⟩)
    rw [← e]
    cases vs <;> cases xs <;> simp_all
  | dict _ => simp [truD] at e
/-- subscripts -/
theorem atI_rps {K : PySem.W.Frag} {S : Hp} {vs : List V} {xs : List D} {i : Int} {x : D} (h : Rps K S vs xs) (e : atI xs i = some x) : ∃ v, atI vs i = some v ∧ Rp K S v x := by
  unfold atI at e ⊢
  rw [dps_len h]
  cases q : ixN xs.length i with
  | none => rw [q] at e; cases e
  | some j =>
    rw [q] at e
    obtain ⟨v, h1, h2⟩ := dps_at h (show xs[j]? = some x from e)
    exact ⟨v, h1, h2⟩
def rIdx (K : PySem.W.Frag) : R2 := fun x y H Q => ∃ S dx dy z, Same S H ∧ RepC K S H x dx ∧ RepC K S H y dy ∧ idxD dx dy = some z ∧ RB K S H (.d z) Q
theorem IxR.imp {r r' : R2} (h : IxR X r) (k : ∀ x y H Q, r' x y H Q → r x y H Q) : IxR X r' :=
  fun v sl pins s σ H x y u w Q I rx ry q => h v sl pins s σ H x y u w Q I rx ry (k x y H Q q)
theorem r_idx : IxR X (rIdx X.K) := by
  refine IxR.imp ix_seq fun x y H Q h => ?_
  obtain ⟨S, dx, dy, z, hs, hx, hy, e, k⟩ := h
  cases dx <;> cases dy <;> simp only [idxD, reduceCtorEq] at e
  · obtain ⟨e1, e2⟩ := (Option.ite_none_right_eq_some ..).mp e
    obtain ⟨c, e3, e4⟩ := Option.map_eq_some_iff.mp e2
    subst e4
    exact .inr (.inr ⟨_, _, c, hx.str, hy.int, e1, e3, k.dat hs (.str _)⟩)
  · obtain ⟨a, vs, h0, h1, h2⟩ := hx.list hs
    obtain ⟨v, q1, q2⟩ := atI_rps h2 e
    exact .inl ⟨a, vs, _, v, h0, hy.int, SqL.of h1, q1, k.dat hs q2⟩
  · obtain ⟨a, vs, h0, h1, h2⟩ := hx.tuple
    obtain ⟨v, q1, q2⟩ := atI_rps h2 e
    exact .inr (.inl ⟨a, vs, _, v, h0, hy.int, sameT hs h1, q1, k.dat hs q2⟩)
def rSli (K : PySem.W.Frag) : V → Option Int → Option Int → Hp → VK → Prop := fun x lo hi H Q => ∃ S dx w, Same S H ∧ RepC K S H x dx ∧ sliD dx lo hi = some w ∧ RB K S H w Q
theorem SlR.imp {r r' : V → Option Int → Option Int → Hp → VK → Prop} (h : SlR X r) (k : ∀ x lo hi H Q, r' x lo hi H Q → r x lo hi H Q) : SlR X r' :=
  fun pins s σ H x v vl vu lo hi sl Q I rx hs pl pu q => h pins s σ H x v vl vu lo hi sl Q I rx hs pl pu (k x lo hi H Q q)
theorem sIx_whole {n : Nat} {lo hi : Option Int} {α : Type} {xs : List α} (hn : xs.length = n) (h : HT.sIx n 0 lo = 0 ∧ HT.sIx n n hi = n) : cut xs lo hi = xs := by
  unfold cut
  rw [hn, h.1, h.2, List.drop_zero, Nat.sub_zero, ← hn, List.take_length]
theorem r_sli : SlR X (rSli X.K) := by
  refine SlR.imp (SlR.or sl_list (SlR.or sl_tupA sl_str)) fun x lo hi H Q h => ?_
  obtain ⟨S, dx, w, hs, hx, e, k⟩ := h
  cases dx <;> simp only [sliD, reduceCtorEq, Option.some.injEq, Option.ite_none_right_eq_some] at e
  · obtain ⟨e1, e⟩ := e
    subst e
    exact .inr (.inr ⟨_, hx.str, e1, k.dat hs (.str _)⟩)
  · subst e
    obtain ⟨a, vs, h0, h1, h2⟩ := hx.list hs
    exact .inl ⟨a, vs, h0, SqL.of h1, fun p hp => k.lst hs (dps_cut lo hi h2) hp⟩
  · subst e
    obtain ⟨a, vs, h0, h1, h2⟩ := hx.tuple
    refine .inr (.inl ?_)
    refine ⟨a, vs, h0, sameT hs h1, fun z => ?_, fun _ p hp => k.tup hs (dps_cut lo hi h2) hp⟩
    rw [sIx_whole (dps_len h2).symm z] at k
    rw [h0] at hx
    exact k.dat hs (.tup h1 h2)

/-! ### built-in functions -/
inductive RepCs (K : PySem.W.Frag) (S H : Hp) : List V → List D → Prop
  | nil : RepCs K S H [] []
  | cons {v : V} {x : D} {vs : List V} {xs : List D} : RepC K S H v x → RepCs K S H vs xs → RepCs K S H (v :: vs) (x :: xs)
theorem RepCs.one {K : PySem.W.Frag} {S H : Hp} {vs : List V} {x : D} (h : RepCs K S H vs [x]) : ∃ v, vs = [v] ∧ RepC K S H v x := by
  cases h with
  | cons h t => cases t; exact ⟨_, rfl, h⟩
theorem RepCs.two {K : PySem.W.Frag} {S H : Hp} {vs : List V} {x y : D} (h : RepCs K S H vs [x, y]) : ∃ v w, vs = [v, w] ∧ RepC K S H v x ∧ RepC K S H w y := by
  cases h with
  | cons h t =>
    obtain ⟨w, rfl, k⟩ := t.one
    exact ⟨_, _, rfl, h, k⟩
def rBi (K : PySem.W.Frag) (b : Bi) : List V → Hp → VK → Prop := fun vs H Q => ∃ S xs w, Same S H ∧ RepCs K S H vs xs ∧ biD b xs = some w ∧ RB K S H w Q
theorem CallR.imp {f : Value} {r r' : List V → Hp → VK → Prop} (h : CallR X f r) (k : ∀ vs H Q, r' vs H Q → r vs H Q) : CallR X f r' :=
  fun pins s σ H xs us Q I rs q => h pins s σ H xs us Q I rs (k xs H Q q)
theorem ints_rps {K : PySem.W.Frag} {S : Hp} : ∀ {vs : List V} {xs : List D} {ns : List Int}, Rps K S vs xs → intsOf xs = some ns → vs = ns.map V.int
  | _, _, _, .nil, e => by cases e; rfl
  | _, _, _, .cons h a, e => by
    cases h with
    | int i =>
      obtain ⟨m, e1, e2⟩ := Option.map_eq_some_iff.mp (show (intsOf _).map (i :: ·) = some _ from e)
      subst e2
      rw [ints_rps a e1]; rfl
    | _ => cases e
theorem bools_rps {K : PySem.W.Frag} {S : Hp} : ∀ {vs : List V} {xs : List D} {ns : List Bool}, Rps K S vs xs → boolsOf xs = some ns → vs = ns.map V.bl
  | _, _, _, .nil, e => by cases e; rfl
  | _, _, _, .cons h a, e => by
    cases h with
    | bl i =>
      obtain ⟨m, e1, e2⟩ := Option.map_eq_some_iff.mp (show (boolsOf _).map (i :: ·) = some _ from e)
      subst e2
      rw [bools_rps a e1]; rfl
    | _ => cases e
theorem alikeB_p {xs : List D} (h : alikeB xs = true) : (∀ x ∈ xs, ∀ y ∈ xs, W.alike x y = true) ∧ ∀ x ∈ xs, x.plain = true ∧ x.depth ≤ 60 := by
  unfold alikeB at h
  rw [List.all_eq_true] at h
  refine ⟨fun x hx y hy => ?_, fun x hx => ?_⟩
  · have := h x hx
    rw [Bool.and_eq_true, List.all_eq_true] at this
    exact this.1 y hy
  · have := h x hx
    rw [Bool.and_eq_true] at this
    exact okD_p this.2
theorem depthAll_le {n : Nat} : ∀ {xs : List D}, (∀ x ∈ xs, x.depth ≤ n) → PyData.depthAll xs ≤ n
  | [], _ => by simp [PyData.depthAll]
  | x :: xs, h => by
    rw [PyData.depthAll]
    exact Nat.max_le.mpr ⟨h x (by simp), depthAll_le fun y hy => h y (by simp [hy])⟩
theorem isNon_p {x : D} (h : (!isNon x) = true) : x ≠ .none := fun e => by subst e; simp [isNon] at h
theorem getD_of {xs : List D} {i : Nat} {v : D} (h : xs[i]? = some v) : v ∈ xs := List.mem_of_getElem? h
theorem best_run {K : PySem.W.Frag} {pins : List (Addr × Obj)} {s : Shared} {σ : St} {H S : Hp} {a : Addr} {vs : List V} {xs : List D} {best : D} {Q : VK} {b : String} (hK : X.K = K) (I : Inv X pins σ H s) (hs : Same S H) (h1 : H a = some (.lst vs)) (h2 : Rps X.K S vs xs) (hb : alikeB xs = true)
    (k : RB X.K S H (.d best) Q)
    (rule : ∀ (vs : Array Value) (as : List Addr), s.heap.IsList a vs → PySem.ReadsAll s.heap vs.toList xs as → (∀ (P : Value → Shared → Prop), (∀ (i : Nat) v h' tk bs, vs[i]? = some v → PySem.Reads h' v best bs → (∀ b o, s.heap.get? b = some o → h'.get? b = some o) → P v { s with heap := h', toks := tk }) → wpAny (model X.prog X.w) X.A (call (.builtin b) [.ref a]) P X.xe s)) :
    wpAny (model X.prog X.w) X.A (call (.builtin b) [.ref a]) (EP X pins σ Q) X.xe s := by
  obtain ⟨its, rv, pl, hz⟩ := I.list (SqL.of h1)
  obtain ⟨as, hr⟩ := Dp.readsAll I xs vs its (rps_dps (dpsMono hs h2)) rv
  refine rule its.toArray as pl.isList hr _ fun i v h' tk bs hi rb kp => ?_
  have hi' : its[i]? = some v := by simpa using hi
  have hil : i < its.length := (List.getElem?_eq_some_iff.mp hi').1
  have hvl : i < vs.length := by rw [rv.length]; exact hil
  have hvi : vs[i]? = some vs[i] := List.getElem?_eq_getElem hvl
  obtain ⟨u, q1, q2⟩ := rv.get hvi
  rw [hi'] at q1; cases q1
  obtain ⟨x, q3, q4⟩ := dps_get h2 hvi
  obtain ⟨cs, rx⟩ := Dp.reads I x _ v (rp_dp (dpMono hs q4)) q2
  have hp := ((alikeB_p hb).2 x (getD_of q3)).1
  have e : x = best := SeqAt.plain_unique x best v cs bs hp (PyProof.Rows.Reads.keeps kp rx) rb
  subst e
  exact ⟨_, H, I.kept kp, q2, k.dat hs q4⟩
end
end Ev

namespace Ev
open PySem L2
section
variable {X : Cx}
def biV : Bi → Value
  | .len => .builtin "len"
  | .abs => .builtin "abs"
  | .int => .type "int"
  | .min1 => .builtin "min"
  | .min2 => .builtin "min"
  | .max1 => .builtin "max"
  | .max2 => .builtin "max"
  | .sum => .builtin "sum"
  | .sorted => .builtin "sorted"
  | .list => .type "list"
  | .tuple => .type "tuple"
  | .any => .builtin "any"
  | .all => .builtin "all"
  | .repr => .builtin "repr"
theorem vals_of_each {K : PySem.W.Frag} {S : Hp} : ∀ {us : List Value} {ds : List D}, W.EachIs (fun (u : Value) (d : D) => ∃ v, RelV v u ∧ Rp K S v d) us ds → ∃ vs, Vals vs us ∧ Rps K S vs ds
  | _, _, .nil => ⟨[], .nil, .nil⟩
  | _, _, .cons ⟨v, h1, h2⟩ t => by
    obtain ⟨vs, k1, k2⟩ := vals_of_each t
    exact ⟨v :: vs, .cons h1 k1, .cons h2 k2⟩
theorem each_of_vals {K : PySem.W.Frag} {S : Hp} : ∀ {vs : List V} {us : List Value} {ds : List D}, Vals vs us → Rps K S vs ds → W.EachIs (fun (u : Value) (d : D) => ∃ v, RelV v u ∧ Rp K S v d) us ds
  | _, _, _, .nil, .nil => .nil
  | _, _, _, .cons h1 t1, .cons h2 t2 => .cons ⟨_, h1, h2⟩ (each_of_vals t1 t2)
theorem isTup1_p {x : D} (h : isTup1 x = true) : ∃ y r, x = .tuple (y :: r) := by
  cases x with
  | tuple xs =>
    cases xs with
    | nil => simp [isTup1] at h
    | cons y r => exact ⟨y, r, rfl⟩
  | _ => simp [isTup1] at h
theorem isOther_p {x : D} (h : isOther x = true) : x ≠ .none ∧ ∀ xs, x ≠ .tuple xs := by
  cases x <;> simp [isOther] at h ⊢
theorem r_sorted (hu : X.A.units + 66 < cLine) : CallR X (.builtin "sorted") (rBi X.K .sorted) := by
  intro pins s σ H xs us Q I rs h
  obtain ⟨S, ds, w, hs, hx, e, k⟩ := h
  change biSorted ds = some w at e; unfold biSorted at e
  split at e
  · rename_i ds
    obtain ⟨v, rfl, hv⟩ := hx.one
    obtain ⟨e1, e2⟩ := (Option.ite_none_right_eq_some ..).mp e
    cases e2
    obtain ⟨a, vs, rfl, h1, h2⟩ := hv.list hs
    rw [Vals.ref1 rs]
    obtain ⟨its, rv, pl, hz⟩ := I.list (SqL.of h1)
    unfold sortB at e1
    rw [Bool.and_eq_true, Bool.or_eq_true, List.all_eq_true, List.all_eq_true] at e1
    obtain ⟨b1, b2⟩ := e1
    obtain ⟨b3, b4⟩ := alikeB_p b1
    have er : W.EachIs (fun u (d : D) => ∃ as, PySem.Reads s.heap u (id d) as) its ds := by
      have := each_of_vals rv (dpsMono hs h2)
      exact this.mono fun u d ⟨v, q1, q2⟩ => Dp.reads I d v u (rp_dp q2) q1
    refine W.sorted_data (enc := id) pl.isList (each_of_vals rv h2) er (by rw [List.map_id]; exact fun d hd d' hd' => b3 d hd d' hd') (by
      rw [List.map_id]
      rcases b2 with b2 | b2
      · exact .inl fun d hd => isTup1_p (b2 d hd)
      · exact .inr fun d hd => isOther_p (b2 d hd)) (by rw [← dps_len h2]; exact hz) (fun d hd => by have := (b4 d hd).2; show X.A.units + 2 + d.depth < cLine; omega) fun out ho eo => ?_
    obtain ⟨ys, k1, k2⟩ := vals_of_each eo
    obtain ⟨ep, he'⟩ := PyProof.Rows.sortedAll_at s.heap its out.toArray
    have hf : H (s.heap.objs.size + 1) = none := I.hok.fresh (Nat.le_succ _)
    exact ⟨.ref _, _, I.laid (t' := s.toks) (fun _ _ => PyProof.Rows.sortedAll_old) (Nat.le_succ _) (show ObjOk X.prog X.w _ _ _ (.lst ys) from ⟨by rw [k1.length, ho, ← dps_len h2]; exact hz, out, ep, k1, he'⟩), rfl, k.lst hs k2 hf⟩
  · cases e
theorem minB_p {xs : List D} (h : minB xs = true) : alikeB xs = true ∧ W.AlikeAll xs := by
  unfold minB at h
  rw [Bool.and_eq_true, List.all_eq_true] at h
  exact ⟨h.1, (alikeB_p h.1).1, fun x hx => isNon_p (h.2 x hx)⟩
theorem r_min1 (hc : X.calm = true) (hu : X.A.units + 66 < cLine) : CallR X (.builtin "min") (rBi X.K .min1) := by
  intro pins s σ H xs us Q I rs h
  obtain ⟨S, ds, w, hs, hx, e, k⟩ := h
  change biMin1 ds = some w at e; unfold biMin1 at e
  split at e
  · rename_i x ds
    obtain ⟨v, rfl, hv⟩ := hx.one
    obtain ⟨e1, e2⟩ := (Option.ite_none_right_eq_some ..).mp e
    cases e2
    obtain ⟨a, vs, rfl, h1, h2⟩ := hv.list hs
    rw [Vals.ref1 rs]
    obtain ⟨m1, m2⟩ := minB_p e1
    have dl := depthAll_le fun y hy => ((alikeB_p m1).2 y hy).2
    exact best_run rfl I hs h1 h2 m1 k fun vs as hl hr P hP => W.min_list_data (I.ok.hd hc) hl hr m2 (by omega) hP
  · cases e
theorem r_max1 (hc : X.calm = true) (hu : X.A.units + 66 < cLine) : CallR X (.builtin "max") (rBi X.K .max1) := by
  intro pins s σ H xs us Q I rs h
  obtain ⟨S, ds, w, hs, hx, e, k⟩ := h
  change biMax1 ds = some w at e; unfold biMax1 at e
  split at e
  · rename_i x ds
    obtain ⟨v, rfl, hv⟩ := hx.one
    obtain ⟨e1, e2⟩ := (Option.ite_none_right_eq_some ..).mp e
    cases e2
    obtain ⟨a, vs, rfl, h1, h2⟩ := hv.list hs
    rw [Vals.ref1 rs]
    obtain ⟨m1, m2⟩ := minB_p e1
    have dl := depthAll_le fun y hy => ((alikeB_p m1).2 y hy).2
    exact best_run rfl I hs h1 h2 m1 k fun vs as hl hr P hP => W.max_list_data (I.ok.hd hc) hl hr m2 (by omega) hP
  · cases e
theorem shB_p {x : D} (h : shB x = true) : x.showable = true ∧ x.hasDict = false ∧ x.depth ≤ 60 ∧ x.shown.length ≤ sizeLine := by
  unfold shB at h
  simpa [Bool.and_eq_true, and_assoc] using h
theorem r_repr (hg : X.A.guards = some []) (hu : X.A.units + 66 < cLine) : CallR X (.builtin "repr") (rBi X.K .repr) := by
  intro pins s σ H xs us Q I rs h
  obtain ⟨S, ds, w, hs, hx, e, k⟩ := h
  have one : ∀ (x : D) (v : V) (a : Addr), v = .ref a → RepC X.K S H v x → shB x = true → RB X.K S H (.d (.str x.shown)) Q → wpAny (model X.prog X.w) X.A (call (.builtin "repr") [.ref a]) (EP X pins σ Q) X.xe s := fun x v a hv r b k => by
    subst hv
    obtain ⟨b1, b2, b3, b4⟩ := shB_p b
    obtain ⟨as, rd⟩ := reads_of I hs r (show RelV (V.ref a) (Value.ref a) from rfl)
    exact repr_of_reads' rd b1 (PyData.noDict_hsm b2) hg (by omega) (fun _ _ q => q) (fun h' u tk kp => ⟨.str x.shown, H, I.kept kp, ⟨_, rfl⟩, k.dat hs (.str _)⟩) b4
  change biRepr ds = some w at e; unfold biRepr at e
  split at e
  · rename_i x
    obtain ⟨v, rfl, hv⟩ := hx.one
    obtain ⟨e1, e2⟩ := (Option.ite_none_right_eq_some ..).mp e
    cases e2
    obtain ⟨u, rfl, rv⟩ := Vals.one rs
    cases x with
    | none =>
      have hv := hv.none
      subst hv
      cases (show u = Value.none from rv)
      exact PySem.P.repr_of_none ⟨.str _, H, I.tok _, ⟨_, rfl⟩, k.dat hs (.str _)⟩
    | bool b =>
      have hv := hv.bool
      subst hv
      cases (show u = Value.bool b from rv)
      exact PySem.P.repr_of_bool ⟨.str _, H, I.tok _, ⟨_, rfl⟩, k.dat hs (.str _)⟩
    | int i =>
      have hv := hv.int
      subst hv
      obtain ⟨t, rfl⟩ := rv
      have hz : i.natAbs.log2 < 1920 := of_decide_eq_true (shB_p e1).1
      exact PySem.P.repr_of_int hz ⟨.str _, H, I.tok _, ⟨_, rfl⟩, k.dat hs (.str _)⟩
    | str z =>
      have hv := hv.str
      subst hv
      obtain ⟨t, rfl⟩ := rv
      exact PySem.P.repr_of_str ⟨.str _, H, I.tok _, ⟨_, rfl⟩, k.dat hs (.str _)⟩ (shB_p e1).2.2.2
    | list xs =>
      obtain ⟨a, vs, rfl, h1, h2⟩ := hv.list hs
      cases (show u = Value.ref a from rv)
      exact one _ _ a rfl hv e1 k
    | tuple xs =>
      obtain ⟨a, vs, rfl, h1, h2⟩ := hv.tuple
      cases (show u = Value.ref a from rv)
      exact one _ _ a rfl hv e1 k
    | dict kvs => exact absurd (shB_p e1).2.1 (by simp [PyData.hasDict])
  · cases e
theorem r_bi (b : Bi) (hg : b = .repr → X.A.guards = some []) (hc : X.calm = true) (hu : X.A.units + 66 < cLine) : CallR X (biV b) (rBi X.K b) := by
  cases b with
  | sorted => exact r_sorted hu
  | repr => exact r_repr (hg rfl) hu
  | min1 => exact r_min1 hc hu
  | max1 => exact r_max1 hc hu
  | len =>
    refine CallR.imp (CallR.or call_len_seq call_len_str) fun vs H Q h => ?_
    obtain ⟨S, ds, w, hs, hx, e, k⟩ := h
    change biLen ds = some w at e; unfold biLen at e
    split at e
    · cases e
      obtain ⟨v, rfl, hv⟩ := hx.one
      obtain ⟨a, vs, rfl, h1, h2⟩ := hv.list hs
      exact .inl ⟨a, vs, rfl, .inl (SqL.of h1), by rw [dps_len h2]; exact k.dat hs (.int _)⟩
    · cases e
      obtain ⟨v, rfl, hv⟩ := hx.one
      obtain ⟨a, vs, rfl, h1, h2⟩ := hv.tuple
      exact .inl ⟨a, vs, rfl, .inr (sameT hs h1), by rw [dps_len h2]; exact k.dat hs (.int _)⟩
    · obtain ⟨e1, e2⟩ := (Option.ite_none_right_eq_some ..).mp e
      cases e2
      obtain ⟨v, rfl, hv⟩ := hx.one
      exact .inr ⟨_, by rw [hv.str], e1, k.dat hs (.int _)⟩
    · cases e
  | abs =>
    refine CallR.imp call_abs fun vs H Q h => ?_
    obtain ⟨S, ds, w, hs, hx, e, k⟩ := h
    change biAbs ds = some w at e; unfold biAbs at e
    split at e
    · cases e
      obtain ⟨v, rfl, hv⟩ := hx.one
      exact ⟨_, by rw [hv.int], k.dat hs (.int _)⟩
    · cases e
  | int =>
    refine CallR.imp call_int1 fun vs H Q h => ?_
    obtain ⟨S, ds, w, hs, hx, e, k⟩ := h
    change biInt ds = some w at e; unfold biInt at e
    split at e
    · cases e
      obtain ⟨v, rfl, hv⟩ := hx.one
      exact .inl ⟨_, by rw [hv.int], k.dat hs (.int _)⟩
    · cases e
      obtain ⟨v, rfl, hv⟩ := hx.one
      exact .inr ⟨_, by rw [hv.bool], k.dat hs (.int _)⟩
    · cases e
  | min2 =>
    refine CallR.imp (call_min2 hc) fun vs H Q h => ?_
    obtain ⟨S, ds, w, hs, hx, e, k⟩ := h
    change biMin2 ds = some w at e; unfold biMin2 at e
    split at e
    · cases e
      obtain ⟨v, w, rfl, hv, hw⟩ := hx.two
      exact ⟨_, _, by rw [hv.int, hw.int], k.dat hs (.int _)⟩
    · cases e
  | max2 =>
    refine CallR.imp (call_max2 hc) fun vs H Q h => ?_
    obtain ⟨S, ds, w, hs, hx, e, k⟩ := h
    change biMax2 ds = some w at e; unfold biMax2 at e
    split at e
    · cases e
      obtain ⟨v, w, rfl, hv, hw⟩ := hx.two
      exact ⟨_, _, by rw [hv.int, hw.int], k.dat hs (.int _)⟩
    · cases e
  | sum =>
    refine CallR.imp (cr_sum hc) fun vs H Q h => ?_
    obtain ⟨S, ds, w, hs, hx, e, k⟩ := h
    change biSum ds = some w at e; unfold biSum at e
    split at e
    · obtain ⟨ns, e1, e2⟩ := Option.map_eq_some_iff.mp e
      subst e2
      obtain ⟨v, rfl, hv⟩ := hx.one
      obtain ⟨a, vs, rfl, h1, h2⟩ := hv.list hs
      exact ⟨a, ns, rfl, by rw [← ints_rps h2 e1]; exact SqL.of h1, k.dat hs (.int _)⟩
    · cases e
  | list =>
    refine CallR.imp call_list_of fun vs H Q h => ?_
    obtain ⟨S, ds, w, hs, hx, e, k⟩ := h
    change biList ds = some w at e; unfold biList at e
    split at e
    · cases e
      obtain ⟨v, rfl, hv⟩ := hx.one
      obtain ⟨a, vs, rfl, h1, h2⟩ := hv.list hs
      exact ⟨a, vs, rfl, .inl (SqL.of h1), fun p hp => k.lst hs h2 hp⟩
    · cases e
      obtain ⟨v, rfl, hv⟩ := hx.one
      obtain ⟨a, vs, rfl, h1, h2⟩ := hv.tuple
      exact ⟨a, vs, rfl, .inr (sameT hs h1), fun p hp => k.lst hs h2 hp⟩
    · cases e
  | tuple =>
    refine CallR.imp call_tuple_of fun vs H Q h => ?_
    obtain ⟨S, ds, w, hs, hx, e, k⟩ := h
    change biTuple ds = some w at e; unfold biTuple at e
    split at e
    · cases e
      obtain ⟨v, rfl, hv⟩ := hx.one
      obtain ⟨a, vs, rfl, h1, h2⟩ := hv.list hs
      exact ⟨a, vs, rfl, .inl ⟨SqL.of h1, fun p hp => k.tup hs h2 hp⟩⟩
    · cases e
      obtain ⟨v, rfl, hv⟩ := hx.one
      obtain ⟨a, vs, rfl, h1, h2⟩ := hv.tuple
      exact ⟨a, vs, rfl, .inr ⟨sameT hs h1, k.dat hs (.tup h1 h2)⟩⟩
    · cases e
  | any =>
    refine CallR.imp (cr_any hc) fun vs H Q h => ?_
    obtain ⟨S, ds, w, hs, hx, e, k⟩ := h
    change biAny ds = some w at e; unfold biAny at e
    split at e
    · obtain ⟨ns, e1, e2⟩ := Option.map_eq_some_iff.mp e
      subst e2
      obtain ⟨v, rfl, hv⟩ := hx.one
      obtain ⟨a, vs, rfl, h1, h2⟩ := hv.list hs
      exact ⟨a, ns, rfl, by rw [← bools_rps h2 e1]; exact SqL.of h1, k.dat hs (.bl _)⟩
    · cases e
  | all =>
    refine CallR.imp (cr_all hc) fun vs H Q h => ?_
    obtain ⟨S, ds, w, hs, hx, e, k⟩ := h
    change biAll ds = some w at e; unfold biAll at e
    split at e
    · obtain ⟨ns, e1, e2⟩ := Option.map_eq_some_iff.mp e
      subst e2
      obtain ⟨v, rfl, hv⟩ := hx.one
      obtain ⟨a, vs, rfl, h1, h2⟩ := hv.list hs
      exact ⟨a, ns, rfl, by rw [← bools_rps h2 e1]; exact SqL.of h1, k.dat hs (.bl _)⟩
    · cases e
end
end Ev

namespace Ev
open PySem L2
variable {K : PySem.W.Frag} {S S' S1 S2 Sc H H' H1 H2 H0 S0 : Hp} {σ : St} {env env' env0 env1 env2 : Env}

/-! ### several values -/
def TRoot (H : Hp) : List V → List Rv → Addr → Prop
  | v :: vs, .v w :: rs, b => Root H v w b ∨ TRoot H vs rs b
  | _ :: vs, .ali _ :: rs, b => TRoot H vs rs b
  | _, _, _ => False
inductive RepRs (K : PySem.W.Frag) (S H : Hp) (σ : St) (env : Env) (H0 : Hp) : List V → List Rv → Prop
  | nil : RepRs K S H σ env H0 [] []
  | cons {v : V} {r : Rv} {vs : List V} {rs : List Rv} : RepR K S H σ env v r → (∀ w, r = .v w → ∀ b, Root H v w b → H0 b = none ∧ ¬ TRoot H vs rs b) → RepRs K S H σ env H0 vs rs → RepRs K S H σ env H0 (v :: vs) (r :: rs)
theorem RepRs.len {vs : List V} {rs : List Rv} (h : RepRs K S H σ env H0 vs rs) : vs.length = rs.length := by
  induction h with
  | nil => rfl
  | cons _ _ _ ih => simp [ih]
theorem RepRs.get {vs : List V} {rs : List Rv} (h : RepRs K S H σ env H0 vs rs) : ∀ {j : Nat} {v : V} {r : Rv}, vs[j]? = some v → rs[j]? = some r → RepR K S H σ env v r ∧ ∀ w, r = .v w → ∀ b, Root H v w b → H0 b = none := by
  induction h with
  | nil => intro j v r h1; simp at h1
  | cons h1 h2 _ ih =>
    intro j v r g1 g2
    cases j with
    | zero =>
      simp at g1 g2
      subst g1 g2
      exact ⟨h1, fun w e b hb => (h2 w e b hb).1⟩
    | succ j => exact ih (by simpa using g1) (by simpa using g2)
theorem TRoot.get {vs : List V} {rs : List Rv} {b : Addr} : ∀ {j : Nat} {v : V} {w : Val}, vs[j]? = some v → rs[j]? = some (.v w) → Root H v w b → TRoot H vs rs b := by
  induction vs generalizing rs with
  | nil => intro j v w h; simp at h
  | cons v0 vs ih =>
    intro j v w h1 h2 h3
    cases rs with
    | nil => simp at h2
    | cons r rs =>
      cases j with
      | zero =>
        simp at h1 h2
        subst h1 h2
        exact .inl h3
      | succ j =>
        have := ih (rs := rs) (j := j) (by simpa using h1) (by simpa using h2) h3
        cases r with
        | v w => exact .inr this
        | ali i => exact this
theorem RepRs.sep {vs : List V} {rs : List Rv} (h : RepRs K S H σ env H0 vs rs) : ∀ {i j : Nat} {v v' : V} {w w' : Val} {b : Addr}, i < j → vs[i]? = some v → rs[i]? = some (.v w) → vs[j]? = some v' → rs[j]? = some (.v w') → Root H v w b → Root H v' w' b → False := by
  induction h with
  | nil => intro i j v v' w w' b _ h1; simp at h1
  | cons h1 h2 _ ih =>
    intro i j v v' w w' b hij g1 g2 g3 g4 g5 g6
    cases j with
    | zero => omega
    | succ j =>
      cases i with
      | zero =>
        simp at g1 g2
        subst g1 g2
        exact (h2 w rfl b g5).2 (TRoot.get (by simpa using g3) (by simpa using g4) g6)
      | succ i => exact ih (i := i) (j := j) (by omega) (by simpa using g1) (by simpa using g2) (by simpa using g3) (by simpa using g4) g5 g6
structure Psl (K : PySem.W.Frag) (S H : Hp) (σ : St) (env : Env) (S' H' : Hp) (env' : Env) (vs : List V) (rs : List Rv) : Prop extends Pst K S H σ env S' H' env' where
  res : RepRs K S' H' σ env' H vs rs
theorem Psl.nil (e : RepEnv K S H σ env) : Psl K S H σ env S H env [] [] := ⟨Pst.refl e, .nil⟩
theorem Psl.cons {v : V} {r : Rv} {vs : List V} {rs : List Rv} (a : Psv K S H σ env S1 H1 env1 v r) (b : Psl K S1 H1 σ env1 S2 H2 env2 vs rs) : Psl K S H σ env S2 H2 env2 (v :: vs) (r :: rs) := by
  refine ⟨a.toPst.trans b.toPst, .cons (a.res.step b.toPst) (fun w e c hc => ?_) ?_⟩
  · subst e
    have hc1 : Root H1 v w c := (Root_new a.res b.toPst c).mp hc
    refine ⟨a.new w rfl c hc1, fun ht => ?_⟩
    obtain ⟨_, o, ho⟩ := root_free a.res.1 hc1
    have : ∀ {vs : List V} {rs : List Rv}, RepRs K S2 H2 σ env2 H1 vs rs → TRoot H2 vs rs c → H1 c = none := by
      intro vs rs h
      induction h with
      | nil => intro z; exact z.elim
      | @cons v r vs rs h1 h2 _ ih =>
        intro z
        cases r with
        | v w => exact z.elim (fun z => (h2 w rfl c z).1) ih
        | ali i => exact ih z
    rw [this b.res ht] at ho; cases ho
  · have : ∀ {vs : List V} {rs : List Rv}, RepRs K S2 H2 σ env2 H1 vs rs → RepRs K S2 H2 σ env2 H vs rs := by
      intro vs rs h
      induction h with
      | nil => exact .nil
      | cons h1 h2 _ ih =>
        refine .cons h1 (fun w e c hc => ⟨?_, (h2 w e c hc).2⟩) ih
        have hn := (h2 w e c hc).1
        cases q : H c with
        | none => rfl
        | some o => exact absurd hn (a.step.dm c (by rw [q]; simp))
    exact this b.res

/-! ### the arguments of a call -/
theorem argVals_len {io : List Nat} : ∀ {rs : List Rv} {p : Nat} {ws : List Val}, argVals env io p rs = some ws → ws.length = rs.length
  | [], _, _, e => by cases e; rfl
  | r :: rs, p, ws, e => by
    unfold argVals at e
    obtain ⟨w, _, e2⟩ := Option.bind_eq_some_iff.mp e
    obtain ⟨ws', e3, e4⟩ := Option.map_eq_some_iff.mp e2
    subst e4
    simp [argVals_len e3]
theorem argVals_get {io : List Nat} : ∀ {rs : List Rv} {p : Nat} {ws : List Val}, argVals env io p rs = some ws → ∀ {j : Nat} {r : Rv} {w : Val}, rs[j]? = some r → ws[j]? = some w →
    (p + j ∈ io ∧ ∃ i, r = .ali i ∧ rd env i = some w ∧ (∀ x, w ≠ .d x) ∧ ∀ ns, w ≠ .scr ns) ∨ (p + j ∉ io ∧ nonIo env r = some w)
  | [], _, _, _, _, _, _, h, _ => by simp at h
  | r0 :: rs, p, ws, e, j, r, w, h1, h2 => by
    unfold argVals at e
    obtain ⟨w0, e1, e2⟩ := Option.bind_eq_some_iff.mp e
    obtain ⟨ws', e3, e4⟩ := Option.map_eq_some_iff.mp e2
    subst e4
    cases j with
    | zero =>
      simp at h1 h2
      subst h1 h2
      by_cases hp : p ∈ io
      · rw [if_pos hp] at e1
        refine .inl ⟨by simpa using hp, ?_⟩
        cases r0 with
        | v _ => cases e1
        | ali i =>
          obtain ⟨u, q1, q2⟩ := Option.bind_eq_some_iff.mp e1
          cases u with
          | d _ => cases q2
          | scr _ => cases q2
          | own xs => cases q2; exact ⟨i, rfl, q1, (fun _ z => by cases z), (fun _ z => by cases z)⟩
          | st _ _ => cases q2; exact ⟨i, rfl, q1, (fun _ z => by cases z), (fun _ z => by cases z)⟩
          | dk _ => cases q2; exact ⟨i, rfl, q1, (fun _ z => by cases z), (fun _ z => by cases z)⟩
      · rw [if_neg hp] at e1
        exact .inr ⟨by simpa using hp, e1⟩
    | succ j =>
      have := argVals_get e3 (j := j) (r := r) (w := w) (by simpa using h1) (by simpa using h2)
      rwa [show p + 1 + j = p + (j + 1) by omega] at this
theorem nonIo_p {r : Rv} {w : Val} (e : nonIo env r = some w) : (∃ x, w = .d x ∧ cur env r = some x) ∨ ∃ ns i, w = .scr ns ∧ r = .ali i ∧ rd env i = some (.scr ns) := by
  cases r with
  | v u =>
    obtain ⟨x, e1, e2⟩ := Option.map_eq_some_iff.mp (show (valD u).map Val.d = some w from e)
    exact .inl ⟨x, e2.symm, e1⟩
  | ali i =>
    unfold nonIo at e
    simp only at e
    split at e
    · rename_i ns h
      cases e
      exact .inr ⟨ns, i, rfl, rfl, h⟩
    · obtain ⟨x, e1, e2⟩ := Option.map_eq_some_iff.mp e
      exact .inl ⟨x, e2.symm, e1⟩
theorem mem_alis {rs : List Rv} {i : Nat} : i ∈ alis rs ↔ ∃ j : Nat, rs[j]? = some (Rv.ali i) := by
  induction rs with
  | nil => simp [alis]
  | cons r rs ih =>
    have tail : (∃ j : Nat, rs[j]? = some (Rv.ali i)) → ∃ j : Nat, (r :: rs)[j]? = some (Rv.ali i) := fun ⟨j, h⟩ => ⟨j + 1, by simpa using h⟩
    cases r with
    | v w =>
      show i ∈ alis rs ↔ _
      rw [ih]
      refine ⟨tail, fun ⟨j, h⟩ => ?_⟩
      cases j with
      | zero => simp at h
      | succ j => exact ⟨j, by simpa using h⟩
    | ali k =>
      show i ∈ k :: alis rs ↔ _
      rw [List.mem_cons, ih]
      constructor
      · rintro (h | h)
        · subst h; exact ⟨0, rfl⟩
        · exact tail h
      · rintro ⟨j, h⟩
        cases j with
        | zero => simp at h; exact .inl h.symm
        | succ j => exact .inr ⟨j, by simpa using h⟩
theorem alis_inj {rs : List Rv} : ∀ {i j k : Nat}, (alis rs).Nodup → rs[j]? = some (Rv.ali i) → rs[k]? = some (Rv.ali i) → j = k := by
  induction rs with
  | nil => intro i j k _ h; simp at h
  | cons r rs ih =>
    intro i j k hn h1 h2
    cases r with
    | v w =>
      cases j with
      | zero => simp at h1
      | succ j =>
        cases k with
        | zero => simp at h2
        | succ k => exact congrArg (· + 1) (ih (i := i) (show (alis rs).Nodup from hn) (by simpa using h1) (by simpa using h2))
    | ali m =>
      have hn' : m ∉ alis rs ∧ (alis rs).Nodup := List.nodup_cons.mp hn
      cases j with
      | zero =>
        simp at h1
        subst h1
        cases k with
        | zero => rfl
        | succ k => exact absurd (mem_alis.mpr ⟨k, by simpa using h2⟩) hn'.1
      | succ j =>
        cases k with
        | zero =>
          simp at h2
          subst h2
          exact absurd (mem_alis.mpr ⟨j, by simpa using h1⟩) hn'.1
        | succ k => exact congrArg (· + 1) (ih (i := i) hn'.2 (by simpa using h1) (by simpa using h2))
theorem back_len {io : List Nat} {keep : Bool} : ∀ (rs : List Rv) (p : Nat) (ws : List Val) (env : Env), (backArgs io keep p rs ws env).length = env.length
  | [], _, _, _ => by simp [backArgs]
  | .v _ :: rs, p, [], env => by simp [backArgs]
  | .v _ :: rs, p, _ :: ws, env => by rw [backArgs, back_len rs]
  | .ali i :: rs, p, [], env => by simp [backArgs]
  | .ali i :: rs, p, w :: ws, env => by
    rw [backArgs, back_len rs]
    split
    · simp
    · split <;> simp
theorem back_out {io : List Nat} {keep : Bool} : ∀ (rs : List Rv) (p : Nat) (ws : List Val) (env : Env) {i : Nat}, i ∉ alis rs → rd (backArgs io keep p rs ws env) i = rd env i
  | [], _, _, _, _, _ => by simp [backArgs]
  | .v _ :: rs, p, [], env, _, _ => by simp [backArgs]
  | .v _ :: rs, p, _ :: ws, env, i, h => by rw [backArgs]; exact back_out rs _ _ _ h
  | .ali k :: rs, p, [], env, _, _ => by simp [backArgs]
  | .ali k :: rs, p, w :: ws, env, i, h => by
    have hk : i ≠ k ∧ i ∉ alis rs := by simpa [alis] using h
    rw [backArgs, back_out rs _ _ _ hk.2]
    split
    · rw [rd_set, if_neg (fun z => hk.1 z.1.symm)]
    · split
      · rfl
      · rw [rd_set, if_neg (fun z => hk.1 z.1.symm)]
theorem back_in {io : List Nat} {keep : Bool} : ∀ (rs : List Rv) (p : Nat) (ws : List Val) (env : Env), (alis rs).Nodup → ∀ {i j : Nat} {w : Val}, i < env.length → rs[j]? = some (.ali i) → ws[j]? = some w →
    rd (backArgs io keep p rs ws env) i = if p + j ∈ io then some w else if keep then rd env i else some w
  | [], _, _, _, _, _, _, _, _, h, _ => by simp at h
  | .v _ :: rs, p, [], env, _, _, _, _, _, _, h => by simp at h
  | .v _ :: rs, p, _ :: ws, env, hn, i, j, w, hi, h1, h2 => by
    cases j with
    | zero => simp at h1
    | succ j =>
      rw [backArgs, back_in rs (p + 1) ws env hn hi (by simpa using h1) (by simpa using h2)]
      rw [show p + 1 + j = p + (j + 1) by omega]
  | .ali k :: rs, p, [], env, _, _, _, _, _, _, h => by simp at h
  | .ali k :: rs, p, w0 :: ws, env, hn, i, j, w, hi, h1, h2 => by
    have hn' : k ∉ alis rs ∧ (alis rs).Nodup := List.nodup_cons.mp hn
    cases j with
    | zero =>
      simp at h1 h2
      subst h1 h2
      rw [backArgs, back_out rs _ _ _ hn'.1]
      simp only [Nat.add_zero]
      split
      · rw [rd_set, if_pos ⟨rfl, hi⟩]
      · split
        · rfl
        · rw [rd_set, if_pos ⟨rfl, hi⟩]
    | succ j =>
      have hne : k ≠ i := fun z => hn'.1 (mem_alis.mpr ⟨j, by rw [z]; simpa using h1⟩)
      rw [backArgs, back_in rs (p + 1) ws _ hn'.2 (by split; simpa using hi; split; exact hi; simpa using hi) (by simpa using h1) (by simpa using h2)]
      rw [show p + 1 + j = p + (j + 1) by omega]
      have e : rd (if p ∈ io then env.set k (some w0) else if keep = true then env else env.set k (some w0)) i = rd env i := by
        split
        · rw [rd_set, if_neg (fun z => hne z.1)]
        · split
          · rfl
          · rw [rd_set, if_neg (fun z => hne z.1)]
      rw [e]
end Ev

namespace Ev
open PySem L2
variable {K : PySem.W.Frag} {S S' S1 S2 Sc H H' H1 H2 H0 S0 : Hp} {σ : St} {env env' env0 e1 : Env}

/-- a def's promise by what it is worth -/
def spC (K : PySem.W.Frag) (g : List Val → Option (Val × List Val)) : Sp := fun vs H Q _ => ∃ S ws w ws', RepEnv K S H (vs.map some) (ws.map some) ∧ g ws = some (w, ws') ∧
  ∀ v S' H', Step (Roots H (vs.map some) (ws.map some)) S H S' H' → RepEnv K S' H' (vs.map some) (ws'.map some) → (∀ b, Roots H' (vs.map some) (ws'.map some) b → Roots H (vs.map some) (ws.map some) b ∨ H b = none) →
    RepV K S' H' v w → (∀ b, Root H' v w b → H b = none ∧ ¬ Roots H' (vs.map some) (ws'.map some) b) → Q v H'

theorem rd_map {ws : List Val} {j : Nat} : rd (ws.map some) j = ws[j]? := by
  unfold rd
  rw [List.getElem?_map]
  cases ws[j]? <;> rfl
theorem slotV_map {vs : List V} {j : Nat} : slotV (vs.map some) j = vs[j]? := by
  unfold slotV
  rw [List.getElem?_map]
  cases vs[j]? <;> rfl
mutual
theorem rp_flat {S2 : Hp} (h : ∀ b o, S b = some o → (∀ xs, o ≠ .lst xs) → S2 b = some o) : ∀ {v : V} {x : D}, Rp K S v x → noList x = true → Rp K S2 v x
  | _, _, .non, _ => .non
  | _, _, .bl b, _ => .bl b
  | _, _, .int i, _ => .int i
  | _, _, .str x, _ => .str x
  | _, _, .lst _ _, e => by simp [noList] at e
  | _, _, .tup (a := a) (xs := xs) h1 h2, e => by
    refine .tup ?_ (rps_flat h h2 (by simpa [noList] using e))
    rcases h1 with (h1 | ⟨o, h1⟩) | h1
    · exact .inl (.inl (h a _ h1 fun _ z => nomatch z))
    · exact .inl (.inr ⟨o, h a _ h1 fun _ z => nomatch z⟩)
    · exact .inr h1
theorem rps_flat {S2 : Hp} (h : ∀ b o, S b = some o → (∀ xs, o ≠ .lst xs) → S2 b = some o) : ∀ {v : List V} {x : List D}, Rps K S v x → noListL x = true → Rps K S2 v x
  | _, _, .nil, _ => .nil
  | _, _, .cons h1 h2, e => by
    rw [noListL, Bool.and_eq_true] at e
    exact .cons (rp_flat h h1 e.1) (rps_flat h h2 e.2)
end
theorem flatAll_get {io : List Nat} : ∀ {ws : List Val} {p j : Nat} {w : Val}, flatAll io p ws = true → ws[j]? = some w → p + j ∈ io → flatV w = true
  | [], _, _, _, _, h, _ => by simp at h
  | u :: ws, p, j, w, e, h, hj => by
    have e : ((if p ∈ io then flatV u else true) && flatAll io (p + 1) ws) = true := e
    rw [Bool.and_eq_true] at e
    cases j with
    | zero =>
      simp at h hj
      subst h
      rw [if_pos hj] at e
      exact e.1
    | succ j => exact flatAll_get e.2 (by simpa using h) (by rw [show p + 1 + j = p + (j + 1) by omega]; exact hj)
open Classical in
theorem call_ok {io : List Nat} {vs : List V} {rs : List Rv} {ws ws' : List Val} {w : Val} (p : Psl K S0 H0 σ env0 S1 H1 e1 vs rs) (hn : (alis rs).Nodup) (ha : argVals e1 io 0 rs = some ws) :
    ∃ Sc, RepEnv K Sc H1 (vs.map some) (ws.map some) ∧ ∀ v S' H', Step (Roots H1 (vs.map some) (ws.map some)) Sc H1 S' H' → RepEnv K S' H' (vs.map some) (ws'.map some) →
      (∀ b, Roots H' (vs.map some) (ws'.map some) b → Roots H1 (vs.map some) (ws.map some) b ∨ H1 b = none) → RepV K S' H' v w → (∀ b, Root H' v w b → H1 b = none ∧ ¬ Roots H' (vs.map some) (ws'.map some) b) →
      ∃ S2, Psv K S0 H0 σ env0 S2 H' (backArgs io (keepB io w ws') 0 rs ws' e1) v (.v w) := by
  have hl1 : vs.length = rs.length := p.res.len
  have hl2 : ws.length = rs.length := argVals_len ha
  have at_ : ∀ {j : Nat} {u : Val}, ws[j]? = some u → ∃ v r, vs[j]? = some v ∧ rs[j]? = some r ∧ RepR K S1 H1 σ e1 v r := fun {j u} h => by
    have hj : j < ws.length := (List.getElem?_eq_some_iff.mp h).1
    have h1 : vs[j]? = some (vs[j]'(by omega)) := List.getElem?_eq_getElem _
    have h2 : rs[j]? = some (rs[j]'(by omega)) := List.getElem?_eq_getElem _
    exact ⟨_, _, h1, h2, (p.res.get h1 h2).1⟩
  -- the lists that are frozen for the call
  let B : Addr → Prop := fun b => ∃ (j : Nat) (xs : List D), vs[j]? = some (.ref b) ∧ ws[j]? = some (.d (.list xs)) ∧ S1 b = none
  have hB : ∀ b, B b → (∃ (j : Nat) (u : Val), rs[j]? = some (.v u) ∧ vs[j]? = some (.ref b) ∧ Root H1 (.ref b) u b) ∨ ∃ (i j : Nat) (xs : List D), rs[j]? = some (.ali i) ∧ rd e1 i = some (.own xs) ∧ slotV σ i = some (.ref b) ∧ j ∉ io := fun b ⟨j, xs, h1, h2, h3⟩ => by
    obtain ⟨v, r, q1, q2, q3⟩ := at_ h2
    rw [h1] at q1; cases q1
    rcases argVals_get ha q2 h2 with ⟨_, i, _, _, z, _⟩ | ⟨hio, z⟩
    · exact absurd rfl (z _)
    · rcases nonIo_p z with ⟨x, e, hc⟩ | ⟨ns, i, e, _⟩
      · cases e
        have notd : ∀ {v : V} {xs : List D}, v = .ref b → Rp K S1 v (.list xs) → False := fun {v xs} e r => by
          cases r with
          | lst g _ => cases e; rw [h3] at g; cases g
        cases r with
        | v u =>
          cases u with
          | d y => cases (show some y = some _ from hc); exact (notd rfl q3.1).elim
          | own ys => exact .inl ⟨j, _, q2, h1, rfl⟩
          | st _ _ => cases hc
          | dk _ => cases hc
          | scr _ => cases hc
        | ali i =>
          obtain ⟨u, g1, g2⟩ := Option.bind_eq_some_iff.mp (show (rd e1 i).bind valD = some _ from hc)
          have hsl : slotV σ i = some (.ref b) := q3
          cases u with
          | d y =>
            cases (show some y = some _ from g2)
            obtain ⟨v', k1, k2⟩ := p.rep.get i _ g1
            rw [hsl] at k1; cases k1
            exact (notd rfl k2).elim
          | own ys => exact .inr ⟨i, j, ys, q2, g1, hsl, by simpa using hio⟩
          | st _ _ => cases g2
          | dk _ => cases g2
          | scr _ => cases g2
      · cases e
  have hB0 : ∀ b, B b → Roots H0 σ env0 b ∨ H0 b = none := fun b hb => by
    rcases hB b hb with ⟨j, u, h1, h2, h3⟩ | ⟨i, j, xs, h1, h2, h3, _⟩
    · exact .inr ((p.res.get h2 h1).2 u rfl b h3)
    · exact p.sub b ⟨i, _, _, h2, h3, rfl⟩
  -- a root of a slot that is frozen: the slot is handed in, not to be changed
  have hBs : ∀ {b : Addr} {i : Nat} {w0 : Val} {v0 : V}, B b → rd e1 i = some w0 → slotV σ i = some v0 → Root H1 v0 w0 b → ∃ j : Nat, rs[j]? = some (.ali i) ∧ j ∉ io := fun {b i w0 v0} hb h1 h2 h3 => by
    rcases hB b hb with ⟨j, u, g1, g2, g3⟩ | ⟨i', j, xs, g1, g2, g3, g4⟩
    · exact absurd ⟨i, w0, v0, h1, h2, h3⟩ ((p.res.get g2 g1).1.2 b g3)
    · by_cases hi : i' = i
      · subst hi; exact ⟨j, g1, g4⟩
      · exact (p.rep.dis i' i _ _ _ _ b hi g2 g3 h1 h2 rfl h3).elim
  obtain ⟨s1, s2⟩ := frzS_same (B := B) p.rep.same
  have hBl : ∀ b, B b → ∃ xs, H1 b = some (.lst xs) := fun b hb => by
    rcases hB b hb with ⟨j, u, h1, h2, h3⟩ | ⟨i, j, xs, h1, h2, h3, _⟩
    · obtain ⟨j', xs', k1, k2, k3⟩ := hb
      obtain ⟨v, r, q1, q2, q3⟩ := at_ k2
      rw [k1] at q1; cases q1
      rcases argVals_get ha q2 k2 with ⟨_, i, _, _, z, _⟩ | ⟨hio, z⟩
      · exact absurd rfl (z _)
      · rcases nonIo_p z with ⟨x, e, hc⟩ | ⟨ns, i, e, _⟩
        · cases e
          obtain ⟨a, vs', e1', e2', _⟩ := (repC_of p.rep q3 hc).list p.rep.same
          cases e1'
          exact ⟨_, e2'⟩
        · cases e
    · obtain ⟨v, k1, a, vs', k2, k3, k4, _⟩ := p.rep.get i _ h2
      rw [h3] at k1; cases k1; cases k2
      exact ⟨_, k4⟩
  -- the roots of the arguments
  have hR : ∀ b, Roots H1 (vs.map some) (ws.map some) b → ∃ (j i : Nat) (w0 : Val) (v0 : V), j ∈ io ∧ rs[j]? = some (.ali i) ∧ rd e1 i = some w0 ∧ slotV σ i = some v0 ∧ Root H1 v0 w0 b := fun b ⟨j, u, v, h1, h2, h3⟩ => by
    rw [rd_map] at h1
    rw [slotV_map] at h2
    obtain ⟨v', r, q1, q2, q3⟩ := at_ h1
    rw [h2] at q1; cases q1
    rcases argVals_get ha q2 h1 with ⟨hio, i, rfl, g1, _, _⟩ | ⟨_, z⟩
    · exact ⟨j, i, u, v, by simpa using hio, q2, g1, q3, h3⟩
    · rcases nonIo_p z with ⟨x, rfl, _⟩ | ⟨ns, i, rfl, _⟩
      · exact h3.elim
      · exact h3.elim
  have hR1 : ∀ b, Roots H1 (vs.map some) (ws.map some) b → Roots H1 σ e1 b := fun b hb => by
    obtain ⟨j, i, w0, v0, _, _, h1, h2, h3⟩ := hR b hb
    exact ⟨i, w0, v0, h1, h2, h3⟩
  have hstep : Step (Roots H0 σ env0) S0 H0 (frzS S1 H1 B) H1 := ⟨p.step.st.trans s1, s2, p.step.kp, fun b hb => by
    by_cases q : B b
    · rcases hB0 b q with z | z
      · exact .inr (.inr z)
      · exact .inr (.inl z)
    · rw [frzS_neg q] at hb; exact p.step.nw b hb, p.step.dm⟩
  refine ⟨frzS S1 H1 B, ⟨s2, by simp [hl1, hl2], fun j u h => ?_, fun j k u u' v v' b hne h1 h2 h3 h4 h5 h6 => ?_⟩, ?_⟩
  · rw [rd_map] at h
    obtain ⟨v, r, q1, q2, q3⟩ := at_ h
    refine ⟨v, by rw [slotV_map]; exact q1, ?_⟩
    rcases argVals_get ha q2 h with ⟨hio, i, rfl, g1, _, _⟩ | ⟨_, z⟩
    · have hsl : slotV σ i = some v := q3
      obtain ⟨v', k1, k2⟩ := p.rep.get i u g1
      rw [hsl] at k1; cases k1
      refine repV_step k2 s1 fun c hc => ⟨?_, fun o q => q⟩
      rw [frzS_neg fun hb => ?_]
      · exact (root_free k2 hc).1
      · obtain ⟨j', g2, g3⟩ := hBs hb g1 hsl hc
        have := alis_inj hn q2 g2
        subst this
        exact g3 (by simpa using hio)
    · rcases nonIo_p z with ⟨x, rfl, hc⟩ | ⟨ns, i, rfl, rfl, g1⟩
      · rcases repC_of p.rep q3 hc with r | ⟨a, vs', xs, rfl, rfl, k1, k2⟩
        · exact dpMono s1 r
        · refine .lst ?_ (dpsMono s1 k2)
          by_cases hs : S1 a = none
          · rw [frzS_pos (show B a from ⟨j, xs, q1, h, hs⟩)]; exact k1
          · cases q : S1 a with
            | none => exact absurd q hs
            | some o =>
              have := p.rep.same a o q
              rw [k1] at this; cases this
              exact s1 a _ q
      · obtain ⟨v', k1, k2⟩ := p.rep.get i _ g1
        rw [show slotV σ i = some v from q3] at k1; cases k1
        obtain ⟨a, k3, k4⟩ := k2
        exact ⟨a, k3, sqZ_mono (fun b o z _ => s1 b o z) k4⟩
  · rw [rd_map] at h1 h3
    rw [slotV_map] at h2 h4
    obtain ⟨v1, r1, q1, q2, q3⟩ := at_ h1
    rw [h2] at q1; cases q1
    obtain ⟨v2, r2, q4, q5, q6⟩ := at_ h3
    rw [h4] at q4; cases q4
    rcases argVals_get ha q2 h1 with ⟨_, i, rfl, g1, _, _⟩ | ⟨_, z⟩
    · rcases argVals_get ha q5 h3 with ⟨_, i', rfl, g2, _, _⟩ | ⟨_, z⟩
      · have hi : i ≠ i' := fun e => hne (alis_inj hn q2 (by rw [e]; exact q5))
        exact p.rep.dis i i' u u' v v' b hi g1 q3 g2 q6 h5 h6
      · rcases nonIo_p z with ⟨x, rfl, _⟩ | ⟨ns, i, rfl, _⟩
        · exact h6.elim
        · exact h6.elim
    · rcases nonIo_p z with ⟨x, rfl, _⟩ | ⟨ns, i, rfl, _⟩
      · exact h5.elim
      · exact h5.elim
  · intro v S' H' st rep' sub' rv fresh
    generalize hkeep : keepB io w ws' = keep
    let S2 : Hp := fun b => if keep = true ∧ B b then none else S' b
    have hl3 : ws'.length = rs.length := by
      have := rep'.len
      simp only [List.length_map] at this
      omega
    have hSB : ∀ b, B b → ∃ xs, S' b = some (.lst xs) := fun b hb => by
      obtain ⟨xs, e⟩ := hBl b hb
      exact ⟨xs, st.st b _ (by rw [frzS_pos hb]; exact e)⟩
    have s12 : Same S1 S2 := fun b o e => by
      have hb : ¬ B b := fun ⟨_, _, _, _, z⟩ => by rw [z] at e; cases e
      show (if keep = true ∧ B b then none else S' b) = some o
      rw [if_neg fun z => hb z.2]
      exact st.st b o (by rw [frzS_neg hb]; exact e)
    have s2h : Same S2 H' := fun b o e => by
      have e : (if keep = true ∧ B b then none else S' b) = some o := e
      split at e
      · cases e
      · exact st.same b o e
    -- what is not changed
    have same_ : ∀ {i : Nat} {w0 : Val} {v0 : V} {c : Addr}, (∀ j : Nat, rs[j]? = some (.ali i) → j ∉ io ∧ keep = true) → rd e1 i = some w0 → slotV σ i = some v0 → Root H1 v0 w0 c → S2 c = none ∧ ∀ o, H1 c = some o → H' c = some o := fun {i w0 v0 c} hi h1 h2 h3 => by
      have nr : ¬ Roots H1 (vs.map some) (ws.map some) c := fun hr => by
        obtain ⟨j, i', w', v', g1, g2, g3, g4, g5⟩ := hR c hr
        by_cases e : i' = i
        · subst e; exact (hi j g2).1 g1
        · exact p.rep.dis i' i _ _ _ _ c e g3 g4 h1 h2 g5 h3
      obtain ⟨v', k1, k2⟩ := p.rep.get i w0 h1
      rw [h2] at k1; cases k1
      obtain ⟨f1, o, f2⟩ := root_free k2 h3
      refine ⟨?_, fun o e => st.kp c o e nr⟩
      show (if keep = true ∧ B c then none else S' c) = none
      by_cases hb : B c
      · obtain ⟨j, g1, g2⟩ := hBs hb h1 h2 h3
        rw [if_pos ⟨(hi j g1).2, hb⟩]
      · rw [if_neg fun z => hb z.2]
        cases q : S' c with
        | none => rfl
        | some u =>
          rcases st.nw c (by rw [q]; simp) with z | z | z
          · rw [frzS_neg hb] at z; exact absurd f1 z
          · rw [f2] at z; cases z
          · exact absurd z nr
    have stepK : Step (Roots H0 σ env0) S0 H0 S2 H' := by
      by_cases hk : keep = true
      · refine p.step.trans (R1 := Roots H1 (vs.map some) (ws.map some)) ⟨s12, s2h, st.kp, fun b hb => ?_, st.dm⟩ fun c hc => p.sub c (hR1 c hc)
        have hb : (if keep = true ∧ B b then none else S' b) ≠ none := hb
        by_cases q : B b
        · rw [if_pos ⟨hk, q⟩] at hb; exact absurd rfl hb
        · rw [if_neg fun z => q z.2] at hb
          rcases st.nw b hb with z | z
          · rw [frzS_neg q] at z; exact .inl z
          · exact .inr z
      · have e : S2 = S' := funext fun b => if_neg fun z => hk z.1
        rw [e]
        exact hstep.trans st fun c hc => p.sub c (hR1 c hc)
    -- each slot: changed, or as it was
    have cases_ : ∀ (i : Nat) (u : Val), rd (backArgs io keep 0 rs ws' e1) i = some u → (∃ j : Nat, rs[j]? = some (.ali i) ∧ (j ∈ io ∨ keep = false) ∧ ws'[j]? = some u) ∨ ((∀ j : Nat, rs[j]? = some (.ali i) → j ∉ io ∧ keep = true) ∧ rd e1 i = some u) := fun i u h => by
      by_cases hi : i ∈ alis rs
      · obtain ⟨j, hj⟩ := mem_alis.mp hi
        have hjl : j < ws'.length := by rw [hl3]; exact (List.getElem?_eq_some_iff.mp hj).1
        have hw : ws'[j]? = some ws'[j] := List.getElem?_eq_getElem hjl
        have hil : i < e1.length := by
          by_cases q : i < e1.length
          · exact q
          · exfalso
            have : rd (backArgs io keep 0 rs ws' e1) i = none := by
              unfold rd
              rw [List.getElem?_eq_none (by rw [back_len]; omega)]; rfl
            rw [this] at h; cases h
        rw [back_in rs 0 ws' e1 hn hil hj hw] at h
        simp only [Nat.zero_add] at h
        by_cases h1 : j ∈ io
        · rw [if_pos h1] at h; cases h
          exact .inl ⟨j, hj, .inl h1, hw⟩
        · rw [if_neg h1] at h
          cases hk : keep with
          | true =>
            rw [hk, if_pos rfl] at h
            refine .inr ⟨fun j' hj' => ⟨?_, rfl⟩, h⟩
            rw [alis_inj hn hj' hj]; exact h1
          | false =>
            rw [hk, if_neg (by decide)] at h; cases h
            exact .inl ⟨j, hj, .inr rfl, hw⟩
      · rw [back_out _ _ _ _ hi] at h
        exact .inr ⟨fun j hj => absurd (mem_alis.mpr ⟨j, hj⟩) hi, h⟩
    have sl_ : ∀ {i j : Nat}, rs[j]? = some (.ali i) → slotV σ i = vs[j]? := fun {i j} h => by
      have hj : j < vs.length := by rw [hl1]; exact (List.getElem?_eq_some_iff.mp h).1
      have h1 : vs[j]? = some vs[j] := List.getElem?_eq_getElem hj
      rw [h1]; exact (p.res.get h1 h).1
    have repU : ∀ {i : Nat} {u : Val} {x : V}, (∀ j : Nat, rs[j]? = some (.ali i) → j ∉ io ∧ keep = true) → rd e1 i = some u → slotV σ i = some x → RepV K S2 H' x u ∧ ∀ b, Root H' x u b ↔ Root H1 x u b := fun {i u x} hi h1 h2 => by
      obtain ⟨x', k1, k2⟩ := p.rep.get i u h1
      rw [h2] at k1; cases k1
      exact ⟨repV_step k2 s12 fun c hc => same_ hi h1 h2 hc, fun b => root_iff k2 fun c hc => (same_ hi h1 h2 hc).2⟩
    have repC : ∀ {j : Nat} {u : Val} {x : V}, (j ∈ io ∨ keep = false) → ws'[j]? = some u → vs[j]? = some x → RepV K S2 H' x u := fun {j u x} hj h1 h2 => by
      obtain ⟨x', k1, k2⟩ := rep'.get j u (by rw [rd_map]; exact h1)
      rw [slotV_map, h2] at k1; cases k1
      by_cases hk : keep = true
      · have hj : j ∈ io := hj.elim id fun z => by rw [hk] at z; cases z
        rw [hk] at hkeep
        unfold keepB at hkeep
        rw [Bool.and_eq_true, Bool.and_eq_true] at hkeep
        replace hkeep := hkeep.2
        have fl := flatAll_get hkeep.2 h1 (by simpa using hj)
        have keepS : ∀ b o, S' b = some o → (∀ xs, o ≠ .lst xs) → S2 b = some o := fun b o e hno => by
          show (if keep = true ∧ B b then none else S' b) = some o
          rw [if_neg fun z => ?_]
          · exact e
          · obtain ⟨xs, e'⟩ := hSB b z.2
            rw [e] at e'; cases e'
            exact hno _ rfl
        have keepN : ∀ b, S' b = none → S2 b = none := fun b e => by
          show (if keep = true ∧ B b then none else S' b) = none
          split
          · rfl
          · exact e
        cases u with
        | d y => exact rp_flat keepS k2 fl
        | own ys =>
          obtain ⟨a, vs2, m1, m2, m3, m4⟩ := k2
          exact ⟨a, vs2, m1, keepN _ m2, m3, rps_flat keepS m4 fl⟩
        | st i cs =>
          obtain ⟨a, c, m1, m2, m3, m4⟩ := k2
          exact ⟨a, c, m1, keepN _ m2, keepN _ m3, m4⟩
        | dk _ => cases fl
        | scr ns =>
          obtain ⟨a, m1, m2⟩ := k2
          exact ⟨a, m1, sqZ_mono keepS m2⟩
      · have e : S2 = S' := funext fun b => if_neg fun z => hk z.1
        rw [e]; exact k2
    have rootC : ∀ {i j : Nat} {u : Val} {x : V} {b : Addr}, rs[j]? = some (.ali i) → ws'[j]? = some u → vs[j]? = some x → Root H' x u b → Roots H1 (vs.map some) (ws.map some) b ∨ H1 b = none := fun {i j u x b} h1 h2 h3 h4 =>
      sub' b ⟨j, u, x, by rw [rd_map]; exact h2, by rw [slotV_map]; exact h3, h4⟩
    have there : ∀ {i : Nat} {u : Val} {x : V} {b : Addr}, rd e1 i = some u → slotV σ i = some x → Root H1 x u b → ¬ H1 b = none := fun {i u x b} h1 h2 h3 z => by
      obtain ⟨_, o, e⟩ := Roots.free p.rep ⟨i, u, x, h1, h2, h3⟩
      rw [z] at e; cases e
    have rootAll : ∀ b, Roots H' σ (backArgs io keep 0 rs ws' e1) b → Roots H1 σ e1 b ∨ H1 b = none := by
      rintro b ⟨i, u, x, h1, h2, h3⟩
      rcases cases_ i u h1 with ⟨j, g1, g2, g3⟩ | ⟨g1, g2⟩
      · exact (rootC g1 g3 (by rw [← sl_ g1]; exact h2) h3).imp (hR1 b) id
      · exact .inl ⟨i, u, x, g2, h2, ((repU g1 g2 h2).2 b).mp h3⟩
    refine ⟨S2, ⟨⟨stepK, ⟨s2h, by rw [back_len]; exact p.rep.len, fun i u h => ?_, fun i i' u u' x x' b hne h1 h2 h3 h4 h5 h6 => ?_⟩, fun b hb => (rootAll b hb).elim (p.sub b) fun z => .inr (none_bk p.step z), by rw [back_len]; exact p.slots⟩, ⟨?_, fun b hb hr => ?_⟩, fun u e b hb => ?_⟩⟩
    · rcases cases_ i u h with ⟨j, g1, g2, g3⟩ | ⟨g1, g2⟩
      · have hj : j < vs.length := by rw [hl1]; exact (List.getElem?_eq_some_iff.mp g1).1
        have hv : vs[j]? = some vs[j] := List.getElem?_eq_getElem hj
        exact ⟨_, (sl_ g1).trans hv, repC g2 g3 hv⟩
      · obtain ⟨x, k1, _⟩ := p.rep.get i u g2
        exact ⟨x, k1, (repU g1 g2 k1).1⟩
    · rcases cases_ i u h1 with ⟨j, g1, g2, g3⟩ | ⟨g1, g2⟩
      · have hv : vs[j]? = some x := by rw [← sl_ g1]; exact h2
        rcases cases_ i' u' h3 with ⟨j', g4, g5, g6⟩ | ⟨g4, g5⟩
        · have hv' : vs[j']? = some x' := by rw [← sl_ g4]; exact h4
          have hj : j ≠ j' := fun e => hne (by rw [e, g4] at g1; cases g1; rfl)
          exact rep'.dis j j' u u' x x' b hj (by rw [rd_map]; exact g3) (by rw [slotV_map]; exact hv) (by rw [rd_map]; exact g6) (by rw [slotV_map]; exact hv') h5 h6
        · obtain ⟨j0, i0, w0, v0, m1, m2, m3, m4, m5⟩ := hR b ((rootC g1 g3 hv h5).resolve_right (there g5 h4 (((repU g4 g5 h4).2 b).mp h6)))
          have hi : i0 ≠ i' := fun e => by subst e; exact (g4 j0 m2).1 m1
          exact p.rep.dis i0 i' _ _ _ _ b hi m3 m4 g5 h4 m5 (((repU g4 g5 h4).2 b).mp h6)
      · rcases cases_ i' u' h3 with ⟨j', g4, g5, g6⟩ | ⟨g4, g5⟩
        · have hv' : vs[j']? = some x' := by rw [← sl_ g4]; exact h4
          obtain ⟨j0, i0, w0, v0, m1, m2, m3, m4, m5⟩ := hR b ((rootC g4 g6 hv' h6).resolve_right (there g2 h2 (((repU g1 g2 h2).2 b).mp h5)))
          have hi : i0 ≠ i := fun e => by subst e; exact (g1 j0 m2).1 m1
          exact p.rep.dis i0 i _ _ _ _ b hi m3 m4 g2 h2 m5 (((repU g1 g2 h2).2 b).mp h5)
        · exact p.rep.dis i i' _ _ _ _ b hne g2 h2 g5 h4 (((repU g1 g2 h2).2 b).mp h5) (((repU g4 g5 h4).2 b).mp h6)
    · by_cases hk : keep = true
      · rw [hk] at hkeep
        unfold keepB at hkeep
        rw [Bool.and_eq_true, Bool.and_eq_true] at hkeep
        have fl := hkeep.2.1
        have keepS : ∀ b o, S' b = some o → (∀ xs, o ≠ .lst xs) → S2 b = some o := fun b o e hno => by
          show (if keep = true ∧ B b then none else S' b) = some o
          rw [if_neg fun z => ?_]
          · exact e
          · obtain ⟨xs, e'⟩ := hSB b z.2
            rw [e] at e'; cases e'
            exact hno _ rfl
        have keepN : ∀ b, S' b = none → S2 b = none := fun b e => by
          show (if keep = true ∧ B b then none else S' b) = none
          split
          · rfl
          · exact e
        cases w with
        | d y => exact rp_flat keepS rv fl
        | own ys =>
          obtain ⟨a, vs2, m1, m2, m3, m4⟩ := rv
          exact ⟨a, vs2, m1, keepN _ m2, m3, rps_flat keepS m4 fl⟩
        | st i cs =>
          obtain ⟨a, c, m1, m2, m3, m4⟩ := rv
          exact ⟨a, c, m1, keepN _ m2, keepN _ m3, m4⟩
        | dk _ => cases fl
        | scr ns =>
          obtain ⟨a, m1, m2⟩ := rv
          exact ⟨a, m1, sqZ_mono keepS m2⟩
      · have e : S2 = S' := funext fun b => if_neg fun z => hk z.1
        rw [e]; exact rv
    · obtain ⟨i, u, x, h1, h2, h3⟩ := hr
      rcases cases_ i u h1 with ⟨j, g1, g2, g3⟩ | ⟨g1, g2⟩
      · exact (fresh b hb).2 ⟨j, u, x, by rw [rd_map]; exact g3, by rw [slotV_map, ← sl_ g1]; exact h2, h3⟩
      · exact there g2 h2 (((repU g1 g2 h2).2 b).mp h3) (fresh b hb).1
    · cases e
      cases q : H0 b with
      | none => rfl
      | some o => exact absurd (fresh b hb).1 (p.step.dm b (by rw [q]; simp))
end Ev

namespace Ev
open PySem L2

/-! ### the text is what the mini text says -/
structure Tab where
  fns : List Str
  gls : List Str
  bl : List Str
  rp : Bool := false
def isRp : Bi → Bool
  | .repr => true
  | _ => false
def nmB (x : Str) : Bool := !(x == ("__debug__" : Str)) && !(x == ("__classdict__" : Str)) && !(x == ("__name__" : Str))
def visB (sc : Scope) (x : Str) : Bool := match sc.names.lookup x with
  | some .local => true
  | some .cell => true
  | some .free => true
  | _ => false
def locB (sc : Scope) (x : Str) : Bool := match sc.names.lookup x with
  | some .local => true
  | some .cell => true
  | _ => false
def glB (sc : Scope) (x : Str) : Bool := match sc.names.lookup x with
  | some .globalImplicit => true
  | _ => false
def conB : D → Const → Bool
  | .none, .none => true
  | .bool b, .bool c => b == c
  | .int i, .int j => i == j
  | .str x, .str y => decide (x = y)
  | _, _ => false
def biN : Bi → Str
  | .len => "len"
  | .abs => "abs"
  | .int => "int"
  | .min1 => "min"
  | .min2 => "min"
  | .max1 => "max"
  | .max2 => "max"
  | .sum => "sum"
  | .sorted => "sorted"
  | .list => "list"
  | .tuple => "tuple"
  | .any => "any"
  | .all => "all"
  | .repr => "repr"
def isTrueC : ME → Bool
  | .con (.bool true) => true
  | _ => false
mutual
def okT (N : List Str) (scT : Scope) : Tg → Expr → Bool
  | .nm i, e => match e with
    | .Name x _ => decide (N[i]? = some x) && locB scT x
    | _ => false
  | .tup ts, e => match e with
    | .Tuple es _ _ => okTs N scT ts es
    | _ => false
def okTs (N : List Str) (scT : Scope) : List Tg → List Expr → Bool
  | [], es => match es with
    | [] => true
    | _ => false
  | t :: ts, es => match es with
    | e :: es => okT N scT t e && okTs N scT ts es
    | _ => false
end
def isTupE : Expr → Bool
  | .Tuple .. => true
  | _ => false
def ownP (N : List Str) (own : List Nat) : List (Str × Nat) := own.map fun i => (N.getD i "", i)
def baseB : Expr → Bool
  | .Call .. => false
  | _ => true
theorem base_ok {o : Expr} {m : Str} {env : PySem.Env} (h : baseB o = true) : attributeBase o m env (eval o env) = eval o env := by
  cases o <;> first | rfl | cases h
def mtT : Mt → String
  | .lindex => "list"
  | _ => "str"
def mtId : Mt → String
  | .lindex => "list.index"
  | .join => "str.join"
  | .starts => "str.startswith"
  | .ends => "str.endswith"
  | .find => "str.find"
  | .stripC => "str.strip"
  | .lstripC => "str.lstrip"
def mtN : Mt → Str
  | .lindex => "index"
  | .join => "join"
  | .starts => "startswith"
  | .ends => "endswith"
  | .find => "find"
  | .stripC => "strip"
  | .lstripC => "lstrip"
def mtN0 : Mt0 → Str
  | .lower => "lower"
/-- o.name() -/
def mth0P : Expr → Option (Expr × Str × Bool)
  | .Call (.Attribute o m apos) [] [] cpos => some (o, m, apos.endLine == cpos.line)
  | _ => none
theorem mth0P_p {e o : Expr} {m : Str} {b : Bool} (h : mth0P e = some (o, m, b)) : ∃ apos cpos, e = .Call (.Attribute o m apos) [] [] cpos ∧ b = (apos.endLine == cpos.line) := by
  unfold mth0P at h
  split at h
  · cases h; exact ⟨_, _, rfl, rfl⟩
  · cases h
/-- NAME.index(arg) -/
def gidxP : Expr → Option (Str × Pos × Expr × Bool)
  | .Call (.Attribute (.Name x px) m apos) [y] [] cpos => some (x, px, y, decide (m = "index") && (apos.endLine == cpos.line))
  | _ => none
theorem gidxP_p {e y : Expr} {x : Str} {px : Pos} {b : Bool} (h : gidxP e = some (x, px, y, b)) : ∃ m apos cpos, e = .Call (.Attribute (.Name x px) m apos) [y] [] cpos ∧ b = (decide (m = "index") && (apos.endLine == cpos.line)) := by
  unfold gidxP at h
  split at h
  · cases h; exact ⟨_, _, _, rfl, rfl⟩
  · cases h
/-- x.pop() -/
def popP : Expr → Option (Str × Pos × Bool)
  | .Call (.Attribute (.Name x px) m apos) [] [] cpos => some (x, px, decide (m = "pop") && (apos.endLine == cpos.line))
  | _ => none
theorem popP_p {e : Expr} {x : Str} {px : Pos} {b : Bool} (h : popP e = some (x, px, b)) : ∃ m apos cpos, e = .Call (.Attribute (.Name x px) m apos) [] [] cpos ∧ b = (decide (m = "pop") && (apos.endLine == cpos.line)) := by
  unfold popP at h
  split at h
  · cases h; exact ⟨_, _, _, rfl, rfl⟩
  · cases h
/-- o.name(args) -/
def mthP : Expr → Option (Expr × Str × List Expr × Bool)
  | .Call (.Attribute o m apos) xs [] cpos => some (o, m, xs, apos.endLine == cpos.line)
  | _ => none
theorem mthP_p {e o : Expr} {m : Str} {xs : List Expr} {b : Bool} (h : mthP e = some (o, m, xs, b)) : ∃ apos cpos, e = .Call (.Attribute o m apos) xs [] cpos ∧ b = (apos.endLine == cpos.line) := by
  unfold mthP at h
  split at h
  · cases h; exact ⟨_, _, rfl, rfl⟩
  · cases h
/-- x.get(y, w) -/
def getP : Expr → Option (Str × Pos × Expr × Expr × Bool)
  | .Call (.Attribute (.Name x px) m apos) [y, w] [] cpos => some (x, px, y, w, decide (m = "get") && (apos.endLine == cpos.line))
  | _ => none
theorem getP_p {e y w : Expr} {x : Str} {px : Pos} {b : Bool} (h : getP e = some (x, px, y, w, b)) : ∃ m apos cpos, e = .Call (.Attribute (.Name x px) m apos) [y, w] [] cpos ∧ b = (decide (m = "get") && (apos.endLine == cpos.line)) := by
  unfold getP at h
  split at h
  · cases h; exact ⟨_, _, _, rfl, rfl⟩
  · cases h
def fzE : Expr → Bool
  | .Call .. => true
  | .List .. => true
  | .BinOp .. => true
  | .Subscript .. => true
  | _ => false
theorem fzE_simple {e : Expr} (h : fzE e = true) : simpleE e = true := by
  cases e <;> first | rfl | cases h
def lc2P : Expr → Option (Expr × Scope × (Expr × Expr × List Expr) × (Expr × Expr × List Expr))
  | .ListComp y [⟨t, i, cs, 0⟩, ⟨t1, i1, cs1, 0⟩] scope _ => some (y, scope, (t, i, cs), (t1, i1, cs1))
  | _ => none
theorem lc2P_p {e y t i t1 i1 : Expr} {cs cs1 : List Expr} {scope : Scope} (h : lc2P e = some (y, scope, (t, i, cs), (t1, i1, cs1))) : ∃ pos, e = .ListComp y [⟨t, i, cs, 0⟩, ⟨t1, i1, cs1, 0⟩] scope pos := by
  unfold lc2P at h
  split at h
  · cases h; exact ⟨_, rfl⟩
  · cases h
mutual
def okE (T : Tab) (N : List Str) : ME → Scope → Expr → Bool
  | .var i, sc, e => match e with
    | .Name x _ => decide (N[i]? = some x) && visB sc x && nmB x
    | _ => false
  | .con c, sc, e => match e with
    | .Constant k _ _ => conB c k
    | _ => false
  | .glb j, sc, e => match e with
    | .Name x _ => decide (T.gls[j]? = some x) && glB sc x && nmB x
    | _ => false
  | .bin op a b, sc, e => match e with
    | .BinOp x o y _ => decide (o = bopO op) && okE T N a sc x && okE T N b sc y
    | _ => false
  | .neg a, sc, e => match e with
    | .UnaryOp o x _ => decide (o = .USub) && okE T N a sc x
    | _ => false
  | .cmp op a b, sc, e => match e with
    | .Compare x [o] [y] _ => decide (o = copO op) && fineE y && okE T N a sc x && okE T N b sc y
    | _ => false
  | .chain op op' a b c, sc, e => match e with
    | .Compare x [o, o'] [y, z] _ => decide (o = copO op) && decide (o' = copO op') && fineE z && okE T N a sc x && okE T N b sc y && okE T N c sc z
    | _ => false
  | .andE a b, sc, e => match e with
    | .BoolOp .And [x, y] _ => okE T N a sc x && okE T N b sc y
    | .BoolOp .And (x :: y :: z :: r) p => okE T N a sc x && okE T N b sc (.BoolOp .And (y :: z :: r) p)
    | _ => false
  | .orE a b, sc, e => match e with
    | .BoolOp .Or [x, y] _ => okE T N a sc x && okE T N b sc y
    | .BoolOp .Or (x :: y :: z :: r) p => okE T N a sc x && okE T N b sc (.BoolOp .Or (y :: z :: r) p)
    | _ => false
  | .notE a, sc, e => match e with
    | .UnaryOp o x _ => decide (o = .Not) && okE T N a sc x
    | _ => false
  | .ite c a b, sc, e => match e with
    | .IfExp z x y _ => okE T N c sc z && okE T N a sc x && okE T N b sc y
    | _ => false
  | .tup es, sc, e => match e with
    | .Tuple xs _ _ => okL T N es sc xs && decide (xs.length ≤ 1000)
    | _ => false
  | .lst es, sc, e => match e with
    | .List xs _ => okL T N es sc xs && decide (xs.length ≤ 1000)
    | _ => false
  | .idx a b, sc, e => match e with
    | .Subscript x y _ => fineE y && okE T N a sc x && okE T N b sc y
    | _ => false
  | .sli a lo hi, sc, e => match e with
    | .Subscript x (.Slice l h none _) _ => okE T N a sc x && (match l with
        | none => isNoneC lo
        | some l => !isNoneC lo && okE T N lo sc l) && (match h with
        | none => isNoneC hi
        | some h => !isNoneC hi && okE T N hi sc h)
    | _ => false
  | .call f es, sc, e => match e with
    | .Call (.Name x _) xs [] _ => decide (T.fns[f]? = some x) && glB sc x && nmB x && okL T N es sc xs
    | _ => false
  | .bi b es, sc, e => match e with
    | .Call (.Name x _) xs [] _ => decide (x = biN b) && decide (x ∈ T.bl) && glB sc x && !xs.isEmpty && okL T N es sc xs && (!isRp b || T.rp)
    | _ => false
  | .lc elt tg it cond own, sc, e => match e with
    | .ListComp y [⟨t, i, cs, 0⟩] scope _ => blkC N sc scope (ownP N own) && (slotsT tg).all (fun i => decide (i ∈ own)) && okT N scope tg t && fineE i && okI T N it sc t i && okE T N elt (relS scope sc) y &&
        (match cs with
        | [] => isTrueC cond
        | [c] => okE T N cond (relS scope sc) c
        | _ => false)
    | _ => false
  | .lrg1 a, sc, e => match e with
    | .Call (.Name x _) [.Call (.Name y _) [z] [] _] [] _ => decide (x = "list") && decide (x ∈ T.bl) && glB sc x && decide (y = "range") && decide (y ∈ T.bl) && glB sc y && fineE z && okE T N a sc z
    | _ => false
  | .lrg2 a b, sc, e => match e with
    | .Call (.Name x _) [.Call (.Name y _) [z, u] [] _] [] _ => decide (x = "list") && decide (x ∈ T.bl) && glB sc x && decide (y = "range") && decide (y ∈ T.bl) && glB sc y && fineE z && fineE u && okE T N a sc z && okE T N b sc u
    | _ => false
  | .sset a, sc, e => match e with
    | .Call (.Name x _) [.Call (.Name y _) [z] [] _] [] _ => decide (x = "sorted") && decide (x ∈ T.bl) && glB sc x && decide (y = "set") && decide (y ∈ T.bl) && glB sc y && fineE z && okE T N a sc z
    | _ => false
  | .lset a, sc, e => match e with
    | .Call (.Name x _) [.Call (.Name y _) [z] [] _] [] _ => decide (x = "len") && decide (x ∈ T.bl) && glB sc x && decide (y = "set") && decide (y ∈ T.bl) && glB sc y && fineE z && okE T N a sc z
    | _ => false
  | .rev a, sc, e => match e with
    | .Subscript z (.Slice none none (some (.UnaryOp .USub (.Constant (.int i) _ _) _)) _) _ => decide (i = 1) && okE T N a sc z
    | _ => false
  | .mth m a es, sc, e => match mthP e with
    | some (o, n, xs, b) => decide (n = mtN m) && baseB o && b && decide (0 < xs.length ∧ xs.length < 20) && okE T N a sc o && okL T N es sc xs
    | none => false
  | .mth0 m a, sc, e => match mth0P e with
    | some (o, n, b) => decide (n = mtN0 m) && baseB o && b && okE T N a sc o
    | none => false
  | .gidx j a, sc, e => match gidxP e with
    | some (x, px, y, b) => decide (T.gls[j]? = some x) && glB sc x && nmB x && b && fineE y && okE T N a sc y
    | none => false
  | .slen i, sc, e => match e with
    | .Call (.Name x _) [.Name y _] [] _ => decide (x = "len") && decide (x ∈ T.bl) && glB sc x && decide (N[i]? = some y) && visB sc y && nmB y
    | _ => false
  | .sidx i a, sc, e => match e with
    | .Subscript (.Name x _) y _ => decide (N[i]? = some x) && visB sc x && nmB x && fineE y && okE T N a sc y
    | _ => false
  | .dnew, sc, e => match e with
    | .Dict [] [] _ => true
    | _ => false
  | .dnew1 k v, sc, e => match e with
    | .Dict [some x] [y] _ => okE T N k sc x && okE T N v sc y
    | _ => false
  | .dget i k, sc, e => match e with
    | .Subscript (.Name x _) y _ => decide (N[i]? = some x) && visB sc x && nmB x && fineE y && okE T N k sc y
    | _ => false
  | .din i k, sc, e => match e with
    | .Compare y [o] [.Name x _] _ => decide (o = .In) && decide (N[i]? = some x) && visB sc x && nmB x && okE T N k sc y
    | _ => false
  | .dnin i k, sc, e => match e with
    | .Compare y [o] [.Name x _] _ => decide (o = .NotIn) && decide (N[i]? = some x) && visB sc x && nmB x && okE T N k sc y
    | _ => false
  | .dgetd i k z, sc, e => match getP e with
    | some (x, px, y, w, b) => decide (N[i]? = some x) && visB sc x && nmB x && b && fineE y && fineE w && okE T N k sc y && okE T N z sc w
    | none => false
  | .dof a, sc, e => match e with
    | .Call (.Name x _) [y] [] _ => decide (x = "dict") && decide (x ∈ T.bl) && glB sc x && fineE y && okE T N a sc y
    | _ => false
  | .bad, sc, e => simpleE e
  | .fz a, sc, e => fzE e && okE T N a sc e
  | .pop i, sc, e => match popP e with
    | some (x, px, b) => decide (N[i]? = some x) && visB sc x && nmB x && b
    | none => false
  | .lc2 elt tg it cond own tg1 it1 cond1 vs1, sc, e => match lc2P e with
    | some (y, scope, (t, i, cs), (t1, i1, cs1)) => blkC N sc scope (ownP N own) && (slotsT tg).all (fun i => decide (i ∈ own)) && okT N scope tg t && fineE i && okI T N it sc t i && okE T N elt (relS scope sc) y &&
        (match cs with
        | [] => isTrueC cond
        | [c] => okE T N cond (relS scope sc) c
        | _ => false) && vs1.all (fun i => decide (i ∈ own)) && (slotsT tg1).all (fun i => decide (i ∈ vs1)) && okT N scope tg1 t1 && fineE i1 && okI T N it1 (relS scope sc) t1 i1 &&
        (match cs1 with
        | [] => isTrueC cond1
        | [c] => okE T N cond1 (relS scope sc) c
        | _ => false)
    | none => false
def okI (T : Tab) (N : List Str) : MI → Scope → Expr → Expr → Bool
  | .seq a, sc, t, e => okE T N a sc e
  | .rng es, sc, t, e => match e with
    | .Call (.Name x _) xs [] _ => decide (x = "range") && decide (x ∈ T.bl) && glB sc x && okL T N es sc xs
    | _ => false
  | .enum a, sc, t, e => match e with
    | .Call (.Name x _) [y] [] _ => decide (x = "enumerate") && decide (x ∈ T.bl) && glB sc x && isTupE t && fineE y && okE T N a sc y
    | _ => false
  | .zip a b, sc, t, e => match e with
    | .Call (.Name x _) [y, z] [] _ => decide (x = "zip") && decide (x ∈ T.bl) && glB sc x && isTupE t && fineE y && fineE z && okE T N a sc y && okE T N b sc z
    | _ => false
def okL (T : Tab) (N : List Str) : List ME → Scope → List Expr → Bool
  | [], sc, xs => match xs with
    | [] => true
    | _ => false
  | m :: ms, sc, xs => match xs with
    | x :: xs => fineE x && okE T N m sc x && okL T N ms sc xs
    | _ => false
end

/-- what the module's constants hold -/
abbrev GlOk (K : PySem.W.Frag) (mg : Str → Option Value) (gls : List Str) (G : List D) : Prop := ∀ (j : Nat) (x : Str) (d : D), gls[j]? = some x → G[j]? = some d → ∃ u v, mg x = some u ∧ RelV v u ∧ (∀ S, Rp K S v d) ∧ ∀ p o, v = .ref p → K.lookup p = some o → o.dict = none
/-! ### the context of a body -/
structure XOk (Γ : Ctx) (T : Tab) (N : List Str) (sc scT : Scope) (k : Nat) (X : Cx) : Prop where
  hN : X.N = N
  hsc : X.env.scope = sc
  calm : X.calm = true
  nd : N.Nodup
  room : Room k X.A
  loc : ∀ x, locB scT x = true → Loc X.env.scope x ∧ (X.fn x = true ∨ X.env.scope.names.lookup x = some .local)
  fn : ∀ (f : Nat) (x : Str), T.fns[f]? = some x → ∃ fa fd ps, X.mg x = some (.ref fa) ∧ PySem.W.keepIn X.K (.ref fa) = true ∧ Binds X.K fd ps [] ∧ FnOk X.prog X.w X.K X.mg X.base CX0 k fa fd ps (spC X.K (Γ.C f))
  gl : GlOk X.K X.mg T.gls Γ.G
  bl : ∀ x ∈ T.bl, X.mg x = none
  gd : T.rp = true → X.A.guards = some []
section
variable {Γ : Ctx} {T : Tab} {N : List Str} {sc scT : Scope} {k : Nat} {X : Cx}
theorem locB_p {sc : Scope} {x : Str} (h : locB sc x = true) : sc.names.lookup x = some .local ∨ sc.names.lookup x = some .cell := by
  unfold locB at h
  split at h
  · exact .inl (by assumption)
  · exact .inr (by assumption)
  · cases h
theorem XOk.vis (h : XOk Γ T N sc scT k X) {x : Str} (hx : visB sc x = true) : Vis X.env.scope x := by
  rw [h.hsc]
  unfold visB at hx
  split at hx
  · exact .inl (by assumption)
  · exact .inr (.inl (by assumption))
  · exact .inr (.inr (by assumption))
  · cases hx
theorem XOk.glo (h : XOk Γ T N sc scT k X) {x : Str} (hx : glB sc x = true) : Gl X x := by
  show X.env.scope.names.lookup x = _
  rw [h.hsc]
  unfold glB at hx
  split at hx
  · assumption
  · cases hx
theorem nmB_p {x : Str} (h : nmB x = true) : (x == ("__debug__" : Str)) = false ∧ (x == ("__classdict__" : Str)) = false ∧ x ≠ "__name__" := by
  unfold nmB at h
  simp only [Bool.and_eq_true, Bool.not_eq_true'] at h
  exact ⟨h.1.1, h.1.2, fun e => by subst e; exact absurd h.2 (by decide)⟩
theorem XOk.hu (h : XOk Γ T N sc scT k X) : X.A.units + 66 < cLine := by have := h.room.un; omega
theorem XOk.blk (h : XOk Γ T N sc scT k X) {scope : Scope} (s : Shared) (H : Hp) (C : Addr) (cl : List (Str × Addr)) (fp : List Addr) : XOk Γ T N (relS scope sc) scope k (X.blk s H scope (compEnvC scope cl C X.env) fp) := by
  refine ⟨h.hN, ?_, h.calm, h.nd, h.room, fun x hx => ?_, h.fn, h.gl, h.bl, h.gd⟩
  · show relS scope X.env.scope = _
    rw [h.hsc]
  · have e : (X.blk s H scope (compEnvC scope cl C X.env) fp).env.scope = relS scope X.env.scope := rfl
    rcases locB_p hx with q | q
    · have := lookup_relS_keep (sc := X.env.scope) (k := .local) (by decide) q
      exact ⟨.inl this, .inr this⟩
    · have := lookup_relS_keep (sc := X.env.scope) (k := .cell) (by decide) q
      exact ⟨.inr this, .inl (by show (scope.names.lookup x == some .cell) = true; rw [q]; rfl)⟩

/-! ### readings -/
def tE (K : PySem.W.Frag) (Γ : Ctx) (m : ME) : TE := fun σ H Q => ∃ S env r env', RepEnv K S H σ env ∧ ev Γ m env = some (r, env') ∧ ∀ v S' H', Psv K S H σ env S' H' env' v r → Q v H'
def tT (K : PySem.W.Frag) (Γ : Ctx) (m : ME) : TT := fun σ H Q => ∃ S env c env', RepEnv K S H σ env ∧ evC Γ m env = some (c, env') ∧ ∀ S' H', Pst K S H σ env S' H' env' → Q c H'
def tL (K : PySem.W.Frag) (Γ : Ctx) (ms : List ME) : TA := fun σ H Q => ∃ S env rs env', RepEnv K S H σ env ∧ evL Γ ms env = some (rs, env') ∧ ∀ vs S' H', Psl K S H σ env S' H' env' vs rs → Q vs H'
/-- a display's items, frozen one by one -/
def tF (K : PySem.W.Frag) (Γ : Ctx) (ms : List ME) : TA := fun σ H Q => ∃ S env xs env', RepEnv K S H σ env ∧ evF Γ ms env = some (xs, env') ∧ ∀ vs S' H', Pst K S H σ env S' H' env' → Rps K S' vs xs → Q vs H'
theorem PE.imp {e : Expr} {t t' : TE} (h : PE X e t) (w : ∀ σ H Q, t' σ H Q → t σ H Q) : PE X e t' := ⟨fun pins s σ H Q I q => h.run pins s σ H Q I (w σ H Q q)⟩
theorem PT.imp {e : Expr} {t t' : TT} (h : PT X e t) (w : ∀ σ H Q, t' σ H Q → t σ H Q) : PT X e t' := ⟨fun pins s σ H Q I q => h.run pins s σ H Q I (w σ H Q q)⟩
theorem PW.imp {e : Expr} {t t' : TT} (h : PW X e t) (w : ∀ σ H Q, t' σ H Q → t σ H Q) : PW X e t' := ⟨fun wh pins s σ H Q I q => h.run wh pins s σ H Q I (w σ H Q q)⟩
theorem PA.imp {e : List Expr} {t t' : TA} (h : PA X e t) (w : ∀ σ H Q, t' σ H Q → t σ H Q) : PA X e t' := ⟨fun pos pins s σ H Q I q => h.run pos pins s σ H Q I (w σ H Q q)⟩
theorem PI.imp {tg e : Expr} {t t' : TI} (h : PI X tg e t) (w : ∀ σ H Q, t' σ H Q → t σ H Q) : PI X tg e t' := ⟨fun pins s σ H Q I q => h.run pins s σ H Q I (w σ H Q q)⟩
theorem PS.imp {e : Stmt} {t t' : TS} (h : PS X e t) (w : ∀ D σ H, t' D σ H → t D σ H) : PS X e t' := ⟨fun pins s σ H D I q => h.run pins s σ H D I (w D σ H q)⟩
theorem PSs.imp {e : List Stmt} {t t' : TS} (h : PSs X e t) (w : ∀ D σ H, t' D σ H → t D σ H) : PSs X e t' := ⟨fun pins s σ H D I q => h.run pins s σ H D I (w D σ H q)⟩
theorem PG.imp {e : Expr} {t t' : TG} (h : PG X e t) (w : ∀ v σ H Q, t' v σ H Q → t v σ H Q) : PG X e t' := ⟨fun pins s σ H v u Q I r q => h.run pins s σ H v u Q I r (w v σ H Q q)⟩

/-- what may hang on a mini expression -/
structure SndE (Γ : Ctx) (T : Tab) (N : List Str) (m : ME) : Prop where
  e : ∀ {sc scT k X e}, XOk Γ T N sc scT k X → okE T N m sc e = true → PE X e (tE X.K Γ m)
  t : ∀ {sc scT k X e}, XOk Γ T N sc scT k X → okE T N m sc e = true → PT X e (tT X.K Γ m)
theorem tru_tT {e : Expr} {m : ME} (h : PE X e (tE X.K Γ m)) (he : ∀ whole, isTrue e X.env whole = (do let v ← whole; standAt e.pos; holding [v] (truthy v))) : PT X e (tT X.K Γ m) := by
  refine PT.imp (pt_truth h he) fun σ H Q q => ?_
  obtain ⟨S, env, c, env', rep, e1, q⟩ := q
  obtain ⟨⟨r, e2⟩, h1, h2⟩ := Option.bind_eq_some_iff.mp (show (ev Γ m env).bind _ = some _ from e1)
  obtain ⟨c', h3, h4⟩ := Option.map_eq_some_iff.mp h2
  cases h4
  obtain ⟨x, h5, h6⟩ := Option.bind_eq_some_iff.mp (show (cur env' r).bind truD = some c from h3)
  exact ⟨S, env, r, env', rep, h1, fun v S' H' p => ⟨c, tru_rep p.rep.same (repC_of p.rep p.res h5) h6, q S' H' p.toPst⟩⟩
end
end Ev

namespace Ev
open PySem L2
section
variable {Γ : Ctx} {T : Tab} {N : List Str} {sc scT : Scope} {k : Nat} {X : Cx}

theorem psv_refl {K : PySem.W.Frag} {S H : Hp} {σ : St} {env : Env} {v : V} {r : Rv} (rep : RepEnv K S H σ env) (res : RepR K S H σ env v r) (n : ∀ w, r = .v w → ∀ b, Root H v w b → H b = none) : Psv K S H σ env S H env v r :=
  ⟨Pst.refl rep, res, n⟩
theorem psv_dat {K : PySem.W.Frag} {S H : Hp} {σ : St} {env : Env} {v : V} {x : D} (rep : RepEnv K S H σ env) (r : Rp K S v x) : Psv K S H σ env S H env v (.v (.d x)) :=
  psv_refl rep ⟨r, fun _ z => z.elim⟩ fun w e b z => by cases e; exact z.elim
theorem snd_var (i : Nat) : SndE Γ T N (.var i) := by
  have ee : ∀ {sc scT k X e}, XOk Γ T N sc scT k X → okE T N (.var i) sc e = true → PE X e (tE X.K Γ (.var i)) := by
    intro sc scT k X e hX h
    simp only [okE] at h
    split at h
    · rename_i x p
      simp only [Bool.and_eq_true, decide_eq_true_eq] at h
      obtain ⟨⟨h1, h2⟩, h3⟩ := h
      obtain ⟨n1, n2, _⟩ := nmB_p h3
      refine PE.imp (pe_var (by rw [hX.hN]; exact h1) (hX.vis h2) n1 n2) fun σ H Q q => ?_
      obtain ⟨S, env, r, env', rep, e1, q⟩ := q
      simp only [ev] at e1
      split at e1
      · rename_i x hx
        cases e1
        obtain ⟨v, k1, k2⟩ := rep.get i _ hx
        exact ⟨v, slotV_get k1, q v S H (psv_dat rep k2)⟩
      · rename_i w hne hw
        cases e1
        obtain ⟨v, k1, k2⟩ := rep.get i _ hw
        exact ⟨v, slotV_get k1, q v S H (psv_refl rep k1 fun _ z => nomatch z)⟩
      · cases e1
    · cases h
  refine ⟨ee, fun hX h => ?_⟩
  rename_i sc scT k X e
  have h2 := h
  simp only [okE] at h2
  split at h2
  · exact tru_tT (ee hX h) fun _ => rfl
  · cases h2
theorem snd_con (c : D) : SndE Γ T N (.con c) := by
  have ee : ∀ {sc scT k X e}, XOk Γ T N sc scT k X → okE T N (.con c) sc e = true → PE X e (tE X.K Γ (.con c)) := by
    intro sc scT k X e hX h
    simp only [okE] at h
    split at h
    · rename_i kk j p
      unfold conB at h
      split at h
      · refine PE.imp pe_non fun σ H Q q => ?_
        obtain ⟨S, env, r, env', rep, e1, q⟩ := q
        cases e1
        exact q _ S H (psv_dat rep .non)
      · have := eq_of_beq h
        subst this
        refine PE.imp pe_bl fun σ H Q q => ?_
        obtain ⟨S, env, r, env', rep, e1, q⟩ := q
        cases e1
        exact q _ S H (psv_dat rep (.bl _))
      · have := eq_of_beq h
        subst this
        refine PE.imp pe_int fun σ H Q q => ?_
        obtain ⟨S, env, r, env', rep, e1, q⟩ := q
        cases e1
        exact q _ S H (psv_dat rep (.int _))
      · have := of_decide_eq_true h
        subst this
        refine PE.imp pe_str fun σ H Q q => ?_
        obtain ⟨S, env, r, env', rep, e1, q⟩ := q
        cases e1
        exact q _ S H (psv_dat rep (.str _))
      · cases h
    · cases h
  refine ⟨ee, fun hX h => ?_⟩
  rename_i sc scT k X e
  have h2 := h
  simp only [okE] at h2
  split at h2
  · exact tru_tT (ee hX h) fun _ => rfl
  · cases h2
theorem snd_glb (j : Nat) : SndE Γ T N (.glb j) := by
  have ee : ∀ {sc scT k X e}, XOk Γ T N sc scT k X → okE T N (.glb j) sc e = true → PE X e (tE X.K Γ (.glb j)) := by
    intro sc scT k X e hX h
    simp only [okE] at h
    split at h
    · rename_i x p
      simp only [Bool.and_eq_true, decide_eq_true_eq] at h
      obtain ⟨⟨h1, h2⟩, h3⟩ := h
      obtain ⟨n1, n2, _⟩ := nmB_p h3
      refine ⟨fun pins s σ H Q I q => ?_⟩
      obtain ⟨S, env, r, env', rep, e1, q⟩ := q
      simp only [ev, Option.map_eq_some_iff] at e1
      obtain ⟨d, hd, e2⟩ := e1
      cases e2
      obtain ⟨u, v, m1, m2, m3, _⟩ := hX.gl j x d h1 hd
      exact (pe_glob (hX.glo h2) m1 m2 n1).run pins s σ H Q I (q v S H (psv_dat rep (m3 S)))
    · cases h
  refine ⟨ee, fun hX h => ?_⟩
  rename_i sc scT k X e
  have h2 := h
  simp only [okE] at h2
  split at h2
  · exact tru_tT (ee hX h) fun _ => rfl
  · cases h2
theorem RepR.cur {K : PySem.W.Frag} {S1 H1 S2 H2 : Hp} {σ : St} {env1 env2 : Env} {v : V} {r : Rv} {x : D} (res : RepR K S1 H1 σ env1 v r) (p : Pst K S1 H1 σ env1 S2 H2 env2) (e : cur env2 r = some x) : RepC K S2 H2 v x :=
  repC_of p.rep (res.step p) e
theorem snd_bin (op : BOp) {a b : ME} (ha : SndE Γ T N a) (hb : SndE Γ T N b) : SndE Γ T N (.bin op a b) := by
  have ee : ∀ {sc scT k X e}, XOk Γ T N sc scT k X → okE T N (.bin op a b) sc e = true → PE X e (tE X.K Γ (.bin op a b)) := by
    intro sc scT k X e hX h
    simp only [okE] at h
    split at h
    · rename_i x o y p
      simp only [Bool.and_eq_true, decide_eq_true_eq] at h
      obtain ⟨⟨h1, h2⟩, h3⟩ := h
      subst h1
      refine PE.imp (pe_op (r_bin op) (ha.e hX h2) (hb.e hX h3)) fun σ H Q q => ?_
      obtain ⟨S, env, r, env', rep, e1, q⟩ := q
      simp only [ev] at e1
      obtain ⟨⟨ra, e2⟩, g1, e1⟩ := Option.bind_eq_some_iff.mp e1
      obtain ⟨⟨rb, e3⟩, g2, e1⟩ := Option.bind_eq_some_iff.mp e1
      obtain ⟨dx, g3, e1⟩ := Option.bind_eq_some_iff.mp e1
      obtain ⟨dy, g4, e1⟩ := Option.bind_eq_some_iff.mp e1
      obtain ⟨w, g5, e1⟩ := Option.map_eq_some_iff.mp e1
      cases e1
      refine ⟨S, env, ra, e2, rep, g1, fun v1 S1 H1 p1 => ⟨S1, e2, rb, _, p1.rep, g2, fun v2 S2 H2 p2 => ?_⟩⟩
      exact ⟨S2, dx, dy, w, p2.rep.same, p1.res.cur p2.toPst g3, repC_of p2.rep p2.res g4, g5, fun v S' H' g rv n => q v S' H' (psv_gr (p1.toPst.trans p2.toPst) g rv n)⟩
    · cases h
  refine ⟨ee, fun hX h => ?_⟩
  rename_i sc scT k X e
  have h2 := h
  simp only [okE] at h2
  split at h2
  · exact tru_tT (ee hX h) fun _ => rfl
  · cases h2
theorem snd_neg {a : ME} (ha : SndE Γ T N a) : SndE Γ T N (.neg a) := by
  have ee : ∀ {sc scT k X e}, XOk Γ T N sc scT k X → okE T N (.neg a) sc e = true → PE X e (tE X.K Γ (.neg a)) := by
    intro sc scT k X e hX h
    simp only [okE] at h
    split at h
    · rename_i o x p
      simp only [Bool.and_eq_true, decide_eq_true_eq] at h
      obtain ⟨h1, h2⟩ := h
      subst h1
      refine PE.imp (pe_un un_neg (ha.e hX h2)) fun σ H Q q => ?_
      obtain ⟨S, env, r, env', rep, e1, q⟩ := q
      simp only [ev] at e1
      obtain ⟨⟨ra, e2⟩, g1, e1⟩ := Option.bind_eq_some_iff.mp e1
      obtain ⟨dx, g3, e1⟩ := Option.bind_eq_some_iff.mp e1
      refine ⟨S, env, ra, e2, rep, g1, fun v1 S1 H1 p1 => ?_⟩
      cases dx with
      | int i =>
        cases e1
        have e := (repC_of p1.rep p1.res g3).int
        subst e
        exact ⟨i, rfl, q _ S1 H1 (psv_gr p1.toPst (Gr.refl p1.rep.same) (.int _) fun _ z => z.elim)⟩
      | _ => cases e1
    · cases h
  refine ⟨ee, fun hX h => ?_⟩
  rename_i sc scT k X e
  have h2 := h
  simp only [okE] at h2
  split at h2
  · simp only [Bool.and_eq_true, decide_eq_true_eq] at h2
    obtain ⟨h2, _⟩ := h2
    subst h2
    exact tru_tT (ee hX h) fun _ => rfl
  · cases h2
theorem snd_cmp (op : COp) {a b : ME} (ha : SndE Γ T N a) (hb : SndE Γ T N b) : SndE Γ T N (.cmp op a b) := by
  have rd_ : ∀ {K : PySem.W.Frag} {σ : St} {H : Hp} {Q : Bool → Hp → Prop}, tT K Γ (.cmp op a b) σ H Q → tOp (rCmp K op) (tE K Γ a) (tE K Γ b) σ H fun x H' => ∃ k, x = .bl k ∧ Q k H' := by
    intro K σ H Q q
    obtain ⟨S, env, c, env', rep, e1, q⟩ := q
    simp only [evC, ev] at e1
    obtain ⟨⟨r0, e0⟩, e1, e9⟩ := Option.bind_eq_some_iff.mp e1
    obtain ⟨⟨ra, e2⟩, g1, e1⟩ := Option.bind_eq_some_iff.mp e1
    obtain ⟨⟨rb, e3⟩, g2, e1⟩ := Option.bind_eq_some_iff.mp e1
    obtain ⟨dx, g3, e1⟩ := Option.bind_eq_some_iff.mp e1
    obtain ⟨dy, g4, e1⟩ := Option.bind_eq_some_iff.mp e1
    obtain ⟨w, g5, e1⟩ := Option.map_eq_some_iff.mp e1
    cases e1
    cases e9
    refine ⟨S, env, ra, e2, rep, g1, fun v1 S1 H1 p1 => ⟨S1, e2, rb, _, p1.rep, g2, fun v2 S2 H2 p2 => ?_⟩⟩
    exact ⟨S2, dx, dy, c, p2.rep.same, p1.res.cur p2.toPst g3, repC_of p2.rep p2.res g4, g5, c, rfl, q S2 H2 (p1.toPst.trans p2.toPst)⟩
  have re_ : ∀ {K : PySem.W.Frag} {σ : St} {H : Hp} {Q : VK}, tE K Γ (.cmp op a b) σ H Q → tOp (rCmp K op) (tE K Γ a) (tE K Γ b) σ H Q := by
    intro K σ H Q q
    obtain ⟨S, env, r, env', rep, e1, q⟩ := q
    simp only [ev] at e1
    obtain ⟨⟨ra, e2⟩, g1, e1⟩ := Option.bind_eq_some_iff.mp e1
    obtain ⟨⟨rb, e3⟩, g2, e1⟩ := Option.bind_eq_some_iff.mp e1
    obtain ⟨dx, g3, e1⟩ := Option.bind_eq_some_iff.mp e1
    obtain ⟨dy, g4, e1⟩ := Option.bind_eq_some_iff.mp e1
    obtain ⟨w, g5, e1⟩ := Option.map_eq_some_iff.mp e1
    cases e1
    refine ⟨S, env, ra, e2, rep, g1, fun v1 S1 H1 p1 => ⟨S1, e2, rb, _, p1.rep, g2, fun v2 S2 H2 p2 => ?_⟩⟩
    exact ⟨S2, dx, dy, w, p2.rep.same, p1.res.cur p2.toPst g3, repC_of p2.rep p2.res g4, g5, q _ S2 H2 (psv_gr (p1.toPst.trans p2.toPst) (Gr.refl p2.rep.same) (.bl _) fun _ z => z.elim)⟩
  refine ⟨fun hX h => ?_, fun hX h => ?_⟩
  · simp only [okE] at h
    split at h
    · rename_i x o y p
      simp only [Bool.and_eq_true, decide_eq_true_eq] at h
      obtain ⟨⟨⟨h1, h4⟩, h2⟩, h3⟩ := h
      subst h1
      exact PE.imp (pe_cmpR (r_cmp op hX.hu) (ha.e hX h2) (hb.e hX h3) (nomarkE h4)) fun σ H Q q => re_ q
    · cases h
  · simp only [okE] at h
    split at h
    · rename_i x o y p
      simp only [Bool.and_eq_true, decide_eq_true_eq] at h
      obtain ⟨⟨⟨h1, h4⟩, h2⟩, h3⟩ := h
      subst h1
      exact PT.imp (pt_cmpR (r_cmp op hX.hu) (ha.e hX h2) (hb.e hX h3) (nomarkE h4)) fun σ H Q q => rd_ q
    · cases h
theorem snd_chain (op op' : COp) {a b c : ME} (ha : SndE Γ T N a) (hb : SndE Γ T N b) (hc : SndE Γ T N c) : SndE Γ T N (.chain op op' a b c) := by
  have re_ : ∀ {K : PySem.W.Frag} {σ : St} {H : Hp} {Q : VK}, tE K Γ (.chain op op' a b c) σ H Q → tChain (rCmp K op) (rCmp K op') (tE K Γ a) (tE K Γ b) (tE K Γ c) σ H Q := by
    intro K σ H Q q
    obtain ⟨S, env, r, env', rep, e1, q⟩ := q
    simp only [ev] at e1
    obtain ⟨⟨ra, e2⟩, g1, e1⟩ := Option.bind_eq_some_iff.mp e1
    obtain ⟨⟨rb, e3⟩, g2, e1⟩ := Option.bind_eq_some_iff.mp e1
    obtain ⟨dx, g3, e1⟩ := Option.bind_eq_some_iff.mp e1
    obtain ⟨dy, g4, e1⟩ := Option.bind_eq_some_iff.mp e1
    obtain ⟨w, g5, e1⟩ := Option.bind_eq_some_iff.mp e1
    refine ⟨S, env, ra, e2, rep, g1, fun v1 S1 H1 p1 => ⟨S1, e2, rb, e3, p1.rep, g2, fun v2 S2 H2 p2 => ?_⟩⟩
    refine ⟨S2, dx, dy, w, p2.rep.same, p1.res.cur p2.toPst g3, repC_of p2.rep p2.res g4, g5, w, rfl, ?_⟩
    cases w with
    | false =>
      simp only [Bool.false_eq_true, if_false] at e1 ⊢
      cases e1
      exact q _ S2 H2 (psv_gr (p1.toPst.trans p2.toPst) (Gr.refl p2.rep.same) (.bl _) fun _ z => z.elim)
    | true =>
      simp only [if_true] at e1 ⊢
      obtain ⟨⟨rc, e4⟩, g6, e1⟩ := Option.bind_eq_some_iff.mp e1
      obtain ⟨dy', g7, e1⟩ := Option.bind_eq_some_iff.mp e1
      obtain ⟨dz, g8, e1⟩ := Option.bind_eq_some_iff.mp e1
      obtain ⟨k', g9, e1⟩ := Option.map_eq_some_iff.mp e1
      cases e1
      refine ⟨S2, e3, rc, _, p2.rep, g6, fun v3 S3 H3 p3 => ?_⟩
      exact ⟨S3, dy', dz, k', p3.rep.same, p2.res.cur p3.toPst g7, repC_of p3.rep p3.res g8, g9, q _ S3 H3 (psv_gr ((p1.toPst.trans p2.toPst).trans p3.toPst) (Gr.refl p3.rep.same) (.bl _) fun _ z => z.elim)⟩
  have rd_ : ∀ {K : PySem.W.Frag} {σ : St} {H : Hp} {Q : Bool → Hp → Prop}, tT K Γ (.chain op op' a b c) σ H Q → tChain (rCmp K op) (rCmp K op') (tE K Γ a) (tE K Γ b) (tE K Γ c) σ H fun x H' => ∃ k, x = .bl k ∧ Q k H' := by
    intro K σ H Q q
    refine re_ ?_
    obtain ⟨S, env, c', env', rep, e1, q⟩ := q
    obtain ⟨⟨r0, e0⟩, e1, e9⟩ := Option.bind_eq_some_iff.mp (show (ev Γ (.chain op op' a b c) env).bind _ = some _ from e1)
    have hr : ∃ k, r0 = .v (.d (.bool k)) := by
      simp only [ev] at e1
      obtain ⟨⟨ra, e2⟩, g1, e1⟩ := Option.bind_eq_some_iff.mp e1
      obtain ⟨⟨rb, e3⟩, g2, e1⟩ := Option.bind_eq_some_iff.mp e1
      obtain ⟨dx, g3, e1⟩ := Option.bind_eq_some_iff.mp e1
      obtain ⟨dy, g4, e1⟩ := Option.bind_eq_some_iff.mp e1
      obtain ⟨w, g5, e1⟩ := Option.bind_eq_some_iff.mp e1
      cases w with
      | false =>
        simp only [Bool.false_eq_true, if_false] at e1
        cases e1
        exact ⟨_, rfl⟩
      | true =>
        simp only [if_true] at e1
        obtain ⟨⟨rc, e4⟩, g6, e1⟩ := Option.bind_eq_some_iff.mp e1
        obtain ⟨dy', g7, e1⟩ := Option.bind_eq_some_iff.mp e1
        obtain ⟨dz, g8, e1⟩ := Option.bind_eq_some_iff.mp e1
        obtain ⟨k', g9, e1⟩ := Option.map_eq_some_iff.mp e1
        cases e1
        exact ⟨_, rfl⟩
    obtain ⟨kk, rfl⟩ := hr
    cases e9
    refine ⟨S, env, _, _, rep, e1, fun v S' H' p => ?_⟩
    have := (repC_of p.rep p.res (show cur env' (.v (.d (.bool c'))) = some (.bool c') from rfl)).bool
    exact ⟨c', this, q S' H' p.toPst⟩
  refine ⟨fun hX h => ?_, fun hX h => ?_⟩
  · simp only [okE] at h
    split at h
    · rename_i x o o' y z p
      simp only [Bool.and_eq_true, decide_eq_true_eq] at h
      obtain ⟨⟨⟨⟨⟨h1, h2⟩, h3⟩, h4⟩, h5⟩, h6⟩ := h
      subst h1 h2
      exact PE.imp (pe_chain (r_cmp op hX.hu) (r_cmp op' hX.hu) (ha.e hX h4) (hb.e hX h5) (hc.e hX h6) (nomarkE h3)) fun σ H Q q => re_ q
    · cases h
  · simp only [okE] at h
    split at h
    · rename_i x o o' y z p
      simp only [Bool.and_eq_true, decide_eq_true_eq] at h
      obtain ⟨⟨⟨⟨⟨h1, h2⟩, h3⟩, h4⟩, h5⟩, h6⟩ := h
      subst h1 h2
      exact PT.imp (pt_chain (r_cmp op hX.hu) (r_cmp op' hX.hu) (ha.e hX h4) (hb.e hX h5) (hc.e hX h6) (nomarkE h3)) fun σ H Q q => rd_ q
    · cases h
end
end Ev

namespace Ev
open PySem L2
section
variable {Γ : Ctx} {T : Tab} {N : List Str} {sc scT : Scope} {k : Nat} {X : Cx}
theorem pw_of {op : BoolOp} {vs : List Expr} {p : Pos} {t : TT} (h : PT X (.BoolOp op vs p) t) : PW X (.BoolOp op vs p) t := ⟨fun _ pins s σ H Q I q => h.run pins s σ H Q I q⟩
theorem evC_of {m : ME} {env e1 : Env} {r : Rv} {c : Bool} (h : ev Γ m env = some (r, e1)) (h2 : truR e1 r = some c) : evC Γ m env = some (c, e1) := by
  unfold evC
  rw [h]
  simp [h2]
theorem evC_to {m : ME} {env e1 : Env} {c : Bool} (h : evC Γ m env = some (c, e1)) : ∃ r, ev Γ m env = some (r, e1) ∧ truR e1 r = some c := by
  obtain ⟨⟨r, e⟩, h1, h2⟩ := Option.bind_eq_some_iff.mp (show (ev Γ m env).bind _ = some _ from h)
  obtain ⟨c', h3, h4⟩ := Option.map_eq_some_iff.mp h2
  cases h4
  exact ⟨r, h1, h3⟩
theorem tru_of {K : PySem.W.Frag} {S H S' H' : Hp} {σ : St} {env env' : Env} {v : V} {r : Rv} {c : Bool} (p : Psv K S H σ env S' H' env' v r) (h : truR env' r = some c) : TruV K v H' c := by
  obtain ⟨x, h5, h6⟩ := Option.bind_eq_some_iff.mp (show (cur env' r).bind truD = some c from h)
  exact tru_rep p.rep.same (repC_of p.rep p.res h5) h6
theorem psv_trans {K : PySem.W.Frag} {S H S1 H1 S2 H2 : Hp} {σ : St} {env env1 env2 : Env} {v : V} {r : Rv} (a : Pst K S H σ env S1 H1 env1) (b : Psv K S1 H1 σ env1 S2 H2 env2 v r) : Psv K S H σ env S2 H2 env2 v r :=
  ⟨a.trans b.toPst, b.res, fun w e c hc => by
    have h := b.new w e c hc
    cases q : H c with
    | none => rfl
    | some o => exact absurd h (a.step.dm c (by rw [q]; simp))⟩
theorem snd_and {a b : ME} (ha : SndE Γ T N a) (hb : SndE Γ T N b) : SndE Γ T N (.andE a b) := by
  have re_ : ∀ {K : PySem.W.Frag} {σ : St} {H : Hp} {Q : VK}, tE K Γ (.andE a b) σ H Q → tAndT K (tE K Γ a) (tE K Γ b) σ H Q := by
    intro K σ H Q q
    obtain ⟨S, env, r, env', rep, e1, q⟩ := q
    simp only [ev] at e1
    obtain ⟨⟨ra, e2⟩, g1, e1⟩ := Option.bind_eq_some_iff.mp e1
    obtain ⟨c, g2, e1⟩ := Option.bind_eq_some_iff.mp e1
    refine ⟨S, env, ra, e2, rep, g1, fun v1 S1 H1 p1 => ⟨c, tru_of p1 g2, ?_⟩⟩
    cases c with
    | true =>
      simp only [if_true] at e1 ⊢
      exact ⟨S1, e2, r, env', p1.rep, e1, fun v2 S2 H2 p2 => q v2 S2 H2 (psv_trans p1.toPst p2)⟩
    | false =>
      simp only [Bool.false_eq_true, if_false] at e1 ⊢
      cases e1
      exact q v1 S1 H1 p1
  have rt_ : ∀ {K : PySem.W.Frag} {σ : St} {H : Hp} {Q : Bool → Hp → Prop}, tT K Γ (.andE a b) σ H Q → tAnd (tT K Γ a) (tT K Γ b) σ H Q := by
    intro K σ H Q q
    obtain ⟨S, env, c, env', rep, e1, q⟩ := q
    obtain ⟨r, e1, e9⟩ := evC_to e1
    simp only [ev] at e1
    obtain ⟨⟨ra, e2⟩, g1, e1⟩ := Option.bind_eq_some_iff.mp e1
    obtain ⟨d, g2, e1⟩ := Option.bind_eq_some_iff.mp e1
    refine ⟨S, env, d, e2, rep, evC_of g1 g2, fun S1 H1 p1 => ?_⟩
    cases d with
    | true =>
      simp only [if_true] at e1 ⊢
      exact ⟨S1, e2, c, env', p1.rep, evC_of e1 e9, fun S2 H2 p2 => q S2 H2 (p1.trans p2)⟩
    | false =>
      simp only [Bool.false_eq_true, if_false] at e1 ⊢
      cases e1
      rw [g2] at e9
      cases e9
      exact q S1 H1 p1
  refine ⟨fun hX h => ?_, fun hX h => ?_⟩
  · simp only [okE] at h
    split at h
    · rename_i x y p
      rw [Bool.and_eq_true] at h
      exact PE.imp (pe_andT (ha.e hX h.1) (pe_one (hb.e hX h.2))) fun σ H Q q => re_ q
    · rename_i x y z r p
      rw [Bool.and_eq_true] at h
      exact PE.imp (pe_andT (ha.e hX h.1) (hb.e hX h.2)) fun σ H Q q => re_ q
    · cases h
  · simp only [okE] at h
    split at h
    · rename_i x y p
      rw [Bool.and_eq_true] at h
      exact PT.imp (pw_and (ha.t hX h.1) (pw_and1 (hb.t hX h.2))).pt fun σ H Q q => rt_ q
    · rename_i x y z r p
      rw [Bool.and_eq_true] at h
      exact PT.imp (pw_and (ha.t hX h.1) (pw_of (hb.t hX h.2))).pt fun σ H Q q => rt_ q
    · cases h
theorem snd_or {a b : ME} (ha : SndE Γ T N a) (hb : SndE Γ T N b) : SndE Γ T N (.orE a b) := by
  have re_ : ∀ {K : PySem.W.Frag} {σ : St} {H : Hp} {Q : VK}, tE K Γ (.orE a b) σ H Q → tOrT K (tE K Γ a) (tE K Γ b) σ H Q := by
    intro K σ H Q q
    obtain ⟨S, env, r, env', rep, e1, q⟩ := q
    simp only [ev] at e1
    obtain ⟨⟨ra, e2⟩, g1, e1⟩ := Option.bind_eq_some_iff.mp e1
    obtain ⟨c, g2, e1⟩ := Option.bind_eq_some_iff.mp e1
    refine ⟨S, env, ra, e2, rep, g1, fun v1 S1 H1 p1 => ⟨c, tru_of p1 g2, ?_⟩⟩
    cases c with
    | false =>
      simp only [Bool.false_eq_true, if_false] at e1 ⊢
      exact ⟨S1, e2, r, env', p1.rep, e1, fun v2 S2 H2 p2 => q v2 S2 H2 (psv_trans p1.toPst p2)⟩
    | true =>
      simp only [if_true] at e1 ⊢
      cases e1
      exact q v1 S1 H1 p1
  have rt_ : ∀ {K : PySem.W.Frag} {σ : St} {H : Hp} {Q : Bool → Hp → Prop}, tT K Γ (.orE a b) σ H Q → tOr (tT K Γ a) (tT K Γ b) σ H Q := by
    intro K σ H Q q
    obtain ⟨S, env, c, env', rep, e1, q⟩ := q
    obtain ⟨r, e1, e9⟩ := evC_to e1
    simp only [ev] at e1
    obtain ⟨⟨ra, e2⟩, g1, e1⟩ := Option.bind_eq_some_iff.mp e1
    obtain ⟨d, g2, e1⟩ := Option.bind_eq_some_iff.mp e1
    refine ⟨S, env, d, e2, rep, evC_of g1 g2, fun S1 H1 p1 => ?_⟩
    cases d with
    | false =>
      simp only [Bool.false_eq_true, if_false] at e1 ⊢
      exact ⟨S1, e2, c, env', p1.rep, evC_of e1 e9, fun S2 H2 p2 => q S2 H2 (p1.trans p2)⟩
    | true =>
      simp only [if_true] at e1 ⊢
      cases e1
      rw [g2] at e9
      cases e9
      exact q S1 H1 p1
  refine ⟨fun hX h => ?_, fun hX h => ?_⟩
  · simp only [okE] at h
    split at h
    · rename_i x y p
      rw [Bool.and_eq_true] at h
      exact PE.imp (pe_orT (ha.e hX h.1) (pe_one (hb.e hX h.2))) fun σ H Q q => re_ q
    · rename_i x y z r p
      rw [Bool.and_eq_true] at h
      exact PE.imp (pe_orT (ha.e hX h.1) (hb.e hX h.2)) fun σ H Q q => re_ q
    · cases h
  · simp only [okE] at h
    split at h
    · rename_i x y p
      rw [Bool.and_eq_true] at h
      exact PT.imp (pw_or (ha.t hX h.1) (pw_or1 (hb.t hX h.2))).pt fun σ H Q q => rt_ q
    · rename_i x y z r p
      rw [Bool.and_eq_true] at h
      exact PT.imp (pw_or (ha.t hX h.1) (pw_of (hb.t hX h.2))).pt fun σ H Q q => rt_ q
    · cases h
theorem snd_not {a : ME} (ha : SndE Γ T N a) : SndE Γ T N (.notE a) := by
  refine ⟨fun hX h => ?_, fun hX h => ?_⟩
  · simp only [okE] at h
    split at h
    · simp only [Bool.and_eq_true, decide_eq_true_eq] at h
      obtain ⟨h1, h2⟩ := h
      subst h1
      refine PE.imp (pe_notT (ha.e hX h2)) fun σ H Q q => ?_
      obtain ⟨S, env, r, env', rep, e1, q⟩ := q
      simp only [ev] at e1
      obtain ⟨⟨ra, e2⟩, g1, e1⟩ := Option.bind_eq_some_iff.mp e1
      obtain ⟨c, g2, e1⟩ := Option.map_eq_some_iff.mp e1
      cases e1
      exact ⟨S, env, ra, _, rep, g1, fun v1 S1 H1 p1 => ⟨c, tru_of p1 g2, q _ S1 H1 (psv_gr p1.toPst (Gr.refl p1.rep.same) (.bl _) fun _ z => z.elim)⟩⟩
    · cases h
  · simp only [okE] at h
    split at h
    · simp only [Bool.and_eq_true, decide_eq_true_eq] at h
      obtain ⟨h1, h2⟩ := h
      subst h1
      refine PT.imp (pt_not (ha.t hX h2)) fun σ H Q q => ?_
      obtain ⟨S, env, c, env', rep, e1, q⟩ := q
      obtain ⟨r, e1, e9⟩ := evC_to e1
      simp only [ev] at e1
      obtain ⟨⟨ra, e2⟩, g1, e1⟩ := Option.bind_eq_some_iff.mp e1
      obtain ⟨d, g2, e1⟩ := Option.map_eq_some_iff.mp e1
      cases e1
      cases e9
      exact ⟨S, env, d, _, rep, evC_of g1 g2, fun S1 H1 p1 => q S1 H1 p1⟩
    · cases h
theorem snd_ite {c a b : ME} (hc : SndE Γ T N c) (ha : SndE Γ T N a) (hb : SndE Γ T N b) : SndE Γ T N (.ite c a b) := by
  refine ⟨fun hX h => ?_, fun {sc scT k X0 e} hX h => ?_⟩
  · simp only [okE] at h
    split at h
    · simp only [Bool.and_eq_true] at h
      obtain ⟨⟨h1, h2⟩, h3⟩ := h
      refine PE.imp (pe_ifExp (hc.t hX h1) (ha.e hX h2) (hb.e hX h3)) fun σ H Q q => ?_
      obtain ⟨S, env, r, env', rep, e1, q⟩ := q
      simp only [ev] at e1
      obtain ⟨⟨rc, e2⟩, g1, e1⟩ := Option.bind_eq_some_iff.mp e1
      obtain ⟨d, g2, e1⟩ := Option.bind_eq_some_iff.mp e1
      refine ⟨S, env, d, e2, rep, evC_of g1 g2, fun S1 H1 p1 => ?_⟩
      cases d with
      | true =>
        simp only [if_true] at e1 ⊢
        exact ⟨S1, e2, r, env', p1.rep, e1, fun v2 S2 H2 p2 => q v2 S2 H2 (psv_trans p1 p2)⟩
      | false =>
        simp only [Bool.false_eq_true, if_false] at e1 ⊢
        exact ⟨S1, e2, r, env', p1.rep, e1, fun v2 S2 H2 p2 => q v2 S2 H2 (psv_trans p1 p2)⟩
    · cases h
  · simp only [okE] at h
    split at h
    · rename_i z x y p
      simp only [Bool.and_eq_true] at h
      obtain ⟨⟨h1, h2⟩, h3⟩ := h
      refine ⟨fun pins s σ H Q I q => ?_⟩
      obtain ⟨S, env, c', env', rep, e1, q⟩ := q
      obtain ⟨r, e1, e9⟩ := evC_to e1
      simp only [ev] at e1
      obtain ⟨⟨rc, e2⟩, g1, e1⟩ := Option.bind_eq_some_iff.mp e1
      obtain ⟨d, g2, e1⟩ := Option.bind_eq_some_iff.mp e1
      show wpAny _ _ (do if (← PySem.isTrue z X0.env (eval z X0.env)) then PySem.isTrue x X0.env (eval x X0.env) else PySem.isTrue y X0.env (eval y X0.env)) _ _ s
      refine wpAny_bind (thn ((hc.t hX h1).run pins s σ H (fun dd H1 => if dd = true then tT X0.K Γ a σ H1 Q else tT X0.K Γ b σ H1 Q) I ⟨S, env, d, e2, rep, evC_of g1 g2, fun S1 H1 p1 => ?_⟩) fun d' s1 ⟨H1, I1, q1⟩ => ?_)
      · cases d with
        | true =>
          simp only [if_true] at e1 ⊢
          exact ⟨S1, e2, c', env', p1.rep, evC_of e1 e9, fun S2 H2 p2 => q S2 H2 (p1.trans p2)⟩
        | false =>
          simp only [Bool.false_eq_true, if_false] at e1 ⊢
          exact ⟨S1, e2, c', env', p1.rep, evC_of e1 e9, fun S2 H2 p2 => q S2 H2 (p1.trans p2)⟩
      · cases d' with
        | true => exact (ha.t hX h2).run pins s1 σ H1 Q I1 q1
        | false => exact (hb.t hX h3).run pins s1 σ H1 Q I1 q1
    · cases h

/-! ### displays, subscripts -/
structure SndL (Γ : Ctx) (T : Tab) (N : List Str) (ms : List ME) : Prop where
  l : ∀ {sc scT k X xs}, XOk Γ T N sc scT k X → okL T N ms sc xs = true → PA X xs (tL X.K Γ ms)
  f : ∀ {sc scT k X xs}, XOk Γ T N sc scT k X → okL T N ms sc xs = true → PA X xs (tF X.K Γ ms)
theorem sndl_nil : SndL Γ T N [] := by
  refine ⟨fun hX h => ?_, fun hX h => ?_⟩
  · simp only [okL] at h
    split at h
    · refine PA.imp pa_nil fun σ H Q q => ?_
      obtain ⟨S, env, rs, env', rep, e1, q⟩ := q
      cases e1
      exact q [] S H (Psl.nil rep)
    · cases h
  · simp only [okL] at h
    split at h
    · refine PA.imp pa_nil fun σ H Q q => ?_
      obtain ⟨S, env, rs, env', rep, e1, q⟩ := q
      cases e1
      exact q [] S H (Pst.refl rep) .nil
    · cases h
theorem sndl_cons {m : ME} {ms : List ME} (h1 : SndE Γ T N m) (h2 : SndL Γ T N ms) : SndL Γ T N (m :: ms) := by
  refine ⟨fun hX h => ?_, fun hX h => ?_⟩
  · simp only [okL] at h
    split at h
    · simp only [Bool.and_eq_true] at h
      obtain ⟨⟨k1, k2⟩, k3⟩ := h
      refine PA.imp (pa_cons (h1.e hX k2) (h2.l hX k3) (star_fine k1)) fun σ H Q q => ?_
      obtain ⟨S, env, rs, env', rep, e1, q⟩ := q
      simp only [evL] at e1
      obtain ⟨⟨r, e2⟩, g1, e1⟩ := Option.bind_eq_some_iff.mp e1
      obtain ⟨⟨rs', e3⟩, g2, e1⟩ := Option.map_eq_some_iff.mp e1
      cases e1
      exact ⟨S, env, r, e2, rep, g1, fun v S1 H1 p1 => ⟨S1, e2, rs', _, p1.rep, g2, fun vs S2 H2 p2 => q (v :: vs) S2 H2 (Psl.cons p1 p2)⟩⟩
    · cases h
  · simp only [okL] at h
    split at h
    · simp only [Bool.and_eq_true] at h
      obtain ⟨⟨k1, k2⟩, k3⟩ := h
      refine PA.imp (pa_cons (h1.e hX k2) (h2.f hX k3) (star_fine k1)) fun σ H Q q => ?_
      obtain ⟨S, env, rs, env', rep, e1, q⟩ := q
      simp only [evF] at e1
      obtain ⟨⟨r, e2⟩, g1, e1⟩ := Option.bind_eq_some_iff.mp e1
      obtain ⟨⟨x, e3⟩, g2, e1⟩ := Option.bind_eq_some_iff.mp e1
      obtain ⟨⟨rs', e4⟩, g3, e1⟩ := Option.map_eq_some_iff.mp e1
      cases e1
      refine ⟨S, env, r, e2, rep, g1, fun v S1 H1 p1 => ?_⟩
      obtain ⟨S2, p2, r2, _⟩ := fz_ok p1 g2
      exact ⟨S2, e3, rs', _, p2.rep, g3, fun vs S3 H3 p3 r3 => q (v :: vs) S3 H3 (p2.trans p3) (.cons (dpMono p3.step.st r2) r3)⟩
    · cases h
theorem okL_len : ∀ {ms : List ME} {sc : Scope} {xs : List Expr}, okL T N ms sc xs = true → ms.length = xs.length
  | [], sc, xs, h => by
    simp only [okL] at h
    split at h
    · rfl
    · cases h
  | m :: ms, sc, xs, h => by
    simp only [okL] at h
    split at h
    · simp only [Bool.and_eq_true] at h
      simp [okL_len h.2]
    · cases h
theorem evF_len : ∀ {ms : List ME} {env env' : Env} {xs : List D}, evF Γ ms env = some (xs, env') → xs.length = ms.length
  | [], env, env', xs, h => by cases h; rfl
  | m :: ms, env, env', xs, h => by
    simp only [evF] at h
    obtain ⟨⟨r, e2⟩, g1, e1⟩ := Option.bind_eq_some_iff.mp h
    obtain ⟨⟨x, e3⟩, g2, e1⟩ := Option.bind_eq_some_iff.mp e1
    obtain ⟨⟨rs', e4⟩, g3, e1⟩ := Option.map_eq_some_iff.mp e1
    cases e1
    simp [evF_len g3]
theorem small_line {n : Nat} (h : n ≤ 1000) : n ≤ sizeLine := by rw [sizeLine_eq]; omega
theorem snd_tup {es : List ME} (h0 : SndL Γ T N es) : SndE Γ T N (.tup es) := by
  have ee : ∀ {sc scT k X e}, XOk Γ T N sc scT k X → okE T N (.tup es) sc e = true → PE X e (tE X.K Γ (.tup es)) := by
    intro sc scT k X e hX h
    simp only [okE] at h
    split at h
    · simp only [Bool.and_eq_true, decide_eq_true_eq] at h
      obtain ⟨k1, k2⟩ := h
      refine PE.imp (pe_tup (h0.f hX k1)) fun σ H Q q => ?_
      obtain ⟨S, env, r, env', rep, e1, q⟩ := q
      simp only [ev] at e1
      obtain ⟨⟨xs, e2⟩, g1, e1⟩ := Option.map_eq_some_iff.mp e1
      cases e1
      refine ⟨S, env, xs, _, rep, g1, fun vs S1 H1 p1 r1 => ⟨?_, fun p hp => ?_⟩⟩
      · rw [dps_len r1, evF_len g1, okL_len k1]; exact small_line k2
      · exact q _ _ _ (psv_gr p1 (Gr.newS p1.rep.same hp) (.tup (SqT.of upd_same) (dpsMono (Gr.newS p1.rep.same hp).st r1)) fun _ z => z.elim)
    · cases h
  refine ⟨ee, fun hX h => ?_⟩
  rename_i sc scT k X e
  have h2 := h
  simp only [okE] at h2
  split at h2
  · exact tru_tT (ee hX h) fun _ => rfl
  · cases h2
theorem snd_lst {es : List ME} (h0 : SndL Γ T N es) : SndE Γ T N (.lst es) := by
  have ee : ∀ {sc scT k X e}, XOk Γ T N sc scT k X → okE T N (.lst es) sc e = true → PE X e (tE X.K Γ (.lst es)) := by
    intro sc scT k X e hX h
    simp only [okE] at h
    split at h
    · simp only [Bool.and_eq_true, decide_eq_true_eq] at h
      obtain ⟨k1, k2⟩ := h
      refine PE.imp (pe_lst (h0.f hX k1)) fun σ H Q q => ?_
      obtain ⟨S, env, r, env', rep, e1, q⟩ := q
      simp only [ev] at e1
      obtain ⟨⟨xs, e2⟩, g1, e1⟩ := Option.map_eq_some_iff.mp e1
      cases e1
      refine ⟨S, env, xs, _, rep, g1, fun vs S1 H1 p1 r1 => ⟨?_, fun p hp => ?_⟩⟩
      · rw [dps_len r1, evF_len g1, okL_len k1]; exact small_line k2
      · exact q _ _ _ (psv_gr p1 (Gr.newH p1.rep.same hp) ⟨p, vs, rfl, p1.rep.same.free hp, upd_same, r1⟩ fun b z => by cases z; exact hp)
    · cases h
  refine ⟨ee, fun hX h => ?_⟩
  rename_i sc scT k X e
  have h2 := h
  simp only [okE] at h2
  split at h2
  · exact tru_tT (ee hX h) fun _ => rfl
  · cases h2
theorem snd_idx {a b : ME} (ha : SndE Γ T N a) (hb : SndE Γ T N b) : SndE Γ T N (.idx a b) := by
  have ee : ∀ {sc scT k X e}, XOk Γ T N sc scT k X → okE T N (.idx a b) sc e = true → PE X e (tE X.K Γ (.idx a b)) := by
    intro sc scT k X e hX h
    simp only [okE] at h
    split at h
    · simp only [Bool.and_eq_true] at h
      obtain ⟨⟨h1, h2⟩, h3⟩ := h
      refine PE.imp (pe_ix r_idx (ha.e hX h2) (hb.e hX h3) (plainIx h1)) fun σ H Q q => ?_
      obtain ⟨S, env, r, env', rep, e1, q⟩ := q
      simp only [ev] at e1
      obtain ⟨⟨ra, e2⟩, g1, e1⟩ := Option.bind_eq_some_iff.mp e1
      obtain ⟨⟨rb, e3⟩, g2, e1⟩ := Option.bind_eq_some_iff.mp e1
      obtain ⟨dx, g3, e1⟩ := Option.bind_eq_some_iff.mp e1
      obtain ⟨dy, g4, e1⟩ := Option.bind_eq_some_iff.mp e1
      obtain ⟨w, g5, e1⟩ := Option.map_eq_some_iff.mp e1
      cases e1
      refine ⟨S, env, ra, e2, rep, g1, fun v1 S1 H1 p1 => ⟨S1, e2, rb, _, p1.rep, g2, fun v2 S2 H2 p2 => ?_⟩⟩
      exact ⟨S2, dx, dy, w, p2.rep.same, p1.res.cur p2.toPst g3, repC_of p2.rep p2.res g4, g5, fun v S' H' g rv n => q v S' H' (psv_gr (p1.toPst.trans p2.toPst) g rv n)⟩
    · cases h
  refine ⟨ee, fun hX h => ?_⟩
  rename_i sc scT k X e
  have h2 := h
  simp only [okE] at h2
  split at h2
  · exact tru_tT (ee hX h) fun _ => rfl
  · cases h2
/-- a part of a slice -/
def tPt (K : PySem.W.Frag) (Γ : Ctx) (m : ME) : TO := fun σ H Q => ∃ S env r env', RepEnv K S H σ env ∧ ev Γ m env = some (r, env') ∧ ∃ x o, cur env' r = some x ∧ part (isNoneC m) x = some o ∧ ∀ S' H', Pst K S H σ env S' H' env' → Q o H'
theorem isNoneC_p {m : ME} (h : isNoneC m = true) : m = .con .none := by
  unfold isNoneC at h
  split at h
  · rfl
  · cases h
theorem isNoneC_ok {m : ME} {l : Expr} (h : isNoneC m = true) : okE T N m sc l = true → ∃ j p, l = .Constant .none j p := by
  rw [isNoneC_p h]
  intro q
  simp only [okE] at q
  split at q
  · rename_i c j p
    unfold conB at q
    split at q <;> first | exact ⟨_, _, rfl⟩ | (simp_all; done) | cases q
  · cases q
theorem po_ok {m : ME} {l : Option Expr} (hm : SndE Γ T N m) (hX : XOk Γ T N sc scT k X) (h : (match l with | none => isNoneC m | some l => !isNoneC m && okE T N m sc l) = true) : PO X l (tPt X.K Γ m) := by
  refine ⟨fun pins s σ H Q I q => ?_⟩
  obtain ⟨S, env, r, env', rep, e1, x, o, e2, e3, q⟩ := q
  cases l with
  | none =>
    have h : isNoneC m = true := h
    rw [h] at e3
    cases e3
    rw [isNoneC_p h] at e1
    cases e1
    exact po_none.run pins s σ H Q I (q S H (Pst.refl rep))
  | some l =>
    have h : (!isNoneC m && okE T N m sc l) = true := h
    rw [Bool.and_eq_true, Bool.not_eq_true'] at h
    rw [h.1] at e3
    simp only [part, Bool.false_eq_true, if_false] at e3
    split at e3
    · cases e3
      exact (po_some (hm.e hX h.2)).run pins s σ H Q I ⟨S, env, r, env', rep, e1, fun v S1 H1 p1 => ⟨_, (repC_of p1.rep p1.res e2).int, q S1 H1 p1.toPst⟩⟩
    · cases e3
theorem snd_sli {a lo hi : ME} (ha : SndE Γ T N a) (hl : SndE Γ T N lo) (hh : SndE Γ T N hi) : SndE Γ T N (.sli a lo hi) := by
  have ee : ∀ {sc scT k X e}, XOk Γ T N sc scT k X → okE T N (.sli a lo hi) sc e = true → PE X e (tE X.K Γ (.sli a lo hi)) := by
    intro sc scT k X e hX h
    simp only [okE] at h
    split at h
    · simp only [Bool.and_eq_true] at h
      obtain ⟨⟨h1, h2⟩, h3⟩ := h
      refine PE.imp (pe_slice r_sli (ha.e hX h1) (po_ok hl hX h2) (po_ok hh hX h3)) fun σ H Q q => ?_
      obtain ⟨S, env, r, env', rep, e1, q⟩ := q
      simp only [ev] at e1
      obtain ⟨⟨ra, e2⟩, g1, e1⟩ := Option.bind_eq_some_iff.mp e1
      obtain ⟨⟨rl, e3⟩, g2, e1⟩ := Option.bind_eq_some_iff.mp e1
      obtain ⟨⟨rh, e4⟩, g3, e1⟩ := Option.bind_eq_some_iff.mp e1
      obtain ⟨dx, g4, e1⟩ := Option.bind_eq_some_iff.mp e1
      obtain ⟨dl, g5, e1⟩ := Option.bind_eq_some_iff.mp e1
      obtain ⟨l', g6, e1⟩ := Option.bind_eq_some_iff.mp e1
      obtain ⟨dh, g7, e1⟩ := Option.bind_eq_some_iff.mp e1
      obtain ⟨h', g8, e1⟩ := Option.bind_eq_some_iff.mp e1
      obtain ⟨w, g9, e1⟩ := Option.map_eq_some_iff.mp e1
      cases e1
      refine ⟨S, env, ra, e2, rep, g1, fun v1 S1 H1 p1 => ⟨S1, e2, rl, e3, p1.rep, g2, dl, l', ?_, g6, fun S2 H2 p2 => ⟨S2, e3, rh, _, p2.rep, g3, dh, h', g7, g8, fun S3 H3 p3 => ?_⟩⟩⟩
      · exact g5
      · exact ⟨S3, dx, w, p3.rep.same, p1.res.cur (p2.trans p3) g4, g9, fun v S' H' g rv n => q v S' H' (psv_gr ((p1.toPst.trans p2).trans p3) g rv n)⟩
    · cases h
  refine ⟨ee, fun hX h => ?_⟩
  rename_i sc scT k X e
  have h2 := h
  simp only [okE] at h2
  split at h2
  · exact tru_tT (ee hX h) fun _ => rfl
  · cases h2
end
end Ev

namespace Ev
open PySem L2
section
variable {Γ : Ctx} {T : Tab} {N : List Str} {sc scT : Scope} {k : Nat} {X : Cx}
/-! ### calls -/
theorem okL_plain : ∀ {ms : List ME} {sc : Scope} {xs : List Expr} {env : PySem.Env}, okL T N ms sc xs = true → ∀ (pos : Pos), (backTo pos (starEach xs env)).any (·.1) = false
  | [], sc, xs, env, h, pos => by
    simp only [okL] at h
    split at h
    · rfl
    · cases h
  | m :: ms, sc, xs, env, h, pos => by
    simp only [okL] at h
    split at h
    · simp only [Bool.and_eq_true] at h
      rw [star_fine h.1.1]
      have := okL_plain (env := env) h.2 pos
      unfold backTo at this ⊢
      rw [List.map_cons, List.any_cons, this]
      rfl
    · cases h
theorem snd_call (f : Nat) {es : List ME} (h0 : SndL Γ T N es) : SndE Γ T N (.call f es) := by
  have re_ : ∀ {K : PySem.W.Frag} {σ : St} {H : Hp} {Q : VK}, tE K Γ (.call f es) σ H Q → tCall (spC K (Γ.C f)) [] E0 (tL K Γ es) σ H Q := by
    intro K σ H Q q
    obtain ⟨S, env, r, env', rep, e1, q⟩ := q
    simp only [ev] at e1
    obtain ⟨⟨rs, e2⟩, g1, e1⟩ := Option.bind_eq_some_iff.mp e1
    unfold doCall at e1
    obtain ⟨hn, e1⟩ := (Option.ite_none_right_eq_some ..).mp e1
    obtain ⟨ws, g2, e1⟩ := Option.bind_eq_some_iff.mp e1
    obtain ⟨⟨v, ws'⟩, g3, e1⟩ := Option.map_eq_some_iff.mp e1
    cases e1
    refine ⟨S, env, rs, e2, rep, g1, fun vs S1 H1 p1 => ?_⟩
    obtain ⟨Sc, k1, k2⟩ := call_ok (w := v) (ws' := ws') p1 hn g2
    rw [List.append_nil]
    exact ⟨Sc, ws, v, ws', k1, g3, fun v' S' H' st rp sub rv fr => by
      obtain ⟨S2, p⟩ := k2 v' S' H' st rp sub rv fr
      exact q v' S2 H' p⟩
  have ee : ∀ {sc scT k X e}, XOk Γ T N sc scT k X → okE T N (.call f es) sc e = true → PE X e (tE X.K Γ (.call f es)) := by
    intro sc scT k X e hX h
    simp only [okE] at h
    split at h
    · rename_i x p xs pos
      simp only [Bool.and_eq_true, decide_eq_true_eq] at h
      obtain ⟨⟨⟨h1, h2⟩, h3⟩, h4⟩ := h
      obtain ⟨n1, _, _⟩ := nmB_p h3
      obtain ⟨fa, fd, ps, m1, m2, m3, m4⟩ := hX.fn f x h1
      have hA := h0.l hX h4
      cases xs with
      | nil =>
        refine PE.imp (pe_call0 m4 hX.room (hX.glo h2) m1 m2 m3 .nil pass0 n1) fun σ H Q q => ?_
        have q := re_ q
        obtain ⟨S, env, rs, env', rep, e1, q⟩ := q
        have hl : es = [] := by
          have := okL_len h4
          cases es with
          | nil => rfl
          | cons _ _ => simp at this
        subst hl
        cases e1
        exact q [] S H (Psl.nil rep)
      | cons y ys =>
        have hs : starEach (y :: ys) X.env = (false, eval y X.env) :: starEach ys X.env := by
          cases es with
          | nil => simp [okL] at h4
          | cons m ms =>
            simp only [okL, Bool.and_eq_true] at h4
            exact star_fine h4.1.1
        have hp : (backTo pos (starEach ys X.env)).any (·.1) = false := by
          have := okL_plain (env := X.env) h4 pos
          rw [hs] at this
          unfold backTo at this ⊢
          rw [List.map_cons, List.any_cons] at this
          simpa using this
        exact PE.imp (pe_call m4 hX.room (hX.glo h2) m1 m2 m3 .nil pass0 hA n1 hs hp) fun σ H Q q => re_ q
    · cases h
  refine ⟨ee, fun hX h => ?_⟩
  rename_i sc scT k X e
  have h2 := h
  simp only [okE] at h2
  split at h2
  · exact tru_tT (ee hX h) fun _ => rfl
  · cases h2
theorem repCs_of {K : PySem.W.Frag} {S H H0 : Hp} {σ : St} {env : Env} (p : RepEnv K S H σ env) : ∀ {vs : List V} {rs : List Rv} {xs : List D}, RepRs K S H σ env H0 vs rs → curs env rs = some xs → RepCs K S H vs xs
  | _, _, _, .nil, e => by cases e; exact .nil
  | _, _, _, .cons h1 _ h3, e => by
    obtain ⟨x, e1, e2⟩ := Option.bind_eq_some_iff.mp (show ((cur env _).bind fun x => (curs env _).map (x :: ·)) = some _ from e)
    obtain ⟨ys, e3, e4⟩ := Option.map_eq_some_iff.mp e2
    subst e4
    exact .cons (repC_of p h1 e1) (repCs_of p h3 e3)
theorem pe_biV (b : Bi) {p pos : Pos} {e : Expr} {es : List Expr} {t : TA} (hgd : b = .repr → X.A.guards = some []) (hX : XOk Γ T N sc scT k X) (hg : Gl X (biN b)) (hm : X.mg (biN b) = none) (ha : PA X (e :: es) t)
    (he : starEach (e :: es) X.env = (false, eval e X.env) :: starEach es X.env) (hpl : (backTo pos (starEach es X.env)).any (·.1) = false) : PE X (.Call (.Name (biN b) p) (e :: es) [] pos) (tCB (rBi X.K b) t) := by
  have hc := hX.calm
  have hu := hX.hu
  cases b with
  | len => exact pe_callB (r_bi .len hgd hc hu) hg hm (by decide +kernel) ha (by decide) (by decide) he hpl
  | abs => exact pe_callB (r_bi .abs hgd hc hu) hg hm (by decide +kernel) ha (by decide) (by decide) he hpl
  | int => exact pe_callTy (r_bi .int hgd hc hu) hg hm (by decide +kernel) ha (by decide) (by decide) he hpl
  | min1 => exact pe_callB (r_bi .min1 hgd hc hu) hg hm (by decide +kernel) ha (by decide) (by decide) he hpl
  | max1 => exact pe_callB (r_bi .max1 hgd hc hu) hg hm (by decide +kernel) ha (by decide) (by decide) he hpl
  | min2 => exact pe_callB (r_bi .min2 hgd hc hu) hg hm (by decide +kernel) ha (by decide) (by decide) he hpl
  | max2 => exact pe_callB (r_bi .max2 hgd hc hu) hg hm (by decide +kernel) ha (by decide) (by decide) he hpl
  | sum => exact pe_callB (r_bi .sum hgd hc hu) hg hm (by decide +kernel) ha (by decide) (by decide) he hpl
  | sorted => exact pe_callB (r_bi .sorted hgd hc hu) hg hm (by decide +kernel) ha (by decide) (by decide) he hpl
  | list => exact pe_callTy (r_bi .list hgd hc hu) hg hm (by decide +kernel) ha (by decide) (by decide) he hpl
  | tuple => exact pe_callTy (r_bi .tuple hgd hc hu) hg hm (by decide +kernel) ha (by decide) (by decide) he hpl
  | any => exact pe_callB (r_bi .any hgd hc hu) hg hm (by decide +kernel) ha (by decide) (by decide) he hpl
  | all => exact pe_callB (r_bi .all hgd hc hu) hg hm (by decide +kernel) ha (by decide) (by decide) he hpl
  | repr => exact pe_callB (r_bi .repr hgd hc hu) hg hm (by decide +kernel) ha (by decide) (by decide) he hpl
theorem snd_bi (b : Bi) {es : List ME} (h0 : SndL Γ T N es) : SndE Γ T N (.bi b es) := by
  have ee : ∀ {sc scT k X e}, XOk Γ T N sc scT k X → okE T N (.bi b es) sc e = true → PE X e (tE X.K Γ (.bi b es)) := by
    intro sc scT k X e hX h
    simp only [okE] at h
    split at h
    · rename_i x p xs pos
      simp only [Bool.and_eq_true, decide_eq_true_eq] at h
      obtain ⟨⟨⟨⟨⟨h1, h2⟩, h3⟩, h5⟩, h4⟩, h6⟩ := h
      subst h1
      have hgd : b = .repr → X.A.guards = some [] := fun z => by
        subst z
        exact hX.gd (by simpa [isRp] using h6)
      have hA := h0.l hX h4
      cases xs with
      | nil => cases h5
      | cons y ys =>
        have hs : starEach (y :: ys) X.env = (false, eval y X.env) :: starEach ys X.env := by
          cases es with
          | nil => simp [okL] at h4
          | cons m ms =>
            simp only [okL, Bool.and_eq_true] at h4
            exact star_fine h4.1.1
        have hp : (backTo pos (starEach ys X.env)).any (·.1) = false := by
          have := okL_plain (env := X.env) h4 pos
          rw [hs] at this
          unfold backTo at this ⊢
          rw [List.map_cons, List.any_cons] at this
          simpa using this
        refine PE.imp (pe_biV b hgd hX (hX.glo h3) (hX.bl _ h2) hA hs hp) fun σ H Q q => ?_
        obtain ⟨S, env, r, env', rep, e1, q⟩ := q
        simp only [ev] at e1
        obtain ⟨⟨rs, e2⟩, g1, e1⟩ := Option.bind_eq_some_iff.mp e1
        obtain ⟨ds, g2, e1⟩ := Option.bind_eq_some_iff.mp e1
        obtain ⟨w, g3, e1⟩ := Option.map_eq_some_iff.mp e1
        cases e1
        exact ⟨S, env, rs, _, rep, g1, fun vs S1 H1 p1 => ⟨S1, ds, w, p1.rep.same, repCs_of p1.rep p1.res g2, g3, fun v S' H' g rv n => q v S' H' (psv_gr p1.toPst g rv n)⟩⟩
    · cases h
  refine ⟨ee, fun hX h => ?_⟩
  rename_i sc scT k X e
  have h2 := h
  simp only [okE] at h2
  split at h2
  · exact tru_tT (ee hX h) fun _ => rfl
  · cases h2

/-! ### targets -/
structure TPost (K : PySem.W.Frag) (S H : Hp) (L : List Nat) (sl : List Nat) (σ : St) (env : Env) (σ' : St) (env' : Env) : Prop where
  rep : RepEnv K S H σ' env'
  keep : ∀ j ∈ L, slotV σ' j = slotV σ j
  oth : ∀ j, j ∉ sl → σ'[j]? = σ[j]?
  len : σ'.length = σ.length
  sub : ∀ b, Roots H σ' env' b → Roots H σ env b
  slots : env'.length = env.length
theorem TPost.trans {K : PySem.W.Frag} {S H : Hp} {L sl sl' : List Nat} {σ σ1 σ2 : St} {env env1 env2 : Env} (a : TPost K S H L sl σ env σ1 env1) (b : TPost K S H L sl' σ1 env1 σ2 env2) : TPost K S H L (sl ++ sl') σ env σ2 env2 :=
  ⟨b.rep, fun j h => (b.keep j h).trans (a.keep j h), fun j h => by
    rw [List.mem_append, not_or] at h
    exact (b.oth j h.2).trans (a.oth j h.1), b.len.trans a.len, fun c h => a.sub c (b.sub c h), b.slots.trans a.slots⟩
def tG (K : PySem.W.Frag) (L : List Nat) (tg : Tg) : TG := fun v σ H Q => ∃ S env x env', RepEnv K S H σ env ∧ Rp K S v x ∧ bindT L tg x env = some env' ∧ ∀ σ', TPost K S H L (slotsT tg) σ env σ' env' → Q σ' H
def tGs (K : PySem.W.Frag) (L : List Nat) (tgs : List Tg) : TGs := fun vs σ H Q => ∃ S env xs env', RepEnv K S H σ env ∧ Rps K S vs xs ∧ bindTs L tgs xs env = some env' ∧ ∀ σ', TPost K S H L (slotsTs tgs) σ env σ' env' → Q σ' H
theorem put_post {K : PySem.W.Frag} {S H : Hp} {L : List Nat} {σ : St} {env env' : Env} {v : V} {x : D} {i : Nat} (rep : RepEnv K S H σ env) (r : Rp K S v x) (e : bindT L (.nm i) x env = some env') : TPost K S H L [i] σ env (σ.set i (some v)) env' := by
  simp only [bindT] at e
  split at e
  · cases e
  · rename_i hc
    cases e
    rw [not_or] at hc
    obtain ⟨c1, c2⟩ := hc
    obtain ⟨k1, k2⟩ := rep.put (w := .d x) (Nat.lt_of_not_le c2) r fun _ z => z.elim
    refine ⟨k1, fun j hj => ?_, fun j hj => ?_, by simp, fun b hb => (k2 b hb).elim id fun z => z.elim, by simp⟩
    · rw [slotV_set, if_neg fun z => c1 (by rw [z.1]; exact hj)]
    · rw [List.getElem?_set_ne]
      simp at hj
      exact fun z => hj z.symm
mutual
theorem pg_ok (hX : XOk Γ T N sc scT k X) (L : List Nat) : ∀ (tg : Tg) (e : Expr), okT N scT tg e = true → PG X e (tG X.K L tg)
  | .nm i, e, h => by
    simp only [okT] at h
    split at h
    · rename_i x p
      simp only [Bool.and_eq_true, decide_eq_true_eq] at h
      obtain ⟨l1, l2⟩ := hX.loc x h.2
      refine PG.imp (pg_name (by rw [hX.hN]; exact hX.nd) (by rw [hX.hN]; exact h.1) l1 l2) fun v σ H Q q => ?_
      obtain ⟨S, env, y, env', rep, r, e1, q⟩ := q
      exact q _ (put_post rep r e1)
    · cases h
  | .tup ts, e, h => by
    simp only [okT] at h
    split at h
    · rename_i es kk p
      obtain ⟨h1, h2, h3⟩ := pgs_ok hX L ts es h
      have len_ : ∀ {env env' : Env} {xs : List D}, bindTs L ts xs env = some env' → xs.length = es.length := by
        intro env env' xs e1
        have : ∀ (ts : List Tg) (es : List Expr) (xs : List D) (env : Env), okTs N scT ts es = true → bindTs L ts xs env = some env' → xs.length = es.length := by
          intro ts
          induction ts with
          | nil =>
            intro es xs env a b
            cases es <;> simp [okTs] at a
            cases xs <;> simp [bindTs] at b ⊢
          | cons t ts ih =>
            intro es xs env a b
            cases es with
            | nil => simp [okTs] at a
            | cons e es =>
              simp only [okTs, Bool.and_eq_true] at a
              cases xs with
              | nil => simp [bindTs] at b
              | cons x xs =>
                simp only [bindTs] at b
                obtain ⟨e', b1, b2⟩ := Option.bind_eq_some_iff.mp b
                simp [ih es xs e' a.2 b2]
        exact this ts es xs env h e1
      refine ⟨fun pins s σ H v u Q I rv q => ?_⟩
      obtain ⟨S, env, y, env', rep, r, e1, q⟩ := q
      simp only [bindT] at e1
      split at e1
      · rename_i xs
        cases r with
        | tup g1 g2 => exact (pg_tup (n := es.length) hX.calm h1 h2 h3).run pins s σ H _ u Q I rv ⟨_, _, rfl, sameT rep.same g1, by rw [dps_len g2]; exact len_ e1, S, env, xs, env', rep, g2, e1, q⟩
      · rename_i xs
        cases r with
        | lst g1 g2 => exact (pg_unl (n := es.length) hX.calm h1 h2 h3).run pins s σ H _ u Q I rv ⟨_, _, rfl, SqL.of (rep.same _ _ g1), by rw [dps_len g2]; exact len_ e1, S, env, xs, env', rep, g2, e1, q⟩
      · cases e1
    · cases h
theorem pgs_ok (hX : XOk Γ T N sc scT k X) (L : List Nat) : ∀ (ts : List Tg) (es : List Expr), okTs N scT ts es = true → PGs X es (tGs X.K L ts) ∧ (assignEach es X.env).length = es.length ∧ (assignEach es X.env).findIdx? (·.1) = none
  | [], es, h => by
    cases es with
    | cons _ _ => simp [okTs] at h
    | nil =>
      refine ⟨⟨fun pins s σ H vs us Q I r q => ?_⟩, rfl, rfl⟩
      obtain ⟨S, env, xs, env', rep, r1, e1, q⟩ := q
      cases xs with
      | cons _ _ => cases e1
      | nil =>
        cases r1
        cases e1
        exact pgs_nil.run pins s σ H [] us Q I r ⟨rfl, q σ ⟨rep, fun _ _ => rfl, fun _ _ => rfl, rfl, fun _ z => z, rfl⟩⟩
  | t :: ts, es, h => by
    cases es with
    | nil => simp [okTs] at h
    | cons e es =>
      simp only [okTs, Bool.and_eq_true] at h
      have h1 := pg_ok hX L t e h.1
      obtain ⟨h2, h3, h4⟩ := pgs_ok hX L ts es h.2
      have hs : assignEach (e :: es) X.env = (false, assign e X.env) :: assignEach es X.env := by
        have := h.1
        cases t with
        | nm i =>
          simp only [okT] at this
          split at this
          · rfl
          · cases this
        | tup ts =>
          simp only [okT] at this
          split at this
          · rfl
          · cases this
      refine ⟨?_, by rw [hs]; simp [h3], by rw [hs, List.findIdx?_cons]; simp [h4]⟩
      refine ⟨fun pins s σ H vs us Q I r q => ?_⟩
      obtain ⟨S, env, xs, env', rep, r1, e1, q⟩ := q
      cases r1 with
      | nil => cases e1
      | cons r1 r2 =>
        obtain ⟨e2, b1, b2⟩ := Option.bind_eq_some_iff.mp (show (bindT L t _ env).bind _ = some _ from e1)
        exact (pgs_cons h1 h2 (by rw [hs]; rfl)).run pins s σ H _ us Q I r ⟨_, _, rfl, S, env, _, e2, rep, r1, b1, fun σ1 p1 => ⟨S, e2, _, env', p1.rep, r2, b2, fun σ2 p2 => q σ2 (p1.trans p2)⟩⟩
end
end
end Ev

namespace Ev
open PySem L2
section
variable {Γ : Ctx} {T : Tab} {N : List Str} {sc scT : Scope} {k : Nat} {X : Cx} {K : PySem.W.Frag}
/-! ### what is walked -/
def LenOk (K : PySem.W.Frag) (H : Hp) : Prop := ∀ a xs, (SqL K H a xs ∨ SqT K H a xs) → xs.length ≤ sizeLine
theorem len_ok {pins : List (Addr × Obj)} {σ : St} {H : Hp} {s : Shared} (I : Inv X pins σ H s) : LenOk X.K H := fun a xs h => by
  rcases h with h | h
  · obtain ⟨_, _, _, z⟩ := I.list h; exact z
  · obtain ⟨_, _, _, z⟩ := I.tuple h; exact z
theorem PE.strong {e : Expr} {t : TE} (h : PE X e t) : PE X e (fun σ H Q => t σ H fun v H' => LenOk X.K H' → Q v H') :=
  ⟨fun pins s σ H Q I q => thn (h.run pins s σ H _ I q) fun u s' ⟨v, H', I', r, z⟩ => ⟨v, H', I', r, z (len_ok I')⟩⟩
theorem PA.strong {e : List Expr} {t : TA} (h : PA X e t) : PA X e (fun σ H Q => t σ H fun v H' => LenOk X.K H' → Q v H') :=
  ⟨fun pos pins s σ H Q I q => thn (h.run pos pins s σ H _ I q) fun u s' ⟨v, H', I', r, z⟩ => ⟨v, H', I', r, z (len_ok I')⟩⟩
structure At (K : PySem.W.Frag) (σ : St) (s : Src) (S0 S H : Hp) (σ' : St) (env : Env) : Prop where
  rep : RepEnv K S H σ' env
  st : Same S0 S
  g : gOk s.g env
  lk : ∀ j ∈ s.lk, slotV σ' j = slotV σ j
structure ItOk (K : PySem.W.Frag) (σ : St) (J : It) (s : Src) (S0 : Hp) : Prop where
  len : s.items.length ≤ sizeLine
  go : ∀ {i : Nat} {S H : Hp} {σ' : St} {env : Env}, At K σ s S0 S H σ' env → i < s.items.length → J.go i H
  stop : ∀ {i : Nat} {S H : Hp} {σ' : St} {env : Env}, At K σ s S0 S H σ' env → s.items.length ≤ i → J.stop i H
  yld : ∀ {i : Nat} {S H H' : Hp} {σ' : St} {env : Env} {v : V}, At K σ s S0 S H σ' env → i < s.items.length → J.yld i H v H' → ∃ x S', s.items[i]? = some x ∧ Gr S H S' H' ∧ Rp K S' v x
def tI (K : PySem.W.Frag) (Γ : Ctx) (it : MI) : TI := fun σ H R => ∃ S env s env', RepEnv K S H σ env ∧ evI Γ it env = some (s, env') ∧ ∀ J S' H', Pst K S H σ env S' H' env' → gOk s.g env' → ItOk K σ J s S' → R J H'
theorem ItOk.list {σ : St} {s : Src} {S0 : Hp} {a : Addr} (len : s.items.length ≤ sizeLine) (h : ∀ {S H : Hp} {σ' : St} {env : Env}, At K σ s S0 S H σ' env → ∃ vs, H a = some (.lst vs) ∧ Rps K S vs s.items) : ItOk K σ (Itl K a) s S0 := by
  refine ⟨len, fun {i S H σ' env} at_ hi => ?_, fun {i S H σ' env} at_ hi => ?_, fun {i S H H' σ' env v} at_ hi y => ?_⟩
  · obtain ⟨vs, h1, h2⟩ := h at_
    have hl := dps_len h2
    exact ⟨vs, vs[i], SqL.of h1, List.getElem?_eq_getElem (by omega)⟩
  · obtain ⟨vs, h1, h2⟩ := h at_
    exact ⟨vs, SqL.of h1, by rw [dps_len h2]; exact hi⟩
  · obtain ⟨vs, h1, h2⟩ := h at_
    obtain ⟨e, y⟩ := y
    subst e
    obtain ⟨x, k1, k2⟩ := dps_get h2 (y vs (SqL.of h1))
    exact ⟨x, S, k1, Gr.refl at_.rep.same, k2⟩
theorem ItOk.tup {σ : St} {s : Src} {S0 : Hp} {a : Addr} (len : s.items.length ≤ sizeLine) (h : ∀ {S H : Hp} {σ' : St} {env : Env}, At K σ s S0 S H σ' env → ∃ vs, SqT K H a vs ∧ Rps K S vs s.items) : ItOk K σ (Itt K a) s S0 := by
  refine ⟨len, fun {i S H σ' env} at_ hi => ?_, fun {i S H σ' env} at_ hi => ?_, fun {i S H H' σ' env v} at_ hi y => ?_⟩
  · obtain ⟨vs, h1, h2⟩ := h at_
    have hl := dps_len h2
    exact ⟨vs, vs[i], h1, List.getElem?_eq_getElem (by omega)⟩
  · obtain ⟨vs, h1, h2⟩ := h at_
    exact ⟨vs, h1, by rw [dps_len h2]; exact hi⟩
  · obtain ⟨vs, h1, h2⟩ := h at_
    obtain ⟨e, y⟩ := y
    subst e
    obtain ⟨x, k1, k2⟩ := dps_get h2 (y vs h1)
    exact ⟨x, S, k1, Gr.refl at_.rep.same, k2⟩
theorem enumOf_get : ∀ (xs : List D) (k i : Nat), (enumOf k xs)[i]? = (xs[i]?).map fun x => .tuple [.int ((k + i : Nat) : Int), x]
  | [], k, i => by simp [enumOf]
  | x :: xs, k, 0 => by simp [enumOf]
  | x :: xs, k, i + 1 => by
    simp only [enumOf, List.getElem?_cons_succ]
    rw [enumOf_get xs (k + 1) i, show k + 1 + i = k + (i + 1) by omega]
theorem enumOf_len : ∀ (xs : List D) (k : Nat), (enumOf k xs).length = xs.length
  | [], k => rfl
  | x :: xs, k => by simp [enumOf, enumOf_len xs]
theorem ItOk.enum {σ : St} {s : Src} {S0 : Hp} {a : Addr} (len : s.items.length ≤ sizeLine) (h : ∀ {S H : Hp} {σ' : St} {env : Env}, At K σ s S0 S H σ' env → ∃ vs, H a = some (.lst vs) ∧ Rps K S vs s.items) : ItOk K σ (Ite K a) ⟨enumOf 0 s.items, s.lk, s.g⟩ S0 := by
  have cv : ∀ {S H : Hp} {σ' : St} {env : Env}, At K σ ⟨enumOf 0 s.items, s.lk, s.g⟩ S0 S H σ' env → At K σ s S0 S H σ' env := fun {S H σ' env} at_ => ⟨at_.rep, at_.st, at_.g, at_.lk⟩
  refine ⟨by simp only [enumOf_len]; exact len, fun {i S H σ' env} at_ hi => ?_, fun {i S H σ' env} at_ hi => ?_, fun {i S H H' σ' env v} at_ hi y => ?_⟩
  · obtain ⟨vs, h1, h2⟩ := h (cv at_)
    simp only [enumOf_len] at hi
    have hl := dps_len h2
    exact ⟨vs, vs[i], SqL.of h1, List.getElem?_eq_getElem (by omega)⟩
  · obtain ⟨vs, h1, h2⟩ := h (cv at_)
    simp only [enumOf_len] at hi
    exact ⟨vs, SqL.of h1, by rw [dps_len h2]; exact hi⟩
  · obtain ⟨vs, h1, h2⟩ := h (cv at_)
    obtain ⟨t, y0, rfl, ht, rfl, y⟩ := y
    obtain ⟨x, k1, k2⟩ := dps_get h2 (y vs (SqL.of h1))
    refine ⟨.tuple [.int i, x], upd S t (.tup [.int (i : Nat), y0]), ?_, Gr.newS at_.rep.same ht, .tup (SqT.of upd_same) (.cons (.int _) (.cons (dpMono (Gr.newS at_.rep.same ht).st k2) .nil))⟩
    show (enumOf 0 s.items)[i]? = _
    rw [enumOf_get, k1]
    simp
theorem zipOf_get : ∀ (xs ys : List D) (i : Nat), (zipOf xs ys)[i]? = (xs[i]?).bind fun x => (ys[i]?).map fun y => .tuple [x, y]
  | [], ys, i => by simp [zipOf]
  | x :: xs, [], i => by
    simp only [zipOf, List.getElem?_nil, Option.map_none]
    cases (x :: xs)[i]? <;> rfl
  | x :: xs, y :: ys, 0 => by simp [zipOf]
  | x :: xs, y :: ys, i + 1 => by
    simp only [zipOf, List.getElem?_cons_succ]
    exact zipOf_get xs ys i
theorem zipOf_len : ∀ (xs ys : List D), (zipOf xs ys).length = min xs.length ys.length
  | [], ys => by simp [zipOf]
  | x :: xs, [] => by simp [zipOf]
  | x :: xs, y :: ys => by simp only [zipOf, List.length_cons, zipOf_len xs ys]; omega
theorem rngOf_get (i j : Int) (n : Nat) : (rngOf i j)[n]? = if n < (j - i).toNat then some (.int (i + (n : Nat))) else none := by
  unfold rngOf
  rw [List.getElem?_map]
  by_cases h : n < (j - i).toNat
  · rw [if_pos h, List.getElem?_range h]; rfl
  · rw [if_neg h, List.getElem?_eq_none (by rw [List.length_range]; omega)]; rfl
theorem rngOf_len (i j : Int) : (rngOf i j).length = (j - i).toNat := by simp [rngOf]
theorem rngDn_get (i j : Int) (n : Nat) : (rngDn i j)[n]? = if n < (i - j).toNat then some (.int (i + (n : Nat) * (-1))) else none := by
  unfold rngDn
  rw [List.getElem?_map]
  by_cases h : n < (i - j).toNat
  · rw [if_pos h, List.getElem?_range h]; rfl
  · rw [if_neg h, List.getElem?_eq_none (by rw [List.length_range]; omega)]; rfl
theorem rngDn_len (i j : Int) : (rngDn i j).length = (i - j).toNat := by simp [rngDn]
theorem rngOk_p {i j : Int} (h : rngOk i j = true) : (-(2 ^ 62) ≤ i ∧ i < 2 ^ 62 ∧ -(2 ^ 62) ≤ j ∧ j < 2 ^ 62) ∧ (j - i).toNat ≤ sizeLine ∧ (i - j).toNat ≤ sizeLine := by
  unfold rngOk at h
  have h := of_decide_eq_true h
  have := sizeLine_eq
  exact ⟨⟨h.1, h.2.1, h.2.2.1, h.2.2.2.1⟩, by omega, by omega⟩
theorem ItOk.rng {σ : St} {S0 : Hp} {i j : Int} (h : rngOk i j = true) : ItOk K σ (Itr i (j - i).toNat) ⟨rngOf i j, [], none⟩ S0 := by
  refine ⟨by simp only [rngOf_len]; exact (rngOk_p h).2.1, fun {n S H σ' env} at_ hi => ?_, fun {n S H σ' env} at_ hi => ?_, fun {n S H H' σ' env v} at_ hi y => ?_⟩
  · simp only [rngOf_len] at hi; exact hi
  · simp only [rngOf_len] at hi; exact hi
  · simp only [rngOf_len] at hi
    obtain ⟨e, y⟩ := y
    subst e y
    exact ⟨_, S, by rw [rngOf_get, if_pos hi], Gr.refl at_.rep.same, .int _⟩
theorem ItOk.dn {σ : St} {S0 : Hp} {i j : Int} (h : rngOk i j = true) : ItOk K σ (Itc i (-1) (i - j).toNat) ⟨rngDn i j, [], none⟩ S0 := by
  refine ⟨by simp only [rngDn_len]; exact (rngOk_p h).2.2, fun {n S H σ' env} at_ hi => ?_, fun {n S H σ' env} at_ hi => ?_, fun {n S H H' σ' env v} at_ hi y => ?_⟩
  · simp only [rngDn_len] at hi; exact hi
  · simp only [rngDn_len] at hi; exact hi
  · simp only [rngDn_len] at hi
    obtain ⟨e, y⟩ := y
    subst e y
    exact ⟨_, S, by rw [rngDn_get, if_pos hi], Gr.refl at_.rep.same, .int _⟩
theorem ItOk.str {σ : St} {S0 : Hp} {z : Str} (h : z.length ≤ sizeLine) : ItOk K σ (Its z) ⟨z.cps.toList.map fun c => .str ⟨#[c]⟩, [], none⟩ S0 := by
  refine ⟨by show (z.cps.toList.map _).length ≤ _; rw [List.length_map, Array.length_toList]; exact h, fun {n S H σ' env} at_ hi => ?_, fun {n S H σ' env} at_ hi => ?_, fun {n S H H' σ' env v} at_ hi y => ?_⟩
  · show n < z.cps.size
    simpa using hi
  · show z.cps.size ≤ n
    simpa using hi
  · obtain ⟨e, c, hc, y⟩ := y
    subst e y
    refine ⟨.str ⟨#[c]⟩, S, ?_, Gr.refl at_.rep.same, .str _⟩
    show (z.cps.toList.map _)[n]? = _
    rw [List.getElem?_map, Array.getElem?_toList, hc]
    rfl
structure SndI (Γ : Ctx) (T : Tab) (N : List Str) (it : MI) : Prop where
  i : ∀ {sc scT k X t e}, XOk Γ T N sc scT k X → okI T N it sc t e = true → PI X t e (tI X.K Γ it)
theorem src_list {σ : St} {S H : Hp} {env : Env} {v : V} {w : Val} {e1 : Env} {S1 H1 : Hp} {xs : List D} (p : Psv K S H σ env S1 H1 e1 v (.v w)) (e : valD w = some (.list xs)) :
    ∃ a vs S2, v = .ref a ∧ Pst K S H σ env S2 H1 e1 ∧ S2 a = some (.lst vs) ∧ Rps K S2 vs xs := by
  obtain ⟨S2, p2, r2, _⟩ := fz_ok (env2 := e1) (x := .list xs) p (by show (valD w).map _ = _; rw [e]; rfl)
  cases r2 with
  | lst h1 h2 => exact ⟨_, _, S2, rfl, p2, h1, h2⟩
theorem at_list {σ : St} {xs : List D} {S0 : Hp} {a : Addr} {vs : List V} (h1 : S0 a = some (.lst vs)) (h2 : Rps K S0 vs xs) : ∀ {S H : Hp} {σ' : St} {env : Env}, At K σ ⟨xs, [], none⟩ S0 S H σ' env → ∃ vs, H a = some (.lst vs) ∧ Rps K S vs xs := fun {S H σ' env} at_ =>
  ⟨vs, at_.rep.same _ _ (at_.st _ _ h1), dpsMono at_.st h2⟩
theorem at_ali {σ : St} {ys : List D} {S0 : Hp} {a : Addr} {j : Nat} (hs : slotV σ j = some (.ref a)) : ∀ {S H : Hp} {σ' : St} {env : Env}, At K σ ⟨ys, [j], some (j, ys)⟩ S0 S H σ' env → ∃ vs, H a = some (.lst vs) ∧ Rps K S vs ys := fun {S H σ' env} at_ => by
  have hsl : slotV σ' j = some (.ref a) := (at_.lk j (by simp)).trans hs
  rcases (show rd env j = some (.own ys) ∨ rd env j = some (.d (.list ys)) from at_.g) with h | h
  · obtain ⟨v, k1, a', vs, k2, k3, k4, k5⟩ := at_.rep.get j _ h
    rw [hsl] at k1; cases k1; cases k2
    exact ⟨vs, k4, k5⟩
  · obtain ⟨v, k1, k2⟩ := at_.rep.get j _ h
    rw [hsl] at k1; cases k1
    cases k2 with
    | lst h1 h2 => exact ⟨_, at_.rep.same _ _ h1, h2⟩
theorem sndi_seq {m : ME} (h0 : SndE Γ T N m) : SndI Γ T N (.seq m) := by
  refine ⟨fun {sc scT k X t e} hX h => ?_⟩
  simp only [okI] at h
  have hE := PE.strong (h0.e hX h)
  refine ⟨fun pins s σ H R I q => ?_⟩
  obtain ⟨S, env, sr, env', rep, e1, q⟩ := q
  simp only [evI] at e1
  obtain ⟨⟨r, e2⟩, g1, e1⟩ := Option.bind_eq_some_iff.mp e1
  obtain ⟨sr', g2, e1⟩ := Option.map_eq_some_iff.mp e1
  cases e1
  cases r with
  | v w =>
    obtain ⟨xs, g3, g4⟩ := Option.map_eq_some_iff.mp (show ((valD w).bind itemsD).map _ = some _ from g2)
    obtain ⟨dx, g5, g6⟩ := Option.bind_eq_some_iff.mp g3
    subst g4
    cases dx with
    | list ys =>
      cases g6
      refine (pi_list hE).run pins s σ H R I ⟨S, env, _, _, rep, g1, fun v S1 H1 p1 hlen => ?_⟩
      obtain ⟨a, vs, S2, rfl, p2, h1, h2⟩ := src_list p1 g5
      have hH : H1 a = some (.lst vs) := p2.rep.same _ _ h1
      exact ⟨a, rfl, ⟨vs, SqL.of hH⟩, q _ S2 H1 p2 trivial (ItOk.list (by rw [← dps_len h2]; exact hlen a vs (.inl (SqL.of hH))) (at_list h1 h2))⟩
    | tuple ys =>
      cases g6
      refine (pi_tup hE).run pins s σ H R I ⟨S, env, _, _, rep, g1, fun v S1 H1 p1 hlen => ?_⟩
      obtain ⟨S2, p2, r2, _⟩ := fz_ok (env2 := e2) (x := .tuple xs) p1 (by show (valD w).map _ = _; rw [g5]; rfl)
      cases r2 with
      | tup h1 h2 =>
        have hH := sameT p2.rep.same h1
        exact ⟨_, rfl, ⟨_, hH⟩, q _ S2 H1 p2 trivial (ItOk.tup (by rw [← dps_len h2]; exact hlen _ _ (.inr hH)) fun at_ => ⟨_, sameT (at_.st.trans at_.rep.same) h1, dpsMono at_.st h2⟩)⟩
    | str z =>
      obtain ⟨g7, g8⟩ := (Option.ite_none_right_eq_some ..).mp (show (if z.length ≤ sizeLine then some (z.cps.toList.map fun c => (.str ⟨#[c]⟩ : D)) else none) = some xs from g6)
      cases g8
      refine (pi_str hE).run pins s σ H R I ⟨S, env, _, _, rep, g1, fun v S1 H1 p1 hlen => ?_⟩
      have hv := (repC_val p1.res.1 g5).str
      exact ⟨z, hv, q _ S1 H1 p1.toPst trivial (ItOk.str g7)⟩
    | _ => cases g6
  | ali j =>
    simp only [srcOf] at g2
    split at g2
    · rename_i ys hj
      cases g2
      refine (pi_list hE).run pins s σ H R I ⟨S, env, _, _, rep, g1, fun v S1 H1 p1 hlen => ?_⟩
      obtain ⟨v', k1, a, vs, k2, k3, k4, k5⟩ := p1.rep.get j _ hj
      have hsl : slotV σ j = some v := p1.res
      rw [hsl] at k1; cases k1; cases k2
      exact ⟨a, rfl, ⟨vs, SqL.of k4⟩, q _ S1 H1 p1.toPst (.inl hj) (ItOk.list (by rw [← dps_len k5]; exact hlen a vs (.inl (SqL.of k4))) (at_ali hsl))⟩
    · cases g2
theorem isTupE_p {t : Expr} (h : isTupE t = true) : ∃ es kk p, t = .Tuple es kk p := by
  cases t <;> first | exact ⟨_, _, _, rfl⟩ | (simp [isTupE] at h)
theorem star1 {e : Expr} {env : PySem.Env} (h : fineE e = true) : starEach [e] env = [(false, eval e env)] := star_fine h
theorem sndi_enum {m : ME} (h0 : SndE Γ T N m) : SndI Γ T N (.enum m) := by
  refine ⟨fun {sc scT k X t e} hX h => ?_⟩
  simp only [okI] at h
  split at h
  · rename_i x p y pos
    simp only [Bool.and_eq_true, decide_eq_true_eq] at h
    obtain ⟨⟨⟨⟨⟨h1, h2⟩, h3⟩, h4⟩, h5⟩, h6⟩ := h
    subst h1
    obtain ⟨es, kk, tp, rfl⟩ := isTupE_p h4
    have hA : PA X [y] _ := PA.strong (pa_cons (h0.e hX h6) pa_nil (star_fine h5))
    refine ⟨fun pins s σ H R I q => ?_⟩
    obtain ⟨S, env, sr, env', rep, e1, q⟩ := q
    simp only [evI] at e1
    obtain ⟨⟨r, e2⟩, g1, e1⟩ := Option.bind_eq_some_iff.mp e1
    obtain ⟨sr', g2, e1⟩ := Option.map_eq_some_iff.mp e1
    cases e1
    refine (pi_enum (hX.glo h3) (hX.bl _ h2) hA (star1 h5)).run pins s σ H R I ⟨S, env, r, _, rep, g1, fun v S1 H1 p1 => fun hlen => ?_⟩
    cases r with
    | v w =>
      simp only [srcL] at g2
      split at g2
      · rename_i ys g5
        cases g2
        obtain ⟨a, vs, S2, rfl, p2, h1, h2⟩ := src_list p1 g5
        have hH : H1 a = some (.lst vs) := p2.rep.same _ _ h1
        exact ⟨a, vs, rfl, SqL.of hH, q _ S2 H1 p2 trivial (ItOk.enum (s := ⟨ys, [], none⟩) (by rw [← dps_len h2]; exact hlen a vs (.inl (SqL.of hH))) (at_list h1 h2))⟩
      · cases g2
    | ali j =>
      simp only [srcL] at g2
      split at g2
      · rename_i ys hj
        cases g2
        obtain ⟨v', k1, a, vs, k2, k3, k4, k5⟩ := p1.rep.get j _ hj
        have hsl : slotV σ j = some v := p1.res
        rw [hsl] at k1; cases k1; cases k2
        exact ⟨a, vs, rfl, SqL.of k4, q _ S1 H1 p1.toPst (.inl hj) (ItOk.enum (s := ⟨ys, [j], some (j, ys)⟩) (by rw [← dps_len k5]; exact hlen a vs (.inl (SqL.of k4))) (at_ali hsl))⟩
      · cases g2
  · cases h
theorem sndi_zip {m1 m2 : ME} (hA1 : SndE Γ T N m1) (hA2 : SndE Γ T N m2) : SndI Γ T N (.zip m1 m2) := by
  refine ⟨fun {sc scT k X t e} hX h => ?_⟩
  simp only [okI] at h
  split at h
  · rename_i x p y z pos
    simp only [Bool.and_eq_true, decide_eq_true_eq] at h
    obtain ⟨⟨⟨⟨⟨⟨⟨h1, h2⟩, h3⟩, h4⟩, h5⟩, h6⟩, h7⟩, h8⟩ := h
    subst h1
    obtain ⟨es, kk, tp, rfl⟩ := isTupE_p h4
    have hA : PA X [y, z] _ := PA.strong (pa_cons (hA1.e hX h7) (pa_cons (hA2.e hX h8) pa_nil (star_fine h6)) (star_fine h5))
    refine ⟨fun pins s σ H R I q => ?_⟩
    obtain ⟨S, env, sr, env', rep, e1, q⟩ := q
    simp only [evI] at e1
    obtain ⟨⟨r, e2⟩, g1, e1⟩ := Option.bind_eq_some_iff.mp e1
    obtain ⟨⟨r', e3⟩, g2, e1⟩ := Option.bind_eq_some_iff.mp e1
    simp only at e1
    split at e1
    · rename_i xs ys _
      cases e1
      refine (pi_zip (hX.glo h3) (hX.bl _ h2) hA (star_fine h5) (by rw [star1 h6]; rfl)).run pins s σ H R I ⟨S, env, _, e2, rep, g1, fun v S1 H1 p1 => ⟨S1, e2, _, _, p1.rep, g2, fun v' S2 H2 p2 => fun hlen => ?_⟩⟩
      have r1 := dpMono p2.step.st p1.res.1
      have r2 := p2.res.1
      cases r1 with
      | lst h1 h2 =>
        cases (show Rp X.K S2 v' (.list ys) from r2) with
        | lst h3 h4 =>
          rename_i a vs b ws
          have hH := p2.rep.same _ _ h1
          have hH' := p2.rep.same _ _ h3
          refine ⟨a, b, vs, ws, rfl, SqL.of hH, SqL.of hH', q _ S2 H2 (p1.toPst.trans p2.toPst) trivial ⟨?_, fun {i S H σ' env} at_ hi => ?_, fun {i S H σ' env} at_ hi => ?_, fun {i S H H' σ' env v} at_ hi y => ?_⟩⟩
          · have := hlen a vs (.inl (SqL.of hH))
            rw [dps_len h2] at this
            simp only [zipOf_len]; omega
          · simp only [zipOf_len] at hi
            have q1 := at_.rep.same _ _ (at_.st _ _ h1)
            have q2 := at_.rep.same _ _ (at_.st _ _ h3)
            have l1 := dps_len h2
            have l2 := dps_len h4
            exact ⟨vs, ws, vs[i], ws[i], SqL.of q1, SqL.of q2, List.getElem?_eq_getElem (by omega), List.getElem?_eq_getElem (by omega)⟩
          · simp only [zipOf_len] at hi
            have q1 := at_.rep.same _ _ (at_.st _ _ h1)
            have q2 := at_.rep.same _ _ (at_.st _ _ h3)
            have l1 := dps_len h2
            have l2 := dps_len h4
            exact ⟨vs, ws, SqL.of q1, SqL.of q2, by omega⟩
          · have q1 := at_.rep.same _ _ (at_.st _ _ h1)
            have q2 := at_.rep.same _ _ (at_.st _ _ h3)
            obtain ⟨t, x, y', rfl, ht, rfl, y1, y2⟩ := y
            obtain ⟨dx, k1, k2⟩ := dps_get h2 (y1 vs (SqL.of q1))
            obtain ⟨dy, k3, k4⟩ := dps_get h4 (y2 ws (SqL.of q2))
            have g := Gr.newS (o := HO.tup [x, y']) at_.rep.same ht
            refine ⟨.tuple [dx, dy], _, ?_, g, .tup (SqT.of upd_same) (.cons (dpMono (at_.st.trans g.st) k2) (.cons (dpMono (at_.st.trans g.st) k4) .nil))⟩
            show (zipOf xs ys)[i]? = _
            rw [zipOf_get, k1, k3]; rfl
    · cases e1
  · cases h
theorem sndi_rng {es : List ME} (h0 : SndL Γ T N es) : SndI Γ T N (.rng es) := by
  refine ⟨fun {sc scT k X t e} hX h => ?_⟩
  simp only [okI] at h
  split at h
  · rename_i x p xs pos
    simp only [Bool.and_eq_true, decide_eq_true_eq] at h
    obtain ⟨⟨⟨h1, h2⟩, h3⟩, h4⟩ := h
    subst h1
    have hA := h0.l hX h4
    have hl := okL_len h4
    refine ⟨fun pins s σ H R I q => ?_⟩
    obtain ⟨S, env, sr, env', rep, e1, q⟩ := q
    simp only [evI] at e1
    obtain ⟨⟨rs, e2⟩, g1, e1⟩ := Option.bind_eq_some_iff.mp e1
    obtain ⟨ds, g2, e1⟩ := Option.bind_eq_some_iff.mp e1
    obtain ⟨sr', g3, e1⟩ := Option.map_eq_some_iff.mp e1
    cases e1
    have len_rs : ∀ {rs : List Rv} {ds : List D}, curs e2 rs = some ds → ds.length = rs.length := by
      intro rs
      induction rs with
      | nil => intro ds e; cases e; rfl
      | cons r rs ih =>
        intro ds e
        obtain ⟨x, e1, e9⟩ := Option.bind_eq_some_iff.mp (show ((cur e2 r).bind fun x => (curs e2 rs).map (x :: ·)) = some _ from e)
        obtain ⟨ys, e3, e4⟩ := Option.map_eq_some_iff.mp e9
        subst e4
        simp [ih e3]
    have len_es : ∀ {es : List ME} {env e' : Env} {rs : List Rv}, evL Γ es env = some (rs, e') → rs.length = es.length := by
      intro es
      induction es with
      | nil => intro env e' rs e; cases e; rfl
      | cons m ms ih =>
        intro env e' rs e
        simp only [evL] at e
        obtain ⟨⟨r, e2⟩, _, e⟩ := Option.bind_eq_some_iff.mp e
        obtain ⟨⟨rs', e3⟩, g, e⟩ := Option.map_eq_some_iff.mp e
        cases e
        simp [ih g]
    have ll := (len_rs g2).trans ((len_es g1).trans hl)
    have st_ : ∀ {ms : List ME} {xs : List Expr}, okL T N ms sc xs = true → ∀ x ∈ xs, fineE x = true := by
      intro ms
      induction ms with
      | nil => intro xs a; cases xs with
        | nil => simp
        | cons _ _ => simp [okL] at a
      | cons m ms ih => intro xs a; cases xs with
        | nil => simp
        | cons x xs =>
          simp only [okL, Bool.and_eq_true] at a
          intro y hy
          rcases List.mem_cons.mp hy with rfl | hy
          · exact a.1.1
          · exact ih a.2 y hy
    have fine := st_ h4
    unfold rngSrc at g3
    split at g3
    · obtain ⟨b1, b2⟩ := (Option.ite_none_right_eq_some ..).mp g3
      cases b2
      match xs, ll, fine, hA with
      | [a], _, fine, hA =>
        refine (pi_range1 (hX.glo h3) (hX.bl _ h2) hA (star1 (fine a (by simp)))).run pins s σ H R I ⟨S, env, rs, _, rep, g1, fun vs S1 H1 p1 => ?_⟩
        obtain ⟨v, rfl, hv⟩ := (repCs_of p1.rep p1.res g2).one
        obtain ⟨c1, _⟩ := rngOk_p b1
        have := q _ S1 H1 p1.toPst trivial (ItOk.rng b1)
        rw [Int.sub_zero] at this
        exact ⟨_, by rw [hv.int], c1.2.2.1, c1.2.2.2, this⟩
    · obtain ⟨b1, b2⟩ := (Option.ite_none_right_eq_some ..).mp g3
      cases b2
      match xs, ll, fine, hA with
      | [a, b], _, fine, hA =>
        refine (pi_range2 (hX.glo h3) (hX.bl _ h2) hA (by rw [star_fine (fine a (by simp)), star1 (fine b (by simp))]) (star1 (fine b (by simp)))).run pins s σ H R I ⟨S, env, rs, _, rep, g1, fun vs S1 H1 p1 => ?_⟩
        obtain ⟨v, w, rfl, hv, hw⟩ := (repCs_of p1.rep p1.res g2).two
        obtain ⟨c1, _⟩ := rngOk_p b1
        exact ⟨_, _, by rw [hv.int, hw.int], c1, q _ S1 H1 p1.toPst trivial (ItOk.rng b1)⟩
    · obtain ⟨⟨b1, b3⟩, b2⟩ := (Option.ite_none_right_eq_some ..).mp g3
      cases b2
      subst b3
      match xs, ll, fine, hA with
      | [a, b, c], _, fine, hA =>
        refine (pi_range3 (hX.glo h3) (hX.bl _ h2) hA (star_fine (fine a (by simp))) (by rw [star_fine (fine b (by simp)), star1 (fine c (by simp))]; rfl)).run pins s σ H R I ⟨S, env, rs, _, rep, g1, fun vs S1 H1 p1 => ?_⟩
        have r3 := repCs_of p1.rep p1.res g2
        cases r3 with
        | cons hv r3 =>
          obtain ⟨w, u, rfl, hw, hu⟩ := r3.two
          obtain ⟨⟨c1, c2, c3, c4⟩, _⟩ := rngOk_p b1
          exact ⟨_, _, -1, _, by rw [hv.int, hw.int, hu.int], RgC.neg c1 c2 c3 c4, q _ S1 H1 p1.toPst trivial (ItOk.dn b1)⟩
    · cases g3
  · cases h
end
end Ev

namespace Ev
open PySem L2
section
variable {Γ : Ctx} {T : Tab} {N : List Str} {sc scT : Scope} {k : Nat} {X : Cx} {K : PySem.W.Frag}
theorem wipe_get (σ : St) (j : Nat) : ∀ own : List Nat, (wipe σ own)[j]? = if j ∈ own ∧ j < σ.length then some none else σ[j]?
  | [] => by simp [wipe]
  | i :: r => by
    rw [wipe]
    by_cases h : i = j
    · subst h
      by_cases hj : i < σ.length
      · rw [List.getElem?_set_self (by rw [wipe_length]; exact hj), if_pos ⟨by simp, hj⟩]
      · rw [List.getElem?_eq_none (by rw [List.length_set, wipe_length]; omega), if_neg (fun z => hj z.2), List.getElem?_eq_none (by omega)]
    · rw [List.getElem?_set_ne h, wipe_get σ j r]
      have h' : ¬ j = i := fun z => h z.symm
      simp [List.mem_cons, h']
theorem wipe_eq {σ σ2 : St} {own : List Nat} (hl : σ2.length = (wipe σ own).length) (h : ∀ j, j ∉ own → σ2[j]? = (wipe σ own)[j]?) : wipe σ2 own = wipe σ own := by
  refine List.ext_getElem? fun j => ?_
  rw [wipe_length] at hl
  rw [wipe_get, wipe_get, hl]
  by_cases hj : j ∈ own
  · by_cases hjl : j < σ.length
    · rw [if_pos ⟨hj, hjl⟩, if_pos ⟨hj, hjl⟩]
    · rw [if_neg (fun z => hjl z.2), if_neg (fun z => hjl z.2), List.getElem?_eq_none (by omega), List.getElem?_eq_none (by omega)]
  · rw [if_neg (fun z => hj z.1), if_neg (fun z => hj z.1), h j hj, wipe_get, if_neg (fun z => hj z.1)]
theorem Step.hold {R : Addr → Prop} {S H S' H' : Hp} {b : Addr} {o : HO} (st : Step R S H S' H') (h1 : S b = none) (h2 : H b = some o) (h3 : ¬ R b) : S' b = none ∧ H' b = some o := by
  refine ⟨?_, st.kp b o h2 h3⟩
  cases q : S' b with
  | none => rfl
  | some u =>
    rcases st.nw b (by rw [q]; simp) with z | z | z
    · exact absurd h1 z
    · rw [h2] at z; cases z
    · exact absurd z h3
theorem step_at {S H : Hp} {D : Addr} {o u : HO} (h : Same S H) (h1 : S D = none) (h2 : H D = some u) : Step (fun b => b = D) S H S (upd H D o) := by
  refine ⟨Same.refl _, fun b v e => ?_, fun b v e n => by rw [upd_ne n]; exact e, fun b e => .inl e, fun b e => ?_⟩
  · rw [upd_ne (fun z => by rw [z, h1] at e; cases e)]; exact h b v e
  · by_cases z : b = D
    · rw [z, upd_same]; simp
    · rw [upd_ne z]; exact e
theorem sD {H : Hp} {D : Addr} {o : HO} {p : Prop} (h : H D = some o) (q : p ∨ H D = none) : p := q.resolve_right fun z => by rw [h] at z; cases z
theorem not_roots {S H : Hp} {σ : St} {env : Env} {b : Addr} (rep : RepEnv K S H σ env) (h : H b = none) : ¬ Roots H σ env b := fun r => by
  obtain ⟨_, o, e⟩ := Roots.free rep r
  rw [h] at e; cases e
def tGx (K : PySem.W.Frag) (tg : Tg) : TG := fun v σ H Q => ∃ L, tG K L tg v σ H Q
theorem pgx_ok (hX : XOk Γ T N sc scT k X) (tg : Tg) (e : Expr) (h : okT N scT tg e = true) : PG X e (tGx X.K tg) :=
  ⟨fun pins s σ H v u Q I r ⟨L, q⟩ => (pg_ok hX L tg e h).run pins s σ H v u Q I r q⟩
/-- a comprehension's condition -/
def tCd (K : PySem.W.Frag) (Γ : Ctx) (m : ME) : TT := fun σ H Q => ∃ S env c e' b, RepEnv K S H σ env ∧ ((ev Γ m env).bind fun (r, e') => (cur e' r).map fun x => (x, e')) = some (c, e') ∧ truD c = some b ∧ ∀ S' H', Pst K S H σ env S' H' e' → Q b H'
theorem PTs.imp {cs : List Expr} {t t' : TT} (h : PTs X cs t) (w : ∀ σ H Q, t' σ H Q → t σ H Q) : PTs X cs t' := ⟨fun pins s σ H Q I q => h.run pins s σ H Q I (w σ H Q q)⟩
theorem isTrueC_p {m : ME} (h : isTrueC m = true) : m = .con (.bool true) := by
  unfold isTrueC at h
  split at h
  · rfl
  · cases h
theorem pts_ok {m : ME} {cs : List Expr} (hm : SndE Γ T N m) (hX : XOk Γ T N sc scT k X) (h : (match cs with | [] => isTrueC m | [c] => okE T N m sc c | _ => false) = true) : PTs X cs (tCd X.K Γ m) := by
  match cs, h with
  | [], h =>
    refine PTs.imp pts_nil fun σ H Q q => ?_
    obtain ⟨S, env, c, e', b, rep, e1, e2, q⟩ := q
    rw [isTrueC_p h] at e1
    cases e1
    cases e2
    exact q S H (Pst.refl rep)
  | [c], h =>
    refine PTs.imp (pts_one (hm.t hX h)) fun σ H Q q => ?_
    obtain ⟨S, env, x, e', b, rep, e1, e2, q⟩ := q
    obtain ⟨⟨r, e3⟩, g1, e1⟩ := Option.bind_eq_some_iff.mp e1
    obtain ⟨y, g2, e1⟩ := Option.map_eq_some_iff.mp e1
    cases e1
    exact ⟨S, env, b, _, rep, evC_of g1 (by show (cur e' r).bind truD = some b; rw [g2]; exact e2), q⟩
  | _ :: _ :: _, h => cases h
theorem ownP_snd (own : List Nat) : (ownP N own).map (·.2) = own := by
  unfold ownP
  rw [List.map_map]
  exact List.map_id own
theorem lc_read {elt : ME} {tg : Tg} {it : MI} {cond : ME} {own : List Nat} (hown : ∀ j ∈ slotsT tg, j ∈ own) {σ : St} {H0 : Hp} {Q : VK} (q : tE K Γ (.lc elt tg it cond own) σ H0 Q) :
    tLc (tI K Γ it) (tGx K tg) (tCd K Γ cond) (tE K Γ elt) own σ H0 Q := by
  obtain ⟨S0, env, r, env', rep0, e1, q⟩ := q
  simp only [ev] at e1
  obtain ⟨⟨s, e1'⟩, g1, e1⟩ := Option.bind_eq_some_iff.mp e1
  obtain ⟨hlk, e1⟩ := (Option.ite_none_right_eq_some ..).mp e1
  obtain ⟨⟨ysAll, e2⟩, g2, e1⟩ := Option.map_eq_some_iff.mp e1
  cases e1
  rw [List.all_eq_true] at hlk
  refine ⟨S0, env, s, e1', rep0, g1, fun J S1 H1 p1 hg it => ?_⟩
  intro D hD
  have hS1 : S1 D = none := p1.rep.same.free hD
  obtain ⟨w1, w2⟩ := RepEnv.wipe p1.rep own
  refine ⟨fun i m H => ∃ S env done acc rest, m = s.items.length - i ∧ i ≤ s.items.length ∧ RepEnv K S H (wipe σ own) env ∧
    lcD (fun e => (ev Γ elt e).bind fun (r, e') => fz e' r) (fun e => (ev Γ cond e).bind fun (r, e') => (cur e' r).map fun x => (x, e')) (bindT s.lk tg) own s.g (s.items.drop i) env = some (rest, e2) ∧
    ysAll = done ++ rest ∧ H D = some (.lst acc) ∧ Rps K S acc done ∧ S D = none ∧ ¬ Roots H (wipe σ own) env D ∧ acc.length ≤ i ∧ Step (Roots H1 σ e1') S1 H1 S H ∧ (∀ b, Roots H (wipe σ own) env b → Roots H1 σ e1' b ∨ H1 b = none) ∧ env.length = e1'.length, ⟨s.items.length, ?_⟩, ?_⟩
  · obtain ⟨k1, k2⟩ := w1.grow (S' := S1) (H' := upd H1 D (.lst [])) (Same.refl _) (p1.rep.same.trans (upd_same_of hD)) (upd_same_of hD) fun b e => .inl e
    refine ⟨S1, wipeE e1' own, [], [], ysAll, by simp, Nat.zero_le _, k1, by simpa using g2, rfl, upd_same, .nil, hS1, fun h => not_roots w1 hD ((k2 D).mp h), Nat.le_refl _, (Gr.newH p1.rep.same hD).step, fun b hb => .inl (w2 b ((k2 b).mp hb)), wipeE_length _ _⟩
  · rintro i m H ⟨S, ev0, done, acc, rest, rfl, hi, rep, hL, hys, hHD, hacc, hSD, hRD, hal, st, hsub, hlen⟩
    have at_ : gOk s.g ev0 → At K σ s S1 S H (wipe σ own) ev0 := fun hg => ⟨rep, st.st, hg, fun j hj => by
      have := hlk j hj
      rw [slotV_wipe, if_neg (of_decide_eq_true this)]⟩
    by_cases hlt : i < s.items.length
    · have hdrop : s.items.drop i = s.items[i] :: s.items.drop (i + 1) := List.drop_eq_getElem_cons hlt
      rw [hdrop, lcD] at hL
      obtain ⟨hgo, hL⟩ := (Option.ite_none_right_eq_some ..).mp hL
      obtain ⟨ea, b1, hL⟩ := Option.bind_eq_some_iff.mp hL
      obtain ⟨⟨c, eb⟩, b2, hL⟩ := Option.bind_eq_some_iff.mp hL
      obtain ⟨b, b3, hL⟩ := Option.bind_eq_some_iff.mp hL
      have hat := at_ hgo
      refine .inr ⟨it.go hat hlt, fun H => ∃ m', m' < s.items.length - i ∧ ∃ S env done acc rest, m' = s.items.length - (i + 1) ∧ i + 1 ≤ s.items.length ∧ RepEnv K S H (wipe σ own) env ∧
        lcD (fun e => (ev Γ elt e).bind fun (r, e') => fz e' r) (fun e => (ev Γ cond e).bind fun (r, e') => (cur e' r).map fun x => (x, e')) (bindT s.lk tg) own s.g (s.items.drop (i + 1)) env = some (rest, e2) ∧
        ysAll = done ++ rest ∧ H D = some (.lst acc) ∧ Rps K S acc done ∧ S D = none ∧ ¬ Roots H (wipe σ own) env D ∧ acc.length ≤ i + 1 ∧ Step (Roots H1 σ e1') S1 H1 S H ∧ (∀ b, Roots H (wipe σ own) env b → Roots H1 σ e1' b ∨ H1 b = none) ∧ env.length = e1'.length, fun H' h => h, fun x H' hy => ?_⟩
      obtain ⟨dx, S', y1, y2, y3⟩ := it.yld hat hlt hy
      have edx : dx = s.items[i] := by rw [List.getElem?_eq_getElem hlt] at y1; exact (Option.some.inj y1).symm
      subst edx
      obtain ⟨rep', rr⟩ := rep.grow y2.st y2.same y2.hh y2.nw
      have hD' := (y2.step (R := fun _ => False)).hold hSD hHD (fun z => z)
      refine ⟨s.lk, S', ev0, _, ea, rep', y3, b1, fun σ2 tp => ⟨wipe_eq tp.len fun j hj => tp.oth j fun z => hj (hown j z), ?_⟩⟩
      have hw2 : wipe σ2 own = wipe σ own := wipe_eq tp.len fun j hj => tp.oth j fun z => hj (hown j z)
      have st' : Step (Roots H1 σ e1') S1 H1 S' H' := st.trans (y2.step (R := fun _ => False)) fun _ z => z.elim
      have sub2 : ∀ b, Roots H' σ2 ea b → Roots H1 σ e1' b ∨ H1 b = none := fun b hb => hsub b ((rr b).mp (tp.sub b hb))
      have hR2 : ¬ Roots H' σ2 ea D := fun h => hRD ((rr D).mp (tp.sub D h))
      refine ⟨S', ea, c, eb, b, tp.rep, b2, b3, fun S3 H3 p3 => ?_⟩
      have hD3 := p3.step.hold hD'.1 hD'.2 hR2
      have st3 : Step (Roots H1 σ e1') S1 H1 S3 H3 := st'.trans p3.step fun c hc => sub2 c hc
      have sub3 : ∀ b, Roots H3 σ2 eb b → Roots H1 σ e1' b ∨ H1 b = none := fun b hb => (p3.sub b hb).elim (sub2 b) fun z => .inr (none_bk st' z)
      cases b with
      | true =>
        simp only [if_true] at hL ⊢
        obtain ⟨⟨y, ec⟩, b4, hL⟩ := Option.bind_eq_some_iff.mp hL
        obtain ⟨⟨r, ed⟩, b5, b4⟩ := Option.bind_eq_some_iff.mp b4
        obtain ⟨⟨ys', e2'⟩, b6, hL⟩ := Option.map_eq_some_iff.mp hL
        cases hL
        refine ⟨S3, eb, r, ed, p3.rep, b5, fun v S4 H4 p4 => ?_⟩
        obtain ⟨S5, p5, r5, _⟩ := fz_ok p4 b4
        have hD5 := p5.step.hold hD3.1 hD3.2 (fun h => hR2 (sD hD'.2 (p3.sub D h)))
        have st5 : Step (Roots H1 σ e1') S1 H1 S5 H4 := st3.trans p5.step fun c hc => sub3 c hc
        have sub5 : ∀ b, Roots H4 σ2 ec b → Roots H1 σ e1' b ∨ H1 b = none := fun b hb => (p5.sub b hb).elim (sub3 b) fun z => .inr (none_bk st3 z)
        obtain ⟨w5, w6⟩ := RepEnv.wipe p5.rep own
        rw [hw2] at w5 w6
        have hR5 : ¬ Roots H4 (wipe σ own) (wipeE ec own) D := fun h => hR2 (sD hD'.2 (p3.sub D (sD hD3.2 (p5.sub D (w6 D h)))))
        obtain ⟨k1, k2⟩ := w5.keep (step_at (o := .lst (acc ++ [v])) w5.same hD5.1 hD5.2) fun b hb e => hR5 (by rw [← e]; exact hb)
        have hz := it.len
        refine ⟨acc, hD5.2, by omega, s.items.length - (i + 1), by omega, S5, wipeE ec own, done ++ [y], acc ++ [v], ys', rfl, hlt, k1, b6, by rw [hys]; simp, upd_same, ?_, hD5.1, fun h => hR5 ((k2 D).mp h), ?_, ?_, fun b hb => sub5 b (w6 b ((k2 b).mp hb)), ?_⟩
        · exact dps_app (dpsMono (y2.st.trans (p3.step.st.trans p5.step.st)) hacc) (.cons r5 .nil)
        · rw [List.length_append]; simp; omega
        · exact st5.trans (step_at w5.same hD5.1 hD5.2) fun c e => .inr (by rw [e]; exact hD)
        · rw [wipeE_length, p5.slots, p3.slots, tp.slots, hlen]
      | false =>
        simp only [Bool.false_eq_true, if_false] at hL ⊢
        obtain ⟨w5, w6⟩ := RepEnv.wipe p3.rep own
        rw [hw2] at w5 w6
        refine ⟨s.items.length - (i + 1), by omega, S3, wipeE eb own, done, acc, rest, rfl, hlt, w5, hL, hys, hD3.2, dpsMono (y2.st.trans p3.step.st) hacc, hD3.1, fun h => hR2 (sD hD'.2 (p3.sub D (w6 D h))), by omega, st3, fun b hb => sub3 b (w6 b hb), ?_⟩
        rw [wipeE_length, p3.slots, tp.slots, hlen]
    · have e : s.items.drop i = [] := List.drop_eq_nil_of_le (by omega)
      rw [e, lcD] at hL
      obtain ⟨hgo, hL⟩ := (Option.ite_none_right_eq_some ..).mp hL
      cases hL
      rw [List.append_nil] at hys
      subst hys
      refine .inl ⟨it.stop (at_ hgo) (by omega), q _ S H ?_⟩
      obtain ⟨k1, k2⟩ := RepEnv.back own p1.rep st.st rep
      refine ⟨⟨p1.step.trans st fun c hc => p1.sub c hc, k1, fun b hb => (hsub b (k2 b hb)).elim (p1.sub b) fun z => .inr (none_bk p1.step z), by rw [backOwn_length, hlen, p1.slots]⟩, ⟨⟨D, acc, rfl, hSD, hHD, hacc⟩, fun b hb hr => ?_⟩, fun w e b hb => ?_⟩
      · cases hb
        exact hRD (k2 D hr)
      · cases e
        cases hb
        cases z : H0 D with
        | none => rfl
        | some o => exact absurd hD (p1.step.dm D (by rw [z]; simp))
end
end Ev

namespace Ev
open PySem L2
section
variable {Γ : Ctx} {T : Tab} {N : List Str} {sc scT : Scope} {k : Nat} {X : Cx} {K : PySem.W.Frag}
theorem wipe_wipe {σ2 : St} {own vs1 : List Nat} (h : ∀ j ∈ vs1, j ∈ own) : wipe (wipe σ2 vs1) own = wipe σ2 own := by
  refine wipe_eq (by rw [wipe_length, wipe_length]) fun j hj => ?_
  rw [wipe_get, wipe_get, if_neg (fun z => hj (h j z.1)), if_neg (fun z => hj z.1)]
theorem lc2_read {elt : ME} {tg tg1 : Tg} {it it1 : MI} {cond cond1 : ME} {own vs1 : List Nat} (hown : ∀ j ∈ slotsT tg, j ∈ own) (hown1 : ∀ j ∈ slotsT tg1, j ∈ vs1) (hvs : ∀ j ∈ vs1, j ∈ own) {σ : St} {H0 : Hp} {Q : VK} (q : tE K Γ (.lc2 elt tg it cond own tg1 it1 cond1 vs1) σ H0 Q) :
    tLc2 (tI K Γ it) (tGx K tg) (tCd K Γ cond) (tI K Γ it1) (tGx K tg1) (tCd K Γ cond1) (tE K Γ elt) own vs1 σ H0 Q := by
  obtain ⟨S0, env, r, env', rep0, e1, q⟩ := q
  simp only [ev] at e1
  obtain ⟨⟨s, e1'⟩, g1, e1⟩ := Option.bind_eq_some_iff.mp e1
  obtain ⟨hlk, e1⟩ := (Option.ite_none_right_eq_some ..).mp e1
  obtain ⟨⟨ysAll, e2⟩, g2, e1⟩ := Option.bind_eq_some_iff.mp e1
  obtain ⟨hbig, e1⟩ := (Option.ite_none_right_eq_some ..).mp e1
  cases e1
  have hbig : ysAll.length ≤ sizeLine := hbig
  rw [List.all_eq_true] at hlk
  refine ⟨S0, env, s, e1', rep0, g1, fun J S1 H1 p1 hg it => ?_⟩
  intro D hD
  have hS1 : S1 D = none := p1.rep.same.free hD
  obtain ⟨w1, w2⟩ := RepEnv.wipe p1.rep own
  generalize hinner : (fun e => (evI Γ it1 e).bind fun (s1, e') => if s1.lk.all (fun j => decide (j ∉ vs1)) then
          lcD (fun e => (ev Γ elt e).bind fun (r, e') => fz e' r) (fun e => (ev Γ cond1 e).bind fun (r, e') => (cur e' r).map fun x => (x, e')) (bindT s1.lk tg1) vs1 s1.g s1.items (wipeE e' vs1)
        else none) = inner at g2
  refine ⟨fun i m H => ∃ S env done acc rest, m = s.items.length - i ∧ i ≤ s.items.length ∧ RepEnv K S H (wipe σ own) env ∧
    lc2D inner (fun e => (ev Γ cond e).bind fun (r, e') => (cur e' r).map fun x => (x, e')) (bindT s.lk tg) own s.g (s.items.drop i) env = some (rest, e2) ∧
    ysAll = done ++ rest ∧ H D = some (.lst acc) ∧ Rps K S acc done ∧ S D = none ∧ ¬ Roots H (wipe σ own) env D ∧ Step (Roots H1 σ e1') S1 H1 S H ∧ (∀ b, Roots H (wipe σ own) env b → Roots H1 σ e1' b ∨ H1 b = none) ∧ env.length = e1'.length, ⟨s.items.length, ?_⟩, ?_⟩
  · obtain ⟨k1, k2⟩ := w1.grow (S' := S1) (H' := upd H1 D (.lst [])) (Same.refl _) (p1.rep.same.trans (upd_same_of hD)) (upd_same_of hD) fun b e => .inl e
    refine ⟨S1, wipeE e1' own, [], [], ysAll, by simp, Nat.zero_le _, k1, by simpa using g2, rfl, upd_same, .nil, hS1, fun h => not_roots w1 hD ((k2 D).mp h), (Gr.newH p1.rep.same hD).step, fun b hb => .inl (w2 b ((k2 b).mp hb)), wipeE_length _ _⟩
  · rintro i m H ⟨S, ev0, done, acc, rest, rfl, hi, rep, hL, hys, hHD, hacc, hSD, hRD, st, hsub, hlen⟩
    have at_ : gOk s.g ev0 → At K σ s S1 S H (wipe σ own) ev0 := fun hg => ⟨rep, st.st, hg, fun j hj => by
      have := hlk j hj
      rw [slotV_wipe, if_neg (of_decide_eq_true this)]⟩
    by_cases hlt : i < s.items.length
    · have hdrop : s.items.drop i = s.items[i] :: s.items.drop (i + 1) := List.drop_eq_getElem_cons hlt
      rw [hdrop, lc2D] at hL
      obtain ⟨hgo, hL⟩ := (Option.ite_none_right_eq_some ..).mp hL
      obtain ⟨ea, b1, hL⟩ := Option.bind_eq_some_iff.mp hL
      obtain ⟨⟨c, eb⟩, b2, hL⟩ := Option.bind_eq_some_iff.mp hL
      obtain ⟨b, b3, hL⟩ := Option.bind_eq_some_iff.mp hL
      have hat := at_ hgo
      refine .inr ⟨it.go hat hlt, fun H => ∃ m', m' < s.items.length - i ∧ ∃ S env done acc rest, m' = s.items.length - (i + 1) ∧ i + 1 ≤ s.items.length ∧ RepEnv K S H (wipe σ own) env ∧
        lc2D inner (fun e => (ev Γ cond e).bind fun (r, e') => (cur e' r).map fun x => (x, e')) (bindT s.lk tg) own s.g (s.items.drop (i + 1)) env = some (rest, e2) ∧
        ysAll = done ++ rest ∧ H D = some (.lst acc) ∧ Rps K S acc done ∧ S D = none ∧ ¬ Roots H (wipe σ own) env D ∧ Step (Roots H1 σ e1') S1 H1 S H ∧ (∀ b, Roots H (wipe σ own) env b → Roots H1 σ e1' b ∨ H1 b = none) ∧ env.length = e1'.length, fun H' h => h, fun x H' hy => ?_⟩
      obtain ⟨dx, S', y1, y2, y3⟩ := it.yld hat hlt hy
      have edx : dx = s.items[i] := by rw [List.getElem?_eq_getElem hlt] at y1; exact (Option.some.inj y1).symm
      subst edx
      obtain ⟨rep', rr⟩ := rep.grow y2.st y2.same y2.hh y2.nw
      have hD' := (y2.step (R := fun _ => False)).hold hSD hHD (fun z => z)
      refine ⟨s.lk, S', ev0, _, ea, rep', y3, b1, fun σ2 tp => ⟨wipe_eq tp.len fun j hj => tp.oth j fun z => hj (hown j z), ?_⟩⟩
      have hw2 : wipe σ2 own = wipe σ own := wipe_eq tp.len fun j hj => tp.oth j fun z => hj (hown j z)
      have st' : Step (Roots H1 σ e1') S1 H1 S' H' := st.trans (y2.step (R := fun _ => False)) fun _ z => z.elim
      have sub2 : ∀ b, Roots H' σ2 ea b → Roots H1 σ e1' b ∨ H1 b = none := fun b hb => hsub b ((rr b).mp (tp.sub b hb))
      have hR2 : ¬ Roots H' σ2 ea D := fun h => hRD ((rr D).mp (tp.sub D h))
      refine ⟨S', ea, c, eb, b, tp.rep, b2, b3, fun S3 H3 p3 => ?_⟩
      have hD3 := p3.step.hold hD'.1 hD'.2 hR2
      have st3 : Step (Roots H1 σ e1') S1 H1 S3 H3 := st'.trans p3.step fun c hc => sub2 c hc
      have sub3 : ∀ b, Roots H3 σ2 eb b → Roots H1 σ e1' b ∨ H1 b = none := fun b hb => (p3.sub b hb).elim (sub2 b) fun z => .inr (none_bk st' z)
      have hR3 : ¬ Roots H3 σ2 eb D := fun h => hR2 (sD hD'.2 (p3.sub D h))
      cases b with
      | true =>
        simp only [if_true] at hL ⊢
        obtain ⟨⟨ys, e3⟩, b4, hL⟩ := Option.bind_eq_some_iff.mp hL
        obtain ⟨⟨zs, e2'⟩, b6, hL⟩ := Option.map_eq_some_iff.mp hL
        cases hL
        rw [← hinner] at b4
        obtain ⟨⟨s1, e4⟩, c1, b4⟩ := Option.bind_eq_some_iff.mp b4
        obtain ⟨hlk1, b4⟩ := (Option.ite_none_right_eq_some ..).mp b4
        rw [List.all_eq_true] at hlk1
        refine ⟨S3, eb, s1, e4, p3.rep, c1, fun J1 S4 H4 p4 hg1 it1 => ?_⟩
        have hD4 := p4.step.hold hD3.1 hD3.2 hR3
        have st4 : Step (Roots H1 σ e1') S1 H1 S4 H4 := st3.trans p4.step fun c hc => sub3 c hc
        have sub4 : ∀ b, Roots H4 σ2 e4 b → Roots H1 σ e1' b ∨ H1 b = none := fun b hb => (p4.sub b hb).elim (sub3 b) fun z => .inr (none_bk st3 z)
        have hR4 : ¬ Roots H4 σ2 e4 D := fun h => hR3 (sD hD3.2 (p4.sub D h))
        obtain ⟨v1, v2⟩ := RepEnv.wipe p4.rep vs1
        refine ⟨fun j m H => ∃ S env done1 acc rest1, m = s1.items.length - j ∧ j ≤ s1.items.length ∧ RepEnv K S H (wipe σ2 vs1) env ∧
          lcD (fun e => (ev Γ elt e).bind fun (r, e') => fz e' r) (fun e => (ev Γ cond1 e).bind fun (r, e') => (cur e' r).map fun x => (x, e')) (bindT s1.lk tg1) vs1 s1.g (s1.items.drop j) env = some (rest1, e3) ∧
          ysAll = done1 ++ rest1 ++ zs ∧ H D = some (.lst acc) ∧ Rps K S acc done1 ∧ S D = none ∧ ¬ Roots H (wipe σ2 vs1) env D ∧ Step (Roots H1 σ e1') S1 H1 S H ∧ Same S4 S ∧ (∀ b, Roots H (wipe σ2 vs1) env b → Roots H1 σ e1' b ∨ H1 b = none) ∧ env.length = e1'.length, ⟨s1.items.length, ?_⟩, ?_⟩
        · refine ⟨S4, wipeE e4 vs1, done, acc, ys, by simp, Nat.zero_le _, v1, by simpa using b4, by rw [hys]; simp, hD4.2, dpsMono (y2.st.trans (p3.step.st.trans p4.step.st)) hacc, hD4.1, fun h => hR4 (v2 D h), st4, Same.refl _, fun b hb => sub4 b (v2 b hb), ?_⟩
          rw [wipeE_length, p4.slots, p3.slots, tp.slots, hlen]
        · rintro j m H5 ⟨S5, ev5, done1, acc1, rest1, rfl, hj, rep5, hL5, hys5, hHD5, hacc5, hSD5, hRD5, st5, hs45, hsub5, hlen5⟩
          have at5 : gOk s1.g ev5 → At K σ2 s1 S4 S5 H5 (wipe σ2 vs1) ev5 := fun hg => ⟨rep5, hs45, hg, fun j hj => by
            have := hlk1 j hj
            rw [slotV_wipe, if_neg (of_decide_eq_true this)]⟩
          by_cases hlt1 : j < s1.items.length
          · have hdrop1 : s1.items.drop j = s1.items[j] :: s1.items.drop (j + 1) := List.drop_eq_getElem_cons hlt1
            rw [hdrop1, lcD] at hL5
            obtain ⟨hgo1, hL5⟩ := (Option.ite_none_right_eq_some ..).mp hL5
            obtain ⟨fa, d1, hL5⟩ := Option.bind_eq_some_iff.mp hL5
            obtain ⟨⟨c', fb⟩, d2, hL5⟩ := Option.bind_eq_some_iff.mp hL5
            obtain ⟨b', d3, hL5⟩ := Option.bind_eq_some_iff.mp hL5
            have hat1 := at5 hgo1
            refine .inr ⟨it1.go hat1 hlt1, fun H => ∃ m', m' < s1.items.length - j ∧ ∃ S env done1 acc rest1, m' = s1.items.length - (j + 1) ∧ j + 1 ≤ s1.items.length ∧ RepEnv K S H (wipe σ2 vs1) env ∧
              lcD (fun e => (ev Γ elt e).bind fun (r, e') => fz e' r) (fun e => (ev Γ cond1 e).bind fun (r, e') => (cur e' r).map fun x => (x, e')) (bindT s1.lk tg1) vs1 s1.g (s1.items.drop (j + 1)) env = some (rest1, e3) ∧
              ysAll = done1 ++ rest1 ++ zs ∧ H D = some (.lst acc) ∧ Rps K S acc done1 ∧ S D = none ∧ ¬ Roots H (wipe σ2 vs1) env D ∧ Step (Roots H1 σ e1') S1 H1 S H ∧ Same S4 S ∧ (∀ b, Roots H (wipe σ2 vs1) env b → Roots H1 σ e1' b ∨ H1 b = none) ∧ env.length = e1'.length, fun H' h => h, fun x H6 hy1 => ?_⟩
            obtain ⟨dx1, S6, z1, z2, z3⟩ := it1.yld hat1 hlt1 hy1
            have edx1 : dx1 = s1.items[j] := by rw [List.getElem?_eq_getElem hlt1] at z1; exact (Option.some.inj z1).symm
            subst edx1
            obtain ⟨rep6, rr6⟩ := rep5.grow z2.st z2.same z2.hh z2.nw
            have hD6 := (z2.step (R := fun _ => False)).hold hSD5 hHD5 (fun z => z)
            refine ⟨s1.lk, S6, ev5, _, fa, rep6, z3, d1, fun σ3 tp1 => ⟨wipe_eq tp1.len fun j hj => tp1.oth j fun z => hj (hown1 j z), ?_⟩⟩
            have hw3 : wipe σ3 vs1 = wipe σ2 vs1 := wipe_eq tp1.len fun j hj => tp1.oth j fun z => hj (hown1 j z)
            have st6 : Step (Roots H1 σ e1') S1 H1 S6 H6 := st5.trans (z2.step (R := fun _ => False)) fun _ z => z.elim
            have sub6 : ∀ b, Roots H6 σ3 fa b → Roots H1 σ e1' b ∨ H1 b = none := fun b hb => hsub5 b ((rr6 b).mp (tp1.sub b hb))
            have hR6 : ¬ Roots H6 σ3 fa D := fun h => hRD5 ((rr6 D).mp (tp1.sub D h))
            refine ⟨S6, fa, c', fb, b', tp1.rep, d2, d3, fun S7 H7 p7 => ?_⟩
            have hD7 := p7.step.hold hD6.1 hD6.2 hR6
            have st7 : Step (Roots H1 σ e1') S1 H1 S7 H7 := st6.trans p7.step fun c hc => sub6 c hc
            have sub7 : ∀ b, Roots H7 σ3 fb b → Roots H1 σ e1' b ∨ H1 b = none := fun b hb => (p7.sub b hb).elim (sub6 b) fun z => .inr (none_bk st6 z)
            cases b' with
            | true =>
              simp only [if_true] at hL5 ⊢
              obtain ⟨⟨y, fc⟩, d4, hL5⟩ := Option.bind_eq_some_iff.mp hL5
              obtain ⟨⟨r, fd⟩, d5, d4⟩ := Option.bind_eq_some_iff.mp d4
              obtain ⟨⟨ys', e3'⟩, d6, hL5⟩ := Option.map_eq_some_iff.mp hL5
              cases hL5
              refine ⟨S7, fb, r, fd, p7.rep, d5, fun v S8 H8 p8 => ?_⟩
              obtain ⟨S9, p9, r9, _⟩ := fz_ok p8 d4
              have hD9 := p9.step.hold hD7.1 hD7.2 (fun h => hR6 (sD hD6.2 (p7.sub D h)))
              have st9 : Step (Roots H1 σ e1') S1 H1 S9 H8 := st7.trans p9.step fun c hc => sub7 c hc
              have sub9 : ∀ b, Roots H8 σ3 fc b → Roots H1 σ e1' b ∨ H1 b = none := fun b hb => (p9.sub b hb).elim (sub7 b) fun z => .inr (none_bk st7 z)
              obtain ⟨w5, w6⟩ := RepEnv.wipe p9.rep vs1
              rw [hw3] at w5 w6
              have hR9 : ¬ Roots H8 (wipe σ2 vs1) (wipeE fc vs1) D := fun h => hR6 (sD hD6.2 (p7.sub D (sD hD7.2 (p9.sub D (w6 D h)))))
              obtain ⟨k1, k2⟩ := w5.keep (step_at (o := .lst (acc1 ++ [v])) w5.same hD9.1 hD9.2) fun b hb e => hR9 (by rw [← e]; exact hb)
              have hal : acc1.length < sizeLine := by
                have e1 := dps_len hacc5
                have e2 := congrArg List.length hys5
                simp only [List.length_append, List.length_cons] at e2
                omega
              refine ⟨acc1, hD9.2, hal, s1.items.length - (j + 1), by omega, S9, wipeE fc vs1, done1 ++ [y], acc1 ++ [v], ys', rfl, hlt1, k1, d6, by rw [hys5]; simp, upd_same, ?_, hD9.1, fun h => hR9 ((k2 D).mp h), ?_, ?_, fun b hb => sub9 b (w6 b ((k2 b).mp hb)), ?_⟩
              · exact dps_app (dpsMono (z2.st.trans (p7.step.st.trans p9.step.st)) hacc5) (.cons r9 .nil)
              · exact st9.trans (step_at w5.same hD9.1 hD9.2) fun c e => .inr (by rw [e]; exact hD)
              · exact hs45.trans (z2.st.trans (p7.step.st.trans p9.step.st))
              · rw [wipeE_length, p9.slots, p7.slots, tp1.slots, hlen5]
            | false =>
              simp only [Bool.false_eq_true, if_false] at hL5 ⊢
              obtain ⟨w5, w6⟩ := RepEnv.wipe p7.rep vs1
              rw [hw3] at w5 w6
              refine ⟨s1.items.length - (j + 1), by omega, S7, wipeE fb vs1, done1, acc1, rest1, rfl, hlt1, w5, hL5, hys5, hD7.2, dpsMono (z2.st.trans p7.step.st) hacc5, hD7.1, fun h => hR6 (sD hD6.2 (p7.sub D (w6 D h))), st7, hs45.trans (z2.st.trans p7.step.st), fun b hb => sub7 b (w6 b hb), ?_⟩
              rw [wipeE_length, p7.slots, tp1.slots, hlen5]
          · have e : s1.items.drop j = [] := List.drop_eq_nil_of_le (by omega)
            rw [e, lcD] at hL5
            obtain ⟨hgo1, hL5⟩ := (Option.ite_none_right_eq_some ..).mp hL5
            cases hL5
            rw [List.append_nil] at hys5
            obtain ⟨w5, w6⟩ := RepEnv.wipe rep5 own
            rw [wipe_wipe hvs, hw2] at w5 w6
            refine .inl ⟨it1.stop (at5 hgo1) (by omega), s.items.length - (i + 1), by omega, S5, _, done1, acc1, zs, rfl, hlt, w5, b6, hys5, hHD5, hacc5, hSD5, fun h => hRD5 (w6 D h), st5, fun b hb => hsub5 b (w6 b hb), ?_⟩
            rw [wipeE_length, hlen5]
      | false =>
        simp only [Bool.false_eq_true, if_false] at hL ⊢
        obtain ⟨w5, w6⟩ := RepEnv.wipe p3.rep own
        rw [hw2] at w5 w6
        refine ⟨s.items.length - (i + 1), by omega, S3, wipeE eb own, done, acc, rest, rfl, hlt, w5, hL, hys, hD3.2, dpsMono (y2.st.trans p3.step.st) hacc, hD3.1, fun h => hR2 (sD hD'.2 (p3.sub D (w6 D h))), st3, fun b hb => sub3 b (w6 b hb), ?_⟩
        rw [wipeE_length, p3.slots, tp.slots, hlen]
    · have e : s.items.drop i = [] := List.drop_eq_nil_of_le (by omega)
      rw [e, lc2D] at hL
      obtain ⟨hgo, hL⟩ := (Option.ite_none_right_eq_some ..).mp hL
      cases hL
      rw [List.append_nil] at hys
      subst hys
      refine .inl ⟨it.stop (at_ hgo) (by omega), q _ S H ?_⟩
      obtain ⟨k1, k2⟩ := RepEnv.back own p1.rep st.st rep
      refine ⟨⟨p1.step.trans st fun c hc => p1.sub c hc, k1, fun b hb => (hsub b (k2 b hb)).elim (p1.sub b) fun z => .inr (none_bk p1.step z), by rw [backOwn_length, hlen, p1.slots]⟩, ⟨⟨D, acc, rfl, hSD, hHD, hacc⟩, fun b hb hr => ?_⟩, fun w e b hb => ?_⟩
      · cases hb
        exact hRD (k2 D hr)
      · cases e
        cases hb
        cases z : H0 D with
        | none => rfl
        | some o => exact absurd hD (p1.step.dm D (by rw [z]; simp))
theorem snd_lc2 {elt : ME} {tg tg1 : Tg} {it it1 : MI} {cond cond1 : ME} {own vs1 : List Nat} (h1 : SndE Γ T N elt) (h2 : SndI Γ T N it) (h3 : SndE Γ T N cond) (h4 : SndI Γ T N it1) (h5 : SndE Γ T N cond1) : SndE Γ T N (.lc2 elt tg it cond own tg1 it1 cond1 vs1) := by
  have ee : ∀ {sc scT k X e}, XOk Γ T N sc scT k X → okE T N (.lc2 elt tg it cond own tg1 it1 cond1 vs1) sc e = true → PE X e (tE X.K Γ (.lc2 elt tg it cond own tg1 it1 cond1 vs1)) := by
    intro sc scT k X e hX h
    simp only [okE] at h
    split at h
    · rename_i y scope t i cs t1 i1 cs1 hP
      obtain ⟨pos, rfl⟩ := lc2P_p hP
      simp only [Bool.and_eq_true] at h
      obtain ⟨⟨⟨⟨⟨⟨⟨⟨⟨⟨⟨⟨b1, b2⟩, b3⟩, b4⟩, b5⟩, b6⟩, b7⟩, b8⟩, b9⟩, b10⟩, b11⟩, b12⟩, b13⟩ := h
      rw [List.all_eq_true] at b2 b8 b9
      have bok : BlkOk X.N X.env.scope scope (ownP N own) := by rw [hX.hN, hX.hsc]; exact blkOk_by b1
      refine PE.imp (pe_lc2 (own := ownP N own) (vs1 := vs1) (wi1 := tI X.K Γ it1) (te := tE X.K Γ elt) (g := tGx X.K tg) (tt := tCd X.K Γ cond) (g1 := tGx X.K tg1) (tt1 := tCd X.K Γ cond1) hX.calm (by rw [hX.hN]; exact hX.nd) (h2.i hX b5) bok (fun j hj => by rw [ownP_snd]; exact of_decide_eq_true (b8 j hj)) (fun s H C cl fp => pgx_ok (hX.blk s H C cl fp) tg t b3) (fun s H C cl fp => pts_ok h3 (hX.blk s H C cl fp) b7)
        (fun s H C cl fp => h4.i (hX.blk s H C cl fp) b12) (fun s H C cl fp => pgx_ok (hX.blk s H C cl fp) tg1 t1 b10) (fun s H C cl fp => pts_ok h5 (hX.blk s H C cl fp) b13) (fun s H C cl fp => h1.e (hX.blk s H C cl fp) b6) (nofold b4) (fun env => nofold b11)) fun σ H Q q => ?_
      rw [ownP_snd]
      exact lc2_read (fun j hj => of_decide_eq_true (b2 j hj)) (fun j hj => of_decide_eq_true (b9 j hj)) (fun j hj => of_decide_eq_true (b8 j hj)) q
    · cases h
  refine ⟨ee, fun hX h => ?_⟩
  rename_i sc scT k X e
  have h2 := h
  simp only [okE] at h2
  split at h2
  · rename_i y scope t i cs t1 i1 cs1 hP
    obtain ⟨pos, rfl⟩ := lc2P_p hP
    exact tru_tT (ee hX h) fun _ => rfl
  · cases h2
end
end Ev

namespace Ev
open PySem L2
section
variable {Γ : Ctx} {T : Tab} {N : List Str} {sc scT : Scope} {k : Nat} {X : Cx} {K : PySem.W.Frag}
def rMth (K : PySem.W.Frag) (m : Mt) : V → List V → Hp → VK → Prop := fun x vs H Q => ∃ S dx ds w, Same S H ∧ RepC K S H x dx ∧ RepCs K S H vs ds ∧ mtD m dx ds = some w ∧ RB K S H w Q
theorem MtR.imp {id : String} {r r' : V → List V → Hp → VK → Prop} (h : MtR X id r) (w : ∀ x vs H Q, r' x vs H Q → r x vs H Q) : MtR X id r' := fun pins s σ H x xs v us Q I rx rxs q => h pins s σ H x xs v us Q I rx rxs (w _ _ _ _ q)
theorem findIdx_p {p : D → Bool} : ∀ {ds : List D} {j : Nat}, ds.findIdx? p = some j → ∃ z, ds[j]? = some z ∧ p z = true ∧ ∀ m z', m < j → ds[m]? = some z' → p z' = false := fun {ds j} h => by
  obtain ⟨h1, h2, h3⟩ := List.findIdx?_eq_some_iff_getElem.mp h
  refine ⟨ds[j], List.getElem?_eq_getElem h1, h2, fun m z' hm hz => ?_⟩
  obtain ⟨q1, q2⟩ := List.getElem?_eq_some_iff.mp hz
  have := h3 m hm
  rw [← q2]
  simpa using this
theorem strs_rps : ∀ {vs : List V} {ds : List D} {ys : List Str} {K : PySem.W.Frag} {S : Hp}, Rps K S vs ds → strsOf ds = some ys → vs = ys.map V.str
  | _, _, ys, _, _, .nil, e => by cases e; rfl
  | _, _, ys, _, _, .cons (v := v) (d := d) h a, e => by
    cases d with
    | str z =>
      simp only [strsOf, Option.map_eq_some_iff] at e
      obtain ⟨r, e1, rfl⟩ := e
      cases h
      rw [strs_rps a e1]; rfl
    | _ => cases e
theorem items_rep {K : PySem.W.Frag} {S H : Hp} {v : V} {d : D} {ds : List D} (hs : Same S H) (h : RepC K S H v d) (e : itemsOf d = some ds) : ∃ a vs, v = .ref a ∧ (SqL K H a vs ∨ SqT K H a vs) ∧ Rps K S vs ds := by
  unfold itemsOf at e
  split at e
  · cases e
    obtain ⟨a, vs, rfl, h1, h2⟩ := h.list hs
    exact ⟨a, vs, rfl, .inl (SqL.of h1), h2⟩
  · cases e
    obtain ⟨a, vs, rfl, h1, h2⟩ := h.tuple
    exact ⟨a, vs, rfl, .inr (sameT hs h1), h2⟩
  · cases e
theorem r_mth (m : Mt) (hu : X.A.units + 66 < cLine) : MtR X (mtId m) (rMth X.K m) := by
  cases m with
  | lindex =>
    refine MtR.imp (mt_indexD (by omega)) fun x vs H Q q => ?_
    obtain ⟨S, dx, ds, w, hs, hx, hv, e, q⟩ := q
    match dx, ds, e with
    | .list xs, [d], e =>
      have e : (if SeqAt.shaped (.list xs) && SeqAt.shaped d then (xs.findIdx? fun z => z.eqv d).map fun (j : Nat) => Val.d (.int (j : Int)) else none) = some w := e
      obtain ⟨h1, e⟩ := (Option.ite_none_right_eq_some ..).mp e
      obtain ⟨j, h2, e⟩ := Option.map_eq_some_iff.mp e
      subst e
      rw [Bool.and_eq_true] at h1
      obtain ⟨y, rfl, hy⟩ := hv.one
      obtain ⟨z, k1, k2, k3⟩ := findIdx_p h2
      obtain ⟨a, us, rfl, l1, l2⟩ := hx.list hs
      exact ⟨a, y, d, xs, j, z, rfl, rfl, rp_dp (hx.dp hs), rp_dp (hy.dp hs), h1.1, h1.2, k1, k2, k3, q.dat hs (.int _)⟩
    | .list xs, [], e => cases e
    | .list xs, _ :: _ :: _, e => cases e
  | join =>
    refine MtR.imp mt_join fun x vs H Q q => ?_
    obtain ⟨S, dx, ds, w, hs, hx, hv, e, q⟩ := q
    match dx, ds, e with
    | .str a, [d], e =>
      have e : ((itemsOf d).bind fun ds => (strsOf ds).bind fun ys => if joinLen a ys ≤ 1000000 then some (Val.d (.str (Txt.join a ys))) else none) = some w := e
      obtain ⟨ds, h1, e⟩ := Option.bind_eq_some_iff.mp e
      obtain ⟨ys, h2, e⟩ := Option.bind_eq_some_iff.mp e
      obtain ⟨h3, e⟩ := (Option.ite_none_right_eq_some ..).mp e
      cases e
      obtain ⟨y, rfl, hy⟩ := hv.one
      obtain ⟨p, us, rfl, l1, l2⟩ := items_rep hs hy h1
      have := strs_rps l2 h2
      subst this
      refine ⟨a, p, ys, hx.str, rfl, l1, ?_, q.dat hs (.str _)⟩
      unfold joinLen at h3
      rw [Nat.mul_comm a.length] at h3
      exact Nat.le_trans h3 (by decide)
    | .str a, [], e => cases e
    | .str a, _ :: _ :: _, e => cases e
  | starts =>
    refine MtR.imp mt_startswith fun x vs H Q q => ?_
    obtain ⟨S, dx, ds, w, hs, hx, hv, e, q⟩ := q
    match dx, ds, e with
    | .str a, [.str b], e =>
      cases e
      obtain ⟨y, rfl, hy⟩ := hv.one
      exact ⟨a, b, hx.str, by rw [hy.str], q.dat hs (.bl _)⟩
  | ends =>
    refine MtR.imp mt_endswith fun x vs H Q q => ?_
    obtain ⟨S, dx, ds, w, hs, hx, hv, e, q⟩ := q
    match dx, ds, e with
    | .str a, [.str b], e =>
      cases e
      obtain ⟨y, rfl, hy⟩ := hv.one
      exact ⟨a, b, hx.str, by rw [hy.str], q.dat hs (.bl _)⟩
  | find =>
    refine MtR.imp mt_find fun x vs H Q q => ?_
    obtain ⟨S, dx, ds, w, hs, hx, hv, e, q⟩ := q
    match dx, ds, e with
    | .str a, [.str b], e =>
      cases e
      obtain ⟨y, rfl, hy⟩ := hv.one
      exact ⟨a, b, hx.str, by rw [hy.str], q.dat hs (.int _)⟩
  | stripC =>
    refine MtR.imp mt_stripChars fun x vs H Q q => ?_
    obtain ⟨S, dx, ds, w, hs, hx, hv, e, q⟩ := q
    match dx, ds, e with
    | .str a, [.str b], e =>
      have e : (if a.length ≤ sizeLine then some (Val.d (.str (Txt.stripChars a b))) else none) = some w := e
      obtain ⟨h3, e⟩ := (Option.ite_none_right_eq_some ..).mp e
      cases e
      obtain ⟨y, rfl, hy⟩ := hv.one
      exact ⟨a, b, hx.str, by rw [hy.str], h3, q.dat hs (.str _)⟩
  | lstripC =>
    refine MtR.imp mt_lstripChars fun x vs H Q q => ?_
    obtain ⟨S, dx, ds, w, hs, hx, hv, e, q⟩ := q
    match dx, ds, e with
    | .str a, [.str b], e =>
      have e : (if a.length ≤ sizeLine then some (Val.d (.str (Txt.lstripChars a b))) else none) = some w := e
      obtain ⟨h3, e⟩ := (Option.ite_none_right_eq_some ..).mp e
      cases e
      obtain ⟨y, rfl, hy⟩ := hv.one
      exact ⟨a, b, hx.str, by rw [hy.str], h3, q.dat hs (.str _)⟩
theorem mt_data (m : Mt) : ∃ (pa : PlainAttrs (mtT m)) (sl : Slot (mtT m) (mtN m) (mtId m)), typeOf (.builtin (mtId m)) = pure (.type "method_descriptor") := by
  cases m with
  | lindex => exact ⟨PySem.F.plainAttrs_list, PySem.F.slot_list_index, PySem.F.type_list_index⟩
  | join => exact ⟨PySem.F.plainAttrs_str, PySem.F.slot_str_join, PySem.F.type_str_join⟩
  | starts => exact ⟨PySem.F.plainAttrs_str, PySem.F.slot_str_startswith, PySem.F.type_str_startswith⟩
  | ends => exact ⟨PySem.F.plainAttrs_str, PySem.F.slot_str_endswith, PySem.F.type_str_endswith⟩
  | find => exact ⟨PySem.F.plainAttrs_str, PySem.F.slot_str_find, PySem.F.type_str_find⟩
  | stripC => exact ⟨PySem.F.plainAttrs_str, PySem.F.slot_str_strip, PySem.F.type_str_strip⟩
  | lstripC => exact ⟨PySem.F.plainAttrs_str, PySem.F.slot_str_lstrip, PySem.F.type_str_lstrip⟩
theorem str_ty {K : PySem.W.Frag} {S H : Hp} {x : V} {z : Str} (h : RepC K S H x (.str z)) : tyV K "str" x H := by rw [h.str]; exact rfl
theorem mt_ty (m : Mt) {S H : Hp} {x : V} {dx : D} (hs : Same S H) (h : RepC K S H x dx) (e : mtK m dx = true) : tyV K (mtT m) x H := by
  cases m with
  | lindex =>
    match dx, e with
    | .list xs, e =>
      obtain ⟨a, us, rfl, l1, l2⟩ := h.list hs
      exact .inl ⟨rfl, us, SqL.of l1⟩
  | join => match dx, e with
    | .str z, _ => exact str_ty h
  | starts => match dx, e with
    | .str z, _ => exact str_ty h
  | ends => match dx, e with
    | .str z, _ => exact str_ty h
  | find => match dx, e with
    | .str z, _ => exact str_ty h
  | stripC => match dx, e with
    | .str z, _ => exact str_ty h
  | lstripC => match dx, e with
    | .str z, _ => exact str_ty h
theorem snd_mth (m : Mt) {a : ME} {es : List ME} (ha : SndE Γ T N a) (h0 : SndL Γ T N es) : SndE Γ T N (.mth m a es) := by
  have ee : ∀ {sc scT k X e}, XOk Γ T N sc scT k X → okE T N (.mth m a es) sc e = true → PE X e (tE X.K Γ (.mth m a es)) := by
    intro sc scT k X e hX h
    simp only [okE] at h
    split at h
    · rename_i o n xs b hP
      obtain ⟨apos, cpos, rfl, rfl⟩ := mthP_p hP
      simp only [Bool.and_eq_true, decide_eq_true_eq] at h
      obtain ⟨⟨⟨⟨⟨h1, h2⟩, h3⟩, h4⟩, h5⟩, h6⟩ := h
      subst h1
      have hA := h0.l hX h6
      match xs, h4, h6, hA with
      | y :: ys, h4, h6, hA =>
        have hs : starEach (y :: ys) X.env = (false, eval y X.env) :: starEach ys X.env := by
          cases es with
          | nil => simp [okL] at h6
          | cons m ms =>
            simp only [okL, Bool.and_eq_true] at h6
            exact star_fine h6.1.1
        have hq := okL_plain (env := X.env) h6 cpos
        have hp : (backTo cpos (starEach ys X.env)).any (·.1) = false := by
          have := hq
          rw [hs] at this
          unfold backTo at this ⊢
          rw [List.map_cons, List.any_cons] at this
          simpa using this
        have hfew : ((backTo cpos (starEach (y :: ys) X.env)).all (fun x => !x.1) && (backToKw cpos (keywordEach [] X.env)).all (fun x => x.1.isSome)
            && decide ((y :: ys).length + ([] : List Keyword).length + (if ([] : List Keyword).isEmpty then 0 else 1) < 30)) = true := by
          have e1 : (backTo cpos (starEach (y :: ys) X.env)).all (fun x => !x.1) = true := by
            rw [List.all_eq_true]
            intro z hz
            rw [List.any_eq_false] at hq
            have := hq z hz
            simpa using this
          rw [e1]
          have e2 : (backToKw cpos (keywordEach [] X.env)).all (fun x => x.1.isSome) = true := rfl
          rw [e2]
          have e3 : (y :: ys).length < 20 := h4.2
          simp only [Bool.true_and]
          refine decide_eq_true ?_
          show (y :: ys).length + 0 + 0 < 30
          omega
        obtain ⟨pa, sl, hty⟩ := mt_data m
        refine PE.imp (pe_bm pa sl hty (r_mth m hX.hu) (ha.e hX h5) hA (base_ok h2) hfew h3 hs hp) fun σ H Q q => ?_
        obtain ⟨S, env, r, env', rep, e1, q⟩ := q
        simp only [ev] at e1
        obtain ⟨⟨ra, e2⟩, g1, e1⟩ := Option.bind_eq_some_iff.mp e1
        obtain ⟨hk, e1⟩ := (Option.ite_none_right_eq_some ..).mp e1
        obtain ⟨⟨rs, e3⟩, g2, e1⟩ := Option.bind_eq_some_iff.mp e1
        obtain ⟨dx, g3, e1⟩ := Option.bind_eq_some_iff.mp e1
        obtain ⟨ds, g4, e1⟩ := Option.bind_eq_some_iff.mp e1
        obtain ⟨w, g5, e1⟩ := Option.map_eq_some_iff.mp e1
        cases e1
        refine ⟨S, env, ra, e2, rep, g1, fun v S1 H1 p1 => ?_⟩
        cases hc : cur e2 ra with
        | none => rw [hc] at hk; cases hk
        | some d0 =>
          rw [hc] at hk
          refine ⟨mt_ty m p1.rep.same (repC_of p1.rep p1.res hc) hk, S1, e2, rs, _, p1.rep, g2, fun vs S2 H2 p2 => ?_⟩
          exact ⟨S2, dx, ds, w, p2.rep.same, RepR.cur p1.res p2.toPst g3, repCs_of p2.rep p2.res g4, g5, fun v' S' H' g rv n => q v' S' H' (psv_gr (p1.toPst.trans p2.toPst) g rv n)⟩
    · cases h
  refine ⟨ee, fun hX h => ?_⟩
  rename_i sc scT k X e
  have h2 := h
  simp only [okE] at h2
  split at h2
  · rename_i o n xs b hP
    obtain ⟨apos, cpos, rfl, rfl⟩ := mthP_p hP
    exact tru_tT (ee hX h) fun _ => rfl
  · cases h2
end
end Ev

namespace Ev
open PySem L2
section
variable {Γ : Ctx} {T : Tab} {N : List Str} {sc scT : Scope} {k : Nat} {X : Cx} {K : PySem.W.Frag}
theorem findIdx_pS {α : Type} {p : α → Bool} : ∀ {ds : List α} {j : Nat}, ds.findIdx? p = some j → ∃ z, ds[j]? = some z ∧ p z = true ∧ ∀ m z', m < j → ds[m]? = some z' → p z' = false := fun {ds j} h => by
  obtain ⟨h1, h2, h3⟩ := List.findIdx?_eq_some_iff_getElem.mp h
  refine ⟨ds[j], List.getElem?_eq_getElem h1, h2, fun m z' hm hz => ?_⟩
  obtain ⟨q1, q2⟩ := List.getElem?_eq_some_iff.mp hz
  have := h3 m hm
  rw [← q2]
  simpa using this
theorem snd_mth0 (m : Mt0) {a : ME} (ha : SndE Γ T N a) : SndE Γ T N (.mth0 m a) := by
  have ee : ∀ {sc scT k X e}, XOk Γ T N sc scT k X → okE T N (.mth0 m a) sc e = true → PE X e (tE X.K Γ (.mth0 m a)) := by
    intro sc scT k X e hX h
    simp only [okE] at h
    split at h
    · rename_i o n b hP
      obtain ⟨apos, cpos, rfl, rfl⟩ := mth0P_p hP
      simp only [Bool.and_eq_true, decide_eq_true_eq] at h
      obtain ⟨⟨⟨h1, h2⟩, h3⟩, h4⟩ := h
      subst h1
      cases m with
      | lower =>
        refine PE.imp (pe_bm0 PySem.F.plainAttrs_str PySem.F.slot_str_lower PySem.F.type_str_lower mt_lower (ha.e hX h4) (base_ok h2) h3) fun σ H Q q => ?_
        obtain ⟨S, env, r, env', rep, e1, q⟩ := q
        simp only [ev] at e1
        obtain ⟨⟨ra, e2⟩, g1, e1⟩ := Option.bind_eq_some_iff.mp e1
        obtain ⟨dx, g2, e1⟩ := Option.bind_eq_some_iff.mp e1
        obtain ⟨hk, e1⟩ := (Option.ite_none_right_eq_some ..).mp e1
        obtain ⟨w, g5, e1⟩ := Option.map_eq_some_iff.mp e1
        cases e1
        match dx, hk, g5, g2 with
        | .str z, hk, g5, g2 =>
          have g5 : (if z.length ≤ 5592405 then some (Val.d (.str (Txt.lower z))) else none) = some w := g5
          obtain ⟨h5, g5⟩ := (Option.ite_none_right_eq_some ..).mp g5
          cases g5
          refine ⟨S, env, ra, _, rep, g1, fun v S1 H1 p1 => ?_⟩
          have hc := repC_of p1.rep p1.res g2
          exact ⟨str_ty hc, z, hc.str, rfl, h5, q _ S1 H1 (psv_gr p1.toPst (Gr.refl p1.rep.same) (.str _) fun _ z => z.elim)⟩
    · cases h
  refine ⟨ee, fun hX h => ?_⟩
  rename_i sc scT k X e
  have h2 := h
  simp only [okE] at h2
  split at h2
  · rename_i o n b hP
    obtain ⟨apos, cpos, rfl, rfl⟩ := mth0P_p hP
    exact tru_tT (ee hX h) fun _ => rfl
  · cases h2
theorem snd_gidx (j : Nat) {a : ME} (ha : SndE Γ T N a) : SndE Γ T N (.gidx j a) := by
  have ee : ∀ {sc scT k X e}, XOk Γ T N sc scT k X → okE T N (.gidx j a) sc e = true → PE X e (tE X.K Γ (.gidx j a)) := by
    intro sc scT k X e hX h
    simp only [okE] at h
    split at h
    · rename_i x px y b hP
      obtain ⟨m, apos, cpos, rfl, rfl⟩ := gidxP_p hP
      simp only [Bool.and_eq_true, decide_eq_true_eq] at h
      obtain ⟨⟨⟨⟨⟨h1, h2⟩, h3⟩, hm, h4⟩, h5⟩, h6⟩ := h
      subst hm
      obtain ⟨n1, n2, _⟩ := nmB_p h3
      refine ⟨fun pins s σ H Q I q => ?_⟩
      obtain ⟨S, env, r, env', rep, e1, q⟩ := q
      simp only [ev] at e1
      obtain ⟨⟨rb, e2⟩, g1, e1⟩ := Option.bind_eq_some_iff.mp e1
      obtain ⟨dy, g2, e1⟩ := Option.bind_eq_some_iff.mp e1
      simp only at e1
      split at e1
      · rename_i ds z hd
        obtain ⟨ys, g3, e1⟩ := Option.bind_eq_some_iff.mp e1
        obtain ⟨n, g4, e1⟩ := Option.map_eq_some_iff.mp e1
        cases e1
        obtain ⟨u, v, m1, m2, m3, m4⟩ := hX.gl j x _ h1 hd
        refine (pe_bm PySem.F.plainAttrs_tuple PySem.F.slot_tuple_index PySem.F.type_tuple_index mt_tup_index (pe_glob (hX.glo h2) m1 m2 n1) (pa_cons (ha.e hX h6) pa_nil (star_fine h5)) (by rfl) (by rw [star1 h5]; rfl) h4 (star_fine h5) (by rfl)).run pins s σ H Q I ?_
        obtain ⟨p, rfl, o, k1, k2⟩ : ∃ p, v = .ref p ∧ ∃ o, X.K.lookup p = some o ∧ o.cls = .type "tuple" := by
          cases m3 (fun _ => none) with
          | tup ht hr =>
            rcases ht with (ht | ⟨o, ht⟩) | ht
            · cases ht
            · cases ht
            · obtain ⟨o, its, n, k1, k2, k3, k4, k5⟩ := ht
              exact ⟨_, rfl, o, k1, k2⟩
        have k3 := m4 p o rfl k1
        have hr0 := m3 S
        obtain ⟨vs', ht, hr⟩ : ∃ vs', SqT X.K S p vs' ∧ Rps X.K S vs' ds := by
          cases hr0 with
          | tup a b => exact ⟨_, a, b⟩
        have hvs := strs_rps hr g3
        subst hvs
        refine ⟨.inr (.inl ⟨rfl, o, k1, k2, k3⟩), S, env, rb, _, rep, g1, fun vb S1 H1 p1 => ?_⟩
        have hc := repC_of p1.rep p1.res g2
        obtain ⟨w, q1, q2, q3⟩ := findIdx_pS g4
        have q2 := of_decide_eq_true q2
        subst q2
        refine ⟨p, ys, w, n, rfl, by rw [hc.str], sameT (p1.step.st.trans p1.rep.same) ht, q1, fun m hm hz => ?_, q _ S1 H1 (psv_gr p1.toPst (Gr.refl p1.rep.same) (.int _) fun _ z => z.elim)⟩
        exact of_decide_eq_false (q3 m w hm hz) rfl
      · cases e1
    · cases h
  refine ⟨ee, fun hX h => ?_⟩
  rename_i sc scT k X e
  have h2 := h
  simp only [okE] at h2
  split at h2
  · rename_i x px y b hP
    obtain ⟨m, apos, cpos, rfl, rfl⟩ := gidxP_p hP
    exact tru_tT (ee hX h) fun _ => rfl
  · cases h2
theorem snd_slen (i : Nat) : SndE Γ T N (.slen i) := by
  have ee : ∀ {sc scT k X e}, XOk Γ T N sc scT k X → okE T N (.slen i) sc e = true → PE X e (tE X.K Γ (.slen i)) := by
    intro sc scT k X e hX h
    simp only [okE] at h
    split at h
    · rename_i x px y py pos
      simp only [Bool.and_eq_true, decide_eq_true_eq] at h
      obtain ⟨⟨⟨⟨⟨h1, h2⟩, h3⟩, h4⟩, h5⟩, h6⟩ := h
      subst h1
      obtain ⟨n1, n2, _⟩ := nmB_p h6
      refine PE.imp (pe_callB call_len_seq (hX.glo h3) (hX.bl _ h2) PySem.boot_len (pa_cons (pe_var (by rw [hX.hN]; exact h4) (hX.vis h5) n1 n2) pa_nil)) fun σ H Q q => ?_
      obtain ⟨S, env, r, env', rep, e1, q⟩ := q
      simp only [ev] at e1
      split at e1
      · rename_i ns hr
        cases e1
        obtain ⟨v, k1, a, rfl, k2⟩ := rep.get i _ hr
        refine ⟨.ref a, slotV_get k1, a, ns.map V.int, rfl, .inl ?_, ?_⟩
        · exact (sqZ_mono (fun b o z _ => rep.same b o z) k2).sq
        · rw [List.length_map]
          exact q _ S H (psv_dat rep (.int _))
      · cases e1
    · cases h
  refine ⟨ee, fun hX h => ?_⟩
  rename_i sc scT k X e
  have h2 := h
  simp only [okE] at h2
  split at h2
  · exact tru_tT (ee hX h) fun _ => rfl
  · cases h2
theorem snd_sidx (i : Nat) {b : ME} (hb : SndE Γ T N b) : SndE Γ T N (.sidx i b) := by
  have ee : ∀ {sc scT k X e}, XOk Γ T N sc scT k X → okE T N (.sidx i b) sc e = true → PE X e (tE X.K Γ (.sidx i b)) := by
    intro sc scT k X e hX h
    simp only [okE] at h
    split at h
    · rename_i x px y pos
      simp only [Bool.and_eq_true, decide_eq_true_eq] at h
      obtain ⟨⟨⟨⟨h1, h2⟩, h3⟩, h4⟩, h5⟩ := h
      obtain ⟨n1, n2, _⟩ := nmB_p h3
      refine PE.imp (pe_ix ix_list (pe_var (by rw [hX.hN]; exact h1) (hX.vis h2) n1 n2) (hb.e hX h5) (plainIx h4)) fun σ H Q q => ?_
      obtain ⟨S, env, r, env', rep, e1, q⟩ := q
      simp only [ev] at e1
      split at e1
      · rename_i ns hr
        obtain ⟨⟨rb, e2⟩, g1, e1⟩ := Option.bind_eq_some_iff.mp e1
        obtain ⟨dy, g2, e1⟩ := Option.bind_eq_some_iff.mp e1
        simp only at e1
        split at e1
        · rename_i kk
          obtain ⟨z, g3, e1⟩ := Option.map_eq_some_iff.mp e1
          cases e1
          obtain ⟨v, k1, a, rfl, k2⟩ := rep.get i _ hr
          refine ⟨.ref a, slotV_get k1, S, env, rb, _, rep, g1, fun vb S1 H1 p1 => ?_⟩
          have hk := (repC_of p1.rep p1.res g2).int
          subst hk
          refine ⟨a, ns.map V.int, kk, .int z, rfl, rfl, (sqZ_mono (fun b o q _ => (p1.step.st.trans p1.rep.same) b o q) k2).sq, ?_, q _ S1 H1 (psv_gr p1.toPst (Gr.refl p1.rep.same) (.int _) fun _ z => z.elim)⟩
          unfold atI at g3 ⊢
          rw [List.length_map]
          obtain ⟨j, g4, g5⟩ := Option.bind_eq_some_iff.mp g3
          rw [g4, Option.bind_some, List.getElem?_map, g5]
          rfl
        · cases e1
      · cases e1
    · cases h
  refine ⟨ee, fun hX h => ?_⟩
  rename_i sc scT k X e
  have h2 := h
  simp only [okE] at h2
  split at h2
  · exact tru_tT (ee hX h) fun _ => rfl
  · cases h2
theorem snd_bad : SndE Γ T N .bad := by
  refine ⟨fun hX h => ⟨fun pins s σ H Q I q => ?_⟩, fun hX h => ⟨fun pins s σ H Q I q => ?_⟩⟩
  · obtain ⟨S, env, r, env', rep, e1, q⟩ := q
    cases e1
  · obtain ⟨S, env, r, env', rep, e1, q⟩ := q
    cases e1
theorem snd_fz {a : ME} (ha : SndE Γ T N a) : SndE Γ T N (.fz a) := by
  have ee : ∀ {sc scT k X e}, XOk Γ T N sc scT k X → okE T N (.fz a) sc e = true → PE X e (tE X.K Γ (.fz a)) := by
    intro sc scT k X e hX h
    simp only [okE, Bool.and_eq_true] at h
    refine PE.imp (ha.e hX h.2) fun σ H Q q => ?_
    obtain ⟨S, env, r, env', rep, e1, q⟩ := q
    simp only [ev] at e1
    obtain ⟨⟨ra, e2⟩, g1, e1⟩ := Option.bind_eq_some_iff.mp e1
    obtain ⟨⟨x, e3⟩, g2, e1⟩ := Option.map_eq_some_iff.mp e1
    cases e1
    refine ⟨S, env, ra, e2, rep, g1, fun v S1 H1 p1 => ?_⟩
    obtain ⟨S2, p2, r2, _⟩ := fz_ok p1 g2
    exact q v S2 H1 ⟨p2, ⟨r2, fun _ z => z.elim⟩, fun w e b z => by cases e; exact z.elim⟩
  refine ⟨ee, fun {sc scT k X e} hX h => tru_tT (ee hX h) fun w => ?_⟩
  simp only [okE, Bool.and_eq_true] at h
  have h1 := h.1
  cases e <;> first | rfl | (simp [fzE] at h1)
theorem dps_dropLast {S : Hp} : ∀ {vs : List V} {xs : List D}, Rps K S vs xs → Rps K S vs.dropLast xs.dropLast := fun {vs xs} h => by
  rw [List.dropLast_eq_take, List.dropLast_eq_take, dps_len h]
  exact dps_take _ h
theorem snd_pop (i : Nat) : SndE Γ T N (.pop i) := by
  have ee : ∀ {sc scT k X e}, XOk Γ T N sc scT k X → okE T N (.pop i) sc e = true → PE X e (tE X.K Γ (.pop i)) := by
    intro sc scT k X e hX h
    simp only [okE] at h
    split at h
    · rename_i x px b hP
      obtain ⟨m, apos, cpos, rfl, rfl⟩ := popP_p hP
      simp only [Bool.and_eq_true, decide_eq_true_eq] at h
      obtain ⟨⟨⟨h1, h2⟩, h3⟩, hm, h4⟩ := h
      subst hm
      obtain ⟨n1, n2, _⟩ := nmB_p h3
      refine PE.imp (pe_bm0 PySem.F.plainAttrs_list PySem.F.slot_list_pop PySem.F.type_list_pop mt_pop (pe_var (by rw [hX.hN]; exact h1) (hX.vis h2) n1 n2) (by rfl) h4) fun σ H Q q => ?_
      obtain ⟨S, env, r, env', rep, e1, q⟩ := q
      simp only [ev] at e1
      split at e1
      · rename_i xs hr
        obtain ⟨d, g1, e1⟩ := Option.map_eq_some_iff.mp e1
        cases e1
        obtain ⟨v, k1, a, vs, rfl, m2, m3, m4⟩ := rep.get i _ hr
        obtain ⟨y, g2, g3⟩ := dps_at m4 g1
        refine ⟨.ref a, slotV_get k1, .inl ⟨rfl, vs, SqL.of m3⟩, a, vs, y, rfl, rfl, m3, by rw [dps_len m4]; exact g2, ?_⟩
        have pm := rep.mut (o := .lst vs.dropLast) (w := .own xs.dropLast) hr k1 (fun b => ⟨fun z => (V.ref.inj z).symm, fun z => by rw [z]; rfl⟩) ⟨a, _, rfl, m2, upd_same, dps_dropLast m4⟩ fun b z => (V.ref.inj z).symm
        exact q _ _ _ ⟨pm, ⟨g3, fun _ z => z.elim⟩, fun w e b z => by cases e; exact z.elim⟩
      · cases e1
    · cases h
  refine ⟨ee, fun hX h => ?_⟩
  rename_i sc scT k X e
  have h2 := h
  simp only [okE] at h2
  split at h2
  · rename_i x px b hP
    obtain ⟨m, apos, cpos, rfl, rfl⟩ := popP_p hP
    exact tru_tT (ee hX h) fun _ => rfl
  · cases h2
end
end Ev

namespace Ev
open PySem L2
section
variable {Γ : Ctx} {T : Tab} {N : List Str} {sc scT : Scope} {k : Nat} {X : Cx} {K : PySem.W.Frag}
abbrev Prd (K : PySem.W.Frag) (S : Hp) : List (Key × V) → List (Key × D) → Prop := Paired (fun (p : Key × V) (q : Key × D) => p.1 = q.1 ∧ Rp K S p.2 q.2)
theorem key_rep {S H : Hp} {v : V} {x : D} {key : Key} (h : RepC K S H v x) (e : keyD x = some key) : v = kV key := by
  cases x with
  | int i => cases e; exact h.int
  | str z => cases e; exact h.str
  | _ => cases e
theorem prd_val {S : Hp} {key : Key} : ∀ {ws : List (Key × V)} {kvs : List (Key × D)}, Prd K S ws kvs → (match valT kvs key with
    | some y => ∃ v, valV ws key = some v ∧ Rp K S v y
    | none => valV ws key = none)
  | _, _, .nil => rfl
  | _, _, .cons (a := p) (b := q) h t => by
    have ih := prd_val (key := key) t
    by_cases e : q.1 = key
    · have e1 : ∀ r, valT (q :: r) key = some q.2 := fun r => by unfold valT; rw [List.find?_cons_of_pos (by simpa using e)]; rfl
      rw [e1]
      exact ⟨p.2, valV_pos (h.1.trans e), h.2⟩
    · have e1 : ∀ r, valT (q :: r) key = valT r key := fun r => by unfold valT; rw [List.find?_cons_of_neg (by simpa using e)]
      rw [e1, valV_neg (fun z => e (h.1.symm.trans z))]
      exact ih
theorem prd_some {S : Hp} {key : Key} {ws : List (Key × V)} {kvs : List (Key × D)} {y : D} (h : Prd K S ws kvs) (e : valT kvs key = some y) : ∃ v, valV ws key = some v ∧ Rp K S v y := by
  have := prd_val (key := key) h
  rw [e] at this
  exact this
theorem prd_is {S : Hp} {key : Key} {ws : List (Key × V)} {kvs : List (Key × D)} (h : Prd K S ws kvs) : (valV ws key).isSome = (valT kvs key).isSome := by
  have := prd_val (key := key) h
  cases e : valT kvs key with
  | none => rw [e] at this; rw [show valV ws key = none from this]; rfl
  | some y => rw [e] at this; obtain ⟨v, e1, _⟩ := this; rw [e1]; rfl
theorem prd_mono {S S' : Hp} (s : Same S S') {ws : List (Key × V)} {kvs : List (Key × D)} (h : Prd K S ws kvs) : Prd K S' ws kvs := Paired.mapP h fun p q z => ⟨z.1, dpMono s z.2⟩
theorem prd_len {S : Hp} {ws : List (Key × V)} {kvs : List (Key × D)} (h : Prd K S ws kvs) : ws.length = kvs.length := Paired.length h
theorem prd_any {S : Hp} {key : Key} : ∀ {ws : List (Key × V)} {kvs : List (Key × D)}, Prd K S ws kvs → (ws.any fun kv => decide (kv.1 = key)) = (kvs.any fun kv => decide (kv.1 = key))
  | _, _, .nil => rfl
  | _, _, .cons (a := p) (b := q) h t => by rw [List.any_cons, List.any_cons, prd_any t, h.1]
theorem prd_map {S : Hp} {key : Key} {v : V} {x : D} (r : Rp K S v x) : ∀ {ws : List (Key × V)} {kvs : List (Key × D)}, Prd K S ws kvs → Prd K S (ws.map fun kv => if kv.1 = key then (kv.1, v) else kv) (kvs.map fun kv => if kv.1 = key then (kv.1, x) else kv)
  | _, _, .nil => .nil
  | _, _, .cons (a := p) (b := q) h t => by
    rw [List.map_cons, List.map_cons]
    refine .cons ?_ (prd_map r t)
    rw [h.1]
    by_cases e : q.1 = key
    · rw [if_pos e, if_pos e]; exact ⟨rfl, r⟩
    · rw [if_neg e, if_neg e]; exact h
theorem prd_app {S : Hp} : ∀ {ws us : List (Key × V)} {kvs ys : List (Key × D)}, Prd K S ws kvs → Prd K S us ys → Prd K S (ws ++ us) (kvs ++ ys)
  | _, _, _, _, .nil, h => h
  | _, _, _, _, .cons h t, g => .cons h (prd_app t g)
theorem prd_put {S : Hp} {key : Key} {v : V} {x : D} {ws : List (Key × V)} {kvs : List (Key × D)} (h : Prd K S ws kvs) (r : Rp K S v x) : Prd K S (putK ws key v) (putT kvs key x) := by
  unfold putK putT
  rw [prd_any h]
  by_cases e : (kvs.any fun kv => decide (kv.1 = key)) = true
  · rw [if_pos e, if_pos e]; exact prd_map r h
  · rw [if_neg e, if_neg e]; exact prd_app h (.cons ⟨rfl, r⟩ .nil)
theorem prd_merge {S : Hp} : ∀ {us : List (Key × V)} {ys : List (Key × D)} {ws : List (Key × V)} {kvs : List (Key × D)}, Prd K S us ys → Prd K S ws kvs → Prd K S (mergeK ws us) (mergeT kvs ys)
  | _, _, _, _, .nil, h => h
  | _, _, ws, kvs, .cons (a := p) (b := q) g t, h => by
    show Prd K S (mergeK (putK ws p.1 p.2) _) (mergeT (putT kvs q.1 q.2) _)
    rw [g.1]
    exact prd_merge t (prd_put h g.2)
theorem RB.dk {S H : Hp} {Q : VK} {ws : List (Key × V)} {kvs : List (Key × D)} {p : Addr} (q : RB K S H (.dk kvs) Q) (h : Same S H) (r : Prd K S ws kvs) (hp : H p = none) : Q (.ref p) (upd H p (.dK ws)) := by
  refine q _ _ _ (Gr.newH h hp) ⟨p, ws, rfl, h.free hp, upd_same, r⟩ fun b z => ?_
  cases z
  exact hp
theorem snd_dnew : SndE Γ T N .dnew := by
  have ee : ∀ {sc scT k X e}, XOk Γ T N sc scT k X → okE T N .dnew sc e = true → PE X e (tE X.K Γ .dnew) := by
    intro sc scT k X e hX h
    simp only [okE] at h
    split at h
    · refine PE.imp pe_dnewK fun σ H Q q => ?_
      obtain ⟨S, env, r, env', rep, e1, q⟩ := q
      cases e1
      intro p hp
      refine RB.dk (S := S) (kvs := []) (fun v S' H' g rv n => q v S' H' (psv_gr (Pst.refl rep) g rv n)) rep.same .nil hp
    · cases h
  refine ⟨ee, fun hX h => ?_⟩
  rename_i sc scT k X e
  have h2 := h
  simp only [okE] at h2
  split at h2
  · exact tru_tT (ee hX h) fun _ => rfl
  · cases h2
theorem snd_dnew1 {ke ve : ME} (hk : SndE Γ T N ke) (hv : SndE Γ T N ve) : SndE Γ T N (.dnew1 ke ve) := by
  have ee : ∀ {sc scT k X e}, XOk Γ T N sc scT k X → okE T N (.dnew1 ke ve) sc e = true → PE X e (tE X.K Γ (.dnew1 ke ve)) := by
    intro sc scT k X e hX h
    simp only [okE] at h
    split at h
    · rename_i x y pos
      simp only [Bool.and_eq_true] at h
      refine PE.imp (pe_disp (pps_cons (hk.e hX h.1) (hv.e hX h.2) pps_nil) (by rfl) (by rfl) (fun z => by cases z) (by show 1 ≤ 15; decide)) fun σ H Q q => ?_
      obtain ⟨S, env, r, env', rep, e1, q⟩ := q
      simp only [ev] at e1
      obtain ⟨⟨rk, e2⟩, g1, e1⟩ := Option.bind_eq_some_iff.mp e1
      obtain ⟨dx, g2, e1⟩ := Option.bind_eq_some_iff.mp e1
      obtain ⟨key, g3, e1⟩ := Option.bind_eq_some_iff.mp e1
      obtain ⟨⟨rv, e3⟩, g4, e1⟩ := Option.bind_eq_some_iff.mp e1
      obtain ⟨⟨dy, e4⟩, g5, e1⟩ := Option.map_eq_some_iff.mp e1
      cases e1
      intro p hp
      have g0 := Gr.newH (S := S) (o := .dK []) rep.same hp
      obtain ⟨rep0, k0⟩ := rep.grow g0.st g0.same g0.hh g0.nw
      refine ⟨S, env, rk, e2, rep0, g1, fun v S1 H1 p1 => ⟨S1, e2, rv, e3, p1.rep, g4, fun u S2 H2 p2 => ?_⟩⟩
      have hkv := key_rep (repC_of p1.rep p1.res g2) g3
      subst hkv
      obtain ⟨S3, p3, r3, _⟩ := fz_ok p2 g5
      have nr : ∀ b, Roots (upd H p (.dK [])) σ env b → b ≠ p := fun b hb e => by
        obtain ⟨_, o, eo⟩ := Roots.free rep ((k0 b).mp hb)
        rw [e, hp] at eo; cases eo
      have hfull := p1.toPst.trans p3
      have hp2 : H2 p = some (.dK []) := hfull.step.kp p _ upd_same fun hb => nr p hb rfl
      refine ⟨hp2, [(key, u)], rfl, by show 1 ≤ 15; decide, ?_⟩
      -- the state behind: p holds the pair, and is new against H
      have hSp : S3 p = none := by
        cases q0 : S3 p with
        | none => rfl
        | some o =>
          rcases hfull.step.nw p (by rw [q0]; simp) with z | z | z
          · exact absurd (rep.same.free hp) z
          · rw [upd_same] at z; cases z
          · exact absurd rfl (nr p z)
      have hup : ∀ b o, b ≠ p → H2 b = some o → upd H2 p (.dK (mergeK [] [(key, u)])) b = some o := fun b o n e => by rw [upd_ne n]; exact e
      have same3 : Same S3 (upd H2 p (.dK (mergeK [] [(key, u)]))) := fun b o e => hup b o (fun z => by rw [z, hSp] at e; cases e) (p3.rep.same b o e)
      have rootsNe : ∀ b, Roots H2 σ e4 b → b ≠ p := fun b hb e => by
        rcases hfull.sub b hb with z | z
        · exact nr b z e
        · rw [e, upd_same] at z; cases z
      have one : ∀ i w v, rd e4 i = some w → slotV σ i = some v → RepV X.K S3 (upd H2 p (.dK (mergeK [] [(key, u)]))) v w ∧ ∀ b, Root (upd H2 p (.dK (mergeK [] [(key, u)]))) v w b ↔ Root H2 v w b := fun i w v h1 h2 => by
        obtain ⟨v', k1, k2⟩ := p3.rep.get i w h1
        rw [h2] at k1; cases k1
        have hk : ∀ c, Root H2 v w c → S3 c = none ∧ ∀ o, H2 c = some o → upd H2 p (.dK (mergeK [] [(key, u)])) c = some o := fun c hc => ⟨(root_free k2 hc).1, fun o e => hup c o (rootsNe c ⟨i, w, v, h1, h2, hc⟩) e⟩
        exact ⟨repV_step k2 (Same.refl _) hk, fun b => root_iff k2 fun c hc => (hk c hc).2⟩
      have repF : RepEnv X.K S3 (upd H2 p (.dK (mergeK [] [(key, u)]))) σ e4 := by
        refine ⟨same3, p3.rep.len, fun i w h1 => ?_, fun i j w w' v v' b n h1 h2 h3 h4 h5 h6 => ?_⟩
        · obtain ⟨v, k1, _⟩ := p3.rep.get i w h1
          exact ⟨v, k1, (one i w v h1 k1).1⟩
        · exact p3.rep.dis i j w w' v v' b n h1 h2 h3 h4 (((one i w v h1 h2).2 b).mp h5) (((one j w' v' h3 h4).2 b).mp h6)
      have rootsF : ∀ b, Roots (upd H2 p (.dK (mergeK [] [(key, u)]))) σ e4 b → Roots H2 σ e4 b := fun b ⟨i, w, v, h1, h2, h3⟩ => ⟨i, w, v, h1, h2, ((one i w v h1 h2).2 b).mp h3⟩
      have pF : Pst X.K S H σ env S3 (upd H2 p (.dK (mergeK [] [(key, u)]))) e4 := by
        refine ⟨⟨hfull.step.st, same3, fun b o e hb => ?_, fun b hb => ?_, fun b hb => ?_⟩, repF, fun b hb => ?_, hfull.slots⟩
        · have bp : b ≠ p := fun z => by rw [z, hp] at e; cases e
          exact hup b o bp (hfull.step.kp b o (by rw [upd_ne bp]; exact e) fun z => hb ((k0 b).mp z))
        · rcases hfull.step.nw b hb with z | z | z
          · exact .inl z
          · refine .inr (.inl ?_)
            by_cases bp : b = p
            · rw [bp]; exact hp
            · rw [upd_ne bp] at z; exact z
          · exact .inr (.inr ((k0 b).mp z))
        · by_cases bp : b = p
          · rw [bp, upd_same]; simp
          · have := hfull.step.dm b (by rw [upd_ne bp]; exact hb)
            rw [upd_ne bp]; exact this
        · have hb := rootsF b hb
          rcases hfull.sub b hb with z | z
          · exact .inl ((k0 b).mp z)
          · refine .inr ?_
            rw [upd_ne (rootsNe b hb)] at z
            exact z
      refine q _ S3 _ ⟨pF, ⟨⟨p, _, rfl, hSp, upd_same, ?_⟩, fun b hb hr => ?_⟩, fun w e b hb => ?_⟩
      · exact .cons ⟨rfl, r3⟩ .nil
      · cases hb
        exact rootsNe p (rootsF p hr) rfl
      · cases e
        cases hb
        exact hp
    · cases h
  refine ⟨ee, fun hX h => ?_⟩
  rename_i sc scT k X e
  have h2 := h
  simp only [okE] at h2
  split at h2
  · exact tru_tT (ee hX h) fun _ => rfl
  · cases h2
theorem snd_dget (i : Nat) {b : ME} (hb : SndE Γ T N b) : SndE Γ T N (.dget i b) := by
  have ee : ∀ {sc scT k X e}, XOk Γ T N sc scT k X → okE T N (.dget i b) sc e = true → PE X e (tE X.K Γ (.dget i b)) := by
    intro sc scT k X e hX h
    simp only [okE] at h
    split at h
    · rename_i x px y pos
      simp only [Bool.and_eq_true, decide_eq_true_eq] at h
      obtain ⟨⟨⟨⟨h1, h2⟩, h3⟩, h4⟩, h5⟩ := h
      obtain ⟨n1, n2, _⟩ := nmB_p h3
      refine PE.imp (pe_dget (by have := hX.hu; omega) (pe_var (by rw [hX.hN]; exact h1) (hX.vis h2) n1 n2) (hb.e hX h5) (plainIx h4)) fun σ H Q q => ?_
      obtain ⟨S, env, r, env', rep, e1, q⟩ := q
      simp only [ev] at e1
      obtain ⟨w0, g0, e1⟩ := Option.bind_eq_some_iff.mp e1
      obtain ⟨⟨rk, e2⟩, g1, e1⟩ := Option.bind_eq_some_iff.mp e1
      obtain ⟨dx, g2, e1⟩ := Option.bind_eq_some_iff.mp e1
      obtain ⟨key, g3, e1⟩ := Option.bind_eq_some_iff.mp e1
      simp only at e1
      split at e1
      · rename_i kvs hr
        obtain ⟨dy, g4, e1⟩ := Option.map_eq_some_iff.mp e1
        cases e1
        obtain ⟨v, k1, _⟩ := rep.get i _ g0
        refine ⟨v, slotV_get k1, S, env, rk, _, rep, g1, fun vk S1 H1 p1 => ?_⟩
        have hkv := key_rep (repC_of p1.rep p1.res g2) g3
        subst hkv
        obtain ⟨v', k2, a, ws, rfl, m2, m3, m4⟩ := p1.rep.get i _ hr
        rw [k1] at k2; cases k2
        obtain ⟨u, q1, q2⟩ := prd_some m4 g4
        refine ⟨a, u, rfl, by rw [← q1]; exact DGet.k m3, q u S1 H1 ⟨p1.toPst, ⟨q2, fun _ z => z.elim⟩, fun w e b z => by cases e; exact z.elim⟩⟩
      · cases e1
    · cases h
  refine ⟨ee, fun hX h => ?_⟩
  rename_i sc scT k X e
  have h2 := h
  simp only [okE] at h2
  split at h2
  · exact tru_tT (ee hX h) fun _ => rfl
  · cases h2
theorem snd_din (i : Nat) {b : ME} (hb : SndE Γ T N b) : SndE Γ T N (.din i b) := by
  have ee : ∀ {sc scT k X e}, XOk Γ T N sc scT k X → okE T N (.din i b) sc e = true → PE X e (tE X.K Γ (.din i b)) ∧ PT X e (tT X.K Γ (.din i b)) := by
    intro sc scT k X e hX h
    simp only [okE] at h
    split at h
    · rename_i y o x px pos
      simp only [Bool.and_eq_true, decide_eq_true_eq] at h
      obtain ⟨⟨⟨⟨h0, h1⟩, h2⟩, h3⟩, h5⟩ := h
      subst h0
      obtain ⟨n1, n2, _⟩ := nmB_p h3
      have hc := pc_din (X := X) (by have := hX.hu; omega) (hb.e hX h5) (pe_var (pos := px) (by rw [hX.hN]; exact h1) (hX.vis h2) n1 n2)
      have rd : ∀ {σ : St} {H : Hp} {Q : VK}, tE X.K Γ (.din i b) σ H Q → tDIn (tE X.K Γ b) (tVar i) σ H Q := by
        intro σ H Q q
        obtain ⟨S, env, r, env', rep, e1, q⟩ := q
        simp only [ev] at e1
        obtain ⟨⟨rk, e2⟩, g1, e1⟩ := Option.bind_eq_some_iff.mp e1
        obtain ⟨dx, g2, e1⟩ := Option.bind_eq_some_iff.mp e1
        obtain ⟨key, g3, e1⟩ := Option.bind_eq_some_iff.mp e1
        simp only at e1
        split at e1
        · rename_i kvs hr
          cases e1
          refine ⟨S, env, rk, _, rep, g1, fun vk S1 H1 p1 => ?_⟩
          have hkv := key_rep (repC_of p1.rep p1.res g2) g3
          subst hkv
          obtain ⟨v', k2, a, ws, rfl, m2, m3, m4⟩ := p1.rep.get i _ hr
          refine ⟨.ref a, slotV_get k2, a, _, rfl, DGet.k m3, ?_⟩
          rw [prd_is m4]
          exact q _ S1 H1 ⟨p1.toPst, ⟨.bl _, fun _ z => z.elim⟩, fun w e b z => by cases e; exact z.elim⟩
        · cases e1
      refine ⟨PE.imp (pe_cmp hc rfl) fun σ H Q q => rd q, PT.imp (pt_cmp hc rfl) fun σ H Q q => ?_⟩
      obtain ⟨S, env, c, env', rep, e1, q⟩ := q
      obtain ⟨⟨r, e2⟩, h1, h2⟩ := Option.bind_eq_some_iff.mp (show (ev Γ (.din i b) env).bind _ = some _ from e1)
      obtain ⟨c', h3, h4⟩ := Option.map_eq_some_iff.mp h2
      cases h4
      refine rd ⟨S, env, r, env', rep, h1, fun v S' H' p => ?_⟩
      have h1' := h1
      simp only [ev] at h1'
      obtain ⟨⟨rk, e3⟩, g1, h1'⟩ := Option.bind_eq_some_iff.mp h1'
      obtain ⟨dx, g2, h1'⟩ := Option.bind_eq_some_iff.mp h1'
      obtain ⟨key, g3, h1'⟩ := Option.bind_eq_some_iff.mp h1'
      simp only at h1'
      split at h1'
      · cases h1'
        cases h3
        have := (repC_of p.rep p.res (x := .bool _) rfl).bool
        subst this
        exact ⟨_, rfl, q S' H' p.toPst⟩
      · cases h1'
    · cases h
  exact ⟨fun hX h => (ee hX h).1, fun hX h => (ee hX h).2⟩
theorem snd_dnin (i : Nat) {b : ME} (hb : SndE Γ T N b) : SndE Γ T N (.dnin i b) := by
  have ee : ∀ {sc scT k X e}, XOk Γ T N sc scT k X → okE T N (.dnin i b) sc e = true → PE X e (tE X.K Γ (.dnin i b)) ∧ PT X e (tT X.K Γ (.dnin i b)) := by
    intro sc scT k X e hX h
    simp only [okE] at h
    split at h
    · rename_i y o x px pos
      simp only [Bool.and_eq_true, decide_eq_true_eq] at h
      obtain ⟨⟨⟨⟨h0, h1⟩, h2⟩, h3⟩, h5⟩ := h
      subst h0
      obtain ⟨n1, n2, _⟩ := nmB_p h3
      have hc := pc_dnotin (X := X) (by have := hX.hu; omega) (hb.e hX h5) (pe_var (pos := px) (by rw [hX.hN]; exact h1) (hX.vis h2) n1 n2)
      have rd : ∀ {σ : St} {H : Hp} {Q : VK}, tE X.K Γ (.dnin i b) σ H Q → tDNotIn (tE X.K Γ b) (tVar i) σ H Q := by
        intro σ H Q q
        obtain ⟨S, env, r, env', rep, e1, q⟩ := q
        simp only [ev] at e1
        obtain ⟨⟨rk, e2⟩, g1, e1⟩ := Option.bind_eq_some_iff.mp e1
        obtain ⟨dx, g2, e1⟩ := Option.bind_eq_some_iff.mp e1
        obtain ⟨key, g3, e1⟩ := Option.bind_eq_some_iff.mp e1
        simp only at e1
        split at e1
        · rename_i kvs hr
          cases e1
          refine ⟨S, env, rk, _, rep, g1, fun vk S1 H1 p1 => ?_⟩
          have hkv := key_rep (repC_of p1.rep p1.res g2) g3
          subst hkv
          obtain ⟨v', k2, a, ws, rfl, m2, m3, m4⟩ := p1.rep.get i _ hr
          refine ⟨.ref a, slotV_get k2, a, _, rfl, DGet.k m3, ?_⟩
          rw [prd_is m4]
          exact q _ S1 H1 ⟨p1.toPst, ⟨.bl _, fun _ z => z.elim⟩, fun w e b z => by cases e; exact z.elim⟩
        · cases e1
      refine ⟨PE.imp (pe_cmp hc rfl) fun σ H Q q => rd q, PT.imp (pt_cmp hc rfl) fun σ H Q q => ?_⟩
      obtain ⟨S, env, c, env', rep, e1, q⟩ := q
      obtain ⟨⟨r, e2⟩, h1, h2⟩ := Option.bind_eq_some_iff.mp (show (ev Γ (.dnin i b) env).bind _ = some _ from e1)
      obtain ⟨c', h3, h4⟩ := Option.map_eq_some_iff.mp h2
      cases h4
      refine rd ⟨S, env, r, env', rep, h1, fun v S' H' p => ?_⟩
      have h1' := h1
      simp only [ev] at h1'
      obtain ⟨⟨rk, e3⟩, g1, h1'⟩ := Option.bind_eq_some_iff.mp h1'
      obtain ⟨dx, g2, h1'⟩ := Option.bind_eq_some_iff.mp h1'
      obtain ⟨key, g3, h1'⟩ := Option.bind_eq_some_iff.mp h1'
      simp only at h1'
      split at h1'
      · cases h1'
        cases h3
        have := (repC_of p.rep p.res (x := .bool _) rfl).bool
        subst this
        exact ⟨_, rfl, q S' H' p.toPst⟩
      · cases h1'
    · cases h
  exact ⟨fun hX h => (ee hX h).1, fun hX h => (ee hX h).2⟩
theorem snd_dgetd (i : Nat) {b z : ME} (hb : SndE Γ T N b) (hz : SndE Γ T N z) : SndE Γ T N (.dgetd i b z) := by
  have ee : ∀ {sc scT k X e}, XOk Γ T N sc scT k X → okE T N (.dgetd i b z) sc e = true → PE X e (tE X.K Γ (.dgetd i b z)) := by
    intro sc scT k X e hX h
    simp only [okE] at h
    split at h
    · rename_i x px y w bb hP
      obtain ⟨m, apos, cpos, rfl, rfl⟩ := getP_p hP
      simp only [Bool.and_eq_true, decide_eq_true_eq] at h
      obtain ⟨⟨⟨⟨⟨⟨⟨h1, h2⟩, h3⟩, hm, h4⟩, h5⟩, h6⟩, h7⟩, h8⟩ := h
      subst hm
      obtain ⟨n1, n2, _⟩ := nmB_p h3
      have hs : starEach [y, w] X.env = [(false, eval y X.env), (false, eval w X.env)] := by rw [star_fine h5, star_fine h6]; rfl
      refine PE.imp (pe_dget2 (by have := hX.hu; omega) (pe_var (by rw [hX.hN]; exact h1) (hX.vis h2) n1 n2) (hb.e hX h7) (hz.e hX h8) ⟨by rfl, by rw [hs]; rfl, h4, by rw [hs]; rfl⟩) fun σ H Q q => ?_
      obtain ⟨S, env, r, env', rep, e1, q⟩ := q
      simp only [ev] at e1
      split at e1
      · rename_i kvs0 hr0
        obtain ⟨⟨rk, e2⟩, g1, e1⟩ := Option.bind_eq_some_iff.mp e1
        obtain ⟨dx, g2, e1⟩ := Option.bind_eq_some_iff.mp e1
        obtain ⟨key, g3, e1⟩ := Option.bind_eq_some_iff.mp e1
        obtain ⟨⟨rx, e3⟩, g4, e1⟩ := Option.bind_eq_some_iff.mp e1
        obtain ⟨⟨dz, e4⟩, g5, e1⟩ := Option.bind_eq_some_iff.mp e1
        simp only at e1
        split at e1
        · rename_i kvs hr
          cases e1
          obtain ⟨v, k1, a, ws0, rfl, m20, m30, m40⟩ := rep.get i _ hr0
          refine ⟨.ref a, slotV_get k1, a, rfl, .inl ⟨_, .inl m30⟩, S, env, rk, e2, rep, g1, fun vk S1 H1 p1 => ?_⟩
          have hkv := key_rep (repC_of p1.rep p1.res g2) g3
          subst hkv
          refine ⟨S1, e2, rx, e3, p1.rep, g4, fun vz S2 H2 p2 => ?_⟩
          obtain ⟨S3, p3, r3, _⟩ := fz_ok p2 g5
          obtain ⟨v', k2, a', ws, e5, m2, m3, m4⟩ := p3.rep.get i _ hr
          rw [k1] at k2; cases k2; cases e5
          refine ⟨_, DGet.k m3, ?_⟩
          have pp := p1.toPst.trans p3
          have := prd_val (key := key) m4
          cases e6 : valT kvs key with
          | none =>
            rw [e6] at this
            rw [this]
            refine q _ S3 H2 ⟨pp, ⟨?_, fun _ z => z.elim⟩, fun w e b z => by cases e; exact z.elim⟩
            rw [e6]; exact r3
          | some y0 =>
            rw [e6] at this
            obtain ⟨u, q1, q2⟩ := this
            rw [q1]
            refine q _ S3 H2 ⟨pp, ⟨?_, fun _ z => z.elim⟩, fun w e b z => by cases e; exact z.elim⟩
            rw [e6]; exact q2
        · cases e1
      · cases e1
    · cases h
  refine ⟨ee, fun hX h => ?_⟩
  rename_i sc scT k X e
  have h2 := h
  simp only [okE] at h2
  split at h2
  · rename_i x px y w bb hP
    obtain ⟨m, apos, cpos, rfl, rfl⟩ := getP_p hP
    exact tru_tT (ee hX h) fun _ => rfl
  · cases h2
theorem pairs_rep {S : Hp} : ∀ {vs : List V} {xs : List D} {kvs : List (Key × D)}, Rps K S vs xs → pairsD xs = some kvs → ∃ (ps : List Addr) (us : List (Key × V)), vs = ps.map V.ref ∧ Paired (fun p (kv : Key × V) => SqT K S p [kV kv.1, kv.2]) ps us ∧ Prd K S us kvs
  | _, _, _, .nil, e => by cases e; exact ⟨[], [], rfl, .nil, .nil⟩
  | _, _, _, .cons (v := v) (d := d) h t, e => by
    unfold pairsD at e
    split at e
    · rename_i heq; cases heq
    · rename_i kk vv r heq
      cases heq
      obtain ⟨key, e1, e⟩ := Option.bind_eq_some_iff.mp e
      obtain ⟨kvs', e2, e⟩ := Option.map_eq_some_iff.mp e
      cases e
      obtain ⟨ps, us, rfl, k2, k3⟩ := pairs_rep t e2
      cases h with
      | tup h1 h2 =>
        rename_i a xs
        cases h2 with
        | cons r1 h3 =>
          cases h3 with
          | cons r2 h4 =>
            cases h4
            have := key_rep (K := K) (S := S) (H := S) (.inl r1) e1
            subst this
            exact ⟨a :: ps, (key, _) :: us, rfl, .cons h1 k2, .cons ⟨rfl, r2⟩ k3⟩
    · cases e
theorem snd_dof {a : ME} (ha : SndE Γ T N a) : SndE Γ T N (.dof a) := by
  have ee : ∀ {sc scT k X e}, XOk Γ T N sc scT k X → okE T N (.dof a) sc e = true → PE X e (tE X.K Γ (.dof a)) := by
    intro sc scT k X e hX h
    simp only [okE] at h
    split at h
    · rename_i x px y pos
      simp only [Bool.and_eq_true, decide_eq_true_eq] at h
      obtain ⟨⟨⟨⟨h1, h2⟩, h3⟩, h4⟩, h5⟩ := h
      subst h1
      refine PE.imp (pe_callTy (call_dictP hX.calm) (hX.glo h3) (hX.bl _ h2) (by decide +kernel) (pa_cons (ha.e hX h5) pa_nil (star_fine h4)) (by decide) (by decide) (star_fine h4) rfl) fun σ H Q q => ?_
      obtain ⟨S, env, r, env', rep, e1, q⟩ := q
      simp only [ev] at e1
      obtain ⟨⟨ra, e2⟩, g1, e1⟩ := Option.bind_eq_some_iff.mp e1
      obtain ⟨dx, g2, e1⟩ := Option.bind_eq_some_iff.mp e1
      simp only at e1
      split at e1
      · rename_i xs
        obtain ⟨kvs, g3, e1⟩ := Option.bind_eq_some_iff.mp e1
        obtain ⟨g4, e1⟩ := (Option.ite_none_right_eq_some ..).mp e1
        cases e1
        refine ⟨S, env, ra, _, rep, g1, fun v S1 H1 p1 => ?_⟩
        obtain ⟨l, vs, rfl, m1, m2⟩ := (repC_of p1.rep p1.res g2).list p1.rep.same
        obtain ⟨ps, us, rfl, k2, k3⟩ := pairs_rep m2 g3
        refine ⟨l, ps, us, rfl, SqL.of m1, Paired.mapP k2 fun p kv z => sameT p1.rep.same z, fun p hp => ?_⟩
        exact RB.dk (S := S1) (kvs := mergeT [] kvs) (fun v S' H' g rv n => q v S' H' (psv_gr p1.toPst g rv n)) p1.rep.same (prd_merge k3 .nil) hp
      · cases e1
    · cases h
  refine ⟨ee, fun hX h => ?_⟩
  rename_i sc scT k X e
  have h2 := h
  simp only [okE] at h2
  split at h2
  · exact tru_tT (ee hX h) fun _ => rfl
  · cases h2
end
end Ev

namespace Ev
open PySem L2
open PySem.Spec PyProof.Rows
/-! ### set(xs), xs a list of ints -/
section
variable {P : Program} {w : World} {A : Around} {Er : Value → Shared → Prop} {s : Shared}
/-- the empty set, as a set begins -/
abbrev set0 (w : World) : Obj := { cls := .type "set", dict := none, data := .set #[] 0 (.fresh 0 0 (!w.params.followText "set-order")) }
theorem set_of_list {l : Addr} {its : Array Value} (ns : List Int) {Q : Value → Shared → Prop} (hh : A.handled = none) (hl : s.heap.IsList l its) (rv : IntsAre its.toList ns) (few : ns.length + 1 < scanBound)
    (q : ∀ (h' : Heap) (tk c : Nat), SetR w h' s.heap.objs.size (fun j => decide (j ∈ ns)) c → c ≤ ns.length → (∀ b o, s.heap.get? b = some o → h'.get? b = some o) → Q (.ref s.heap.objs.size) { s with heap := h', toks := tk }) :
    wpAny (model P w) A (call (.type "set") [.ref l]) Q Er s := by
  have size : its.size = ns.length := (Array.length_toList (xs := its)).symm.trans (IntsAre.length rv)
  obtain ⟨kc, kt, mro⟩ := F.called_set.mro
  have made := F.called_set.made
  have sub := F.called_set.sub
  have k1 := F.called_set.notType
  have k2 := F.called_set.canCreate
  have k3 := F.typeCall_set_1 (.ref l)
  refine wpAny_call (codeAny_of_tree ?_)
  show wpAny _ _ (callAny (.type "set") _) _ _ _
  refine wpAny_pure (And.intro (Code.quiet_builtin _ (by decide +kernel)) (codeAny_builtin F.entry_type_call ?_))
  rw [Around.under_plain (weight_type_call_type "set" [.ref l] []) rfl]
  repeat (any_goals (first | assumption | wp_step))
  refine codeAny_mono (code_set_led1 (.ref l) (E := Er) (Q₁ := fun u s₁ => u = .ref s.heap.objs.size ∧ s₁ = { s with heap := s.heap.push (set0 w) }) ⟨rfl, rfl⟩) fun r s₁ hr => ?_
  match r, hr with
  | .error e, hr => exact hr
  | .ok .next, hr => exact hr.elim
  | .ok .brk, hr => exact hr.elim
  | .ok .cont, hr => exact hr.elim
  | .ok (.ret u), hr =>
    obtain ⟨rfl, rfl⟩ := hr
    have at0 : (s.heap.push (set0 w)).get? s.heap.objs.size = some (set0 w) := Heap.get?_push_size _ rfl
    have ty0 : Shared.TypeIs { s with heap := s.heap.push (set0 w) } (.ref s.heap.objs.size) "set" := ⟨_, at0, rfl⟩
    have k4 := F.called_set.init.lookup
    have k5 := F.called_set.init.bind (.ref s.heap.objs.size)
    repeat (any_goals (first | assumption | wp_step))
    refine codeAny_mono (codeAny_call_builtin (R := wants (fun r s₂ => r = .none ∧ ∃ h' tk c, s₂ = { s with heap := h', toks := tk } ∧ SetR w h' s.heap.objs.size (fun j => decide (j ∈ ns)) c ∧ c ≤ ns.length ∧ ∀ b o, s.heap.get? b = some o → h'.get? b = some o) Er) F.called_set.init.plain F.entry_set_init (check_set_init_1 ty0 ?_)) fun r₂ s₂ hr₂ => ?_
    · obtain ⟨⟨c0, d0, dt0, sl0⟩, at1, c1, n1, e1⟩ := hl
      simp only at c1 e1
      subst c1 e1
      have at2 : (s.heap.push (set0 w)).get? l = some { cls := .type "list", dict := d0, data := .seq its n1, slots := sl0 } := Heap.get?_push_of_some _ at1
      have lst2 : (s.heap.push (set0 w)).IsList l its := ⟨_, at2, rfl, n1, rfl⟩
      have k6 := F.sub_list_set
      have k7 := F.sub_list_frozenset
      have k8 : (Value.type "list" == Value.type "dict") = false := by decide
      unfold Builtin.«set.__init__» noKeywords Builtin.Frozenset.updateFrom
      generalize hIter : pyIter = iter
      wp_walk
      subst hIter
      refine wpAny_pyIter_list lst2 (wpAny_bind (wpAny_runValue ?_))
      have lt1 : l < s.heap.objs.size := Heap.lt_size at1
      have hh3 : A.in1.in1.in1.handled = none := by simp [hh]
      have ps : (s.heap.push (set0 w)).objs.size = s.heap.objs.size + 1 := Heap.size_push ..
      have ne1 : l ≠ (s.heap.push (set0 w)).objs.size := fun z => by
        rw [ps] at z
        exact Nat.lt_irrefl l (Nat.lt_of_lt_of_le lt1 (by rw [z]; exact Nat.le_succ _))
      have ne2 : s.heap.objs.size ∉ [(s.heap.push (set0 w)).objs.size, l] := by
        rw [ps]
        intro z
        simp only [List.mem_cons, List.not_mem_nil, or_false] at z
        rcases z with z | z
        · exact Nat.ne_of_lt (Nat.lt_succ_self _) z
        · exact Nat.ne_of_lt lt1 z.symm
      refine set_update_ints ((Walks.list hh3 _ l ne1 its).toS) s.heap.objs.size ne2 ns size few (fun i v hv => ?_) its.size 0 _ rfl (Nat.zero_le _) ⟨⟨_, Heap.get?_push_size _ rfl, rfl, rfl⟩, lst2.push _⟩ ⟨0, Nat.le_refl 0, setR_new_at (Heap.get?_push_of_some _ at0)⟩ fun s' c' mv hc' hS' => ?_
      · have hi : i < ns.length := by rw [← size]; exact (Array.getElem?_eq_some_iff.mp hv).1
        obtain ⟨t, e⟩ := IntsAre.int_at rv i v (by rw [Array.getElem?_toList]; exact hv)
        exact ⟨ns[i], t, List.getElem?_eq_getElem hi, by rw [e, List.getD_eq_getElem?_getD, List.getElem?_eq_getElem hi]; rfl⟩
      · obtain ⟨h', g2, d', tk', os'⟩ := s'
        obtain rfl : g2 = s.gens := mv.gens
        obtain rfl : d' = s.drawn := mv.drawn
        obtain rfl : os' = s.os := mv.os
        show wpAny _ _ _ _ _ _
        refine wpAny_pure ?_
        show wpAny _ _ (ret Value.none) _ _ _
        refine wpAny_pure ⟨rfl, h', tk', c', rfl, hS', by omega, fun b o e => ?_⟩
        have hb := Heap.lt_size e
        refine mv.heap b o (fun z => ?_) (Heap.get?_push_of_some _ (Heap.get?_push_of_some _ e))
        simp only [List.mem_cons, List.not_mem_nil, or_false] at z
        rw [ps] at z
        rcases z with z | z
        · exact Nat.ne_of_lt hb z
        · exact Nat.ne_of_lt (Nat.lt_succ_of_lt hb) z
    · match r₂, hr₂ with
      | .error e, hr₂ => exact hr₂
      | .ok .next, hr₂ => exact hr₂.elim
      | .ok .brk, hr₂ => exact hr₂.elim
      | .ok .cont, hr₂ => exact hr₂.elim
      | .ok (.ret r), hr₂ =>
        obtain ⟨rfl, h', tk, c', rfl, hS', hc', hk'⟩ := hr₂
        repeat (any_goals (first | assumption | wp_step))
        exact q _ _ _ hS' hc' hk'
end
/-! ### the plain side -/
theorem mem_insI {x y : Int} : ∀ {l : List Int}, y ∈ insI x l ↔ y = x ∨ y ∈ l
  | [] => by simp [insI]
  | z :: r => by
    unfold insI
    split
    · simp
    · split
      · rename_i h; subst h; simp
      · rw [List.mem_cons, mem_insI, List.mem_cons]
        constructor
        · rintro (h | h | h)
          · exact .inr (.inl h)
          · exact .inl h
          · exact .inr (.inr h)
        · rintro (h | h | h)
          · exact .inr (.inl h)
          · exact .inl h
          · exact .inr (.inr h)
theorem pw_insI {x : Int} : ∀ {l : List Int}, l.Pairwise (· < ·) → (insI x l).Pairwise (· < ·)
  | [], _ => by simp [insI]
  | z :: r, h => by
    obtain ⟨h1, h2⟩ := List.pairwise_cons.mp h
    unfold insI
    split
    · rename_i k
      refine List.pairwise_cons.mpr ⟨fun y hy => ?_, h⟩
      rcases List.mem_cons.mp hy with e | e
      · subst e; exact k
      · exact Int.lt_trans k (h1 y e)
    · split
      · exact h
      · refine List.pairwise_cons.mpr ⟨fun y hy => ?_, pw_insI h2⟩
        rcases mem_insI.mp hy with e | e
        · omega
        · exact h1 y e
theorem setI_pw : ∀ l : List Int, (setI l).Pairwise (· < ·)
  | [] => by simp [setI]
  | x :: r => pw_insI (setI_pw r)
theorem mem_setI {y : Int} : ∀ {l : List Int}, y ∈ setI l ↔ y ∈ l
  | [] => by simp [setI]
  | x :: r => by
    show y ∈ insI x (setI r) ↔ _
    rw [mem_insI, mem_setI, List.mem_cons]
theorem rise_unique : ∀ {l m : List Int}, l.Pairwise (· < ·) → m.Pairwise (· < ·) → (∀ k, k ∈ l ↔ k ∈ m) → l = m
  | [], [], _, _, _ => rfl
  | [], b :: m, _, _, h => absurd ((h b).mpr (by simp)) (by simp)
  | a :: l, [], _, _, h => absurd ((h a).mp (by simp)) (by simp)
  | a :: l, b :: m, h1, h2, h => by
    obtain ⟨p1, p2⟩ := List.pairwise_cons.mp h1
    obtain ⟨q1, q2⟩ := List.pairwise_cons.mp h2
    have e : a = b := by
      have x1 := (h a).mp (by simp)
      have x2 := (h b).mpr (by simp)
      rcases List.mem_cons.mp x1 with e | e
      · exact e
      · rcases List.mem_cons.mp x2 with e' | e'
        · exact e'.symm
        · have := p1 b e'
          have := q1 a e
          omega
    subst e
    rw [rise_unique p2 q2 fun k => ⟨fun hk => ?_, fun hk => ?_⟩]
    · have := p1 k hk
      rcases List.mem_cons.mp ((h k).mp (by simp [hk])) with e | e
      · omega
      · exact e
    · have := q1 k hk
      rcases List.mem_cons.mp ((h k).mpr (by simp [hk])) with e | e
      · omega
      · exact e
theorem setI_nodup (l : List Int) : (setI l).Nodup := (setI_pw l).imp fun h => by omega
theorem insI_le' (x : Int) : ∀ m : List Int, (insI x m).length ≤ m.length + 1
  | [] => by simp [insI]
  | y :: t => by
    have ih := insI_le' x t
    unfold insI
    split
    · simp
    · split
      · simp
      · simp only [List.length_cons]; omega
theorem setI_le' : ∀ l : List Int, (setI l).length ≤ l.length
  | [] => by simp [setI]
  | x :: r => by
    have ih := setI_le' r
    have := insI_le' x (setI r)
    show (insI x (setI r)).length ≤ _
    rw [List.length_cons]
    omega
theorem setI_len {l m : List Int} (nd : m.Nodup) (h : ∀ k, k ∈ m ↔ k ∈ l) : m.length = (setI l).length :=
  ((List.perm_ext_iff_of_nodup nd (setI_nodup l)).mpr fun k => (h k).trans mem_setI.symm).length_eq
section
variable {X : Cx}
def rSetI (K : PySem.W.Frag) (w : World) : List V → Hp → VK → Prop := fun vs H Q => ∃ (l : Addr) (ns : List Int), vs = [.ref l] ∧ SqL K H l (ns.map V.int) ∧ ns.length < 1000 ∧ ∀ (p : Addr) (c : Nat), H p = none → c = (setI ns).length → Q (.ref p) (upd H p (SetO w p (fun j => decide (j ∈ ns)) c))
theorem cr_setI (hc : X.calm = true) : CallR X (.type "set") (rSetI X.K X.w) := by
  intro pins s σ H vs us Q I r h
  obtain ⟨l, ns, rfl, hq, few, q⟩ := h
  obtain ⟨its, rv, pl, _⟩ := I.list hq
  rw [Vals.ref1 r]
  refine set_of_list ns (I.ok.hd hc) pl.isList (by simpa using rv.ints) (by unfold scanBound; omega) fun h' tk c hS hc' hk => ?_
  have hcn : c = (setI ns).length := by
    obtain ⟨o, es, ep, t, ho, hex, hd, _, nd, mem, _, hf, hn, _⟩ := hS
    refine Eq.trans ?_ (setI_len nd fun k => ((mem k).symm).trans (by rw [decide_eq_true_eq]))
    rw [List.length_map, Array.length_toList]
    exact hn.symm
  exact ⟨.ref s.heap.objs.size, _, I.laid (t' := tk) hk (Nat.le_refl _) (setO_new hS), rfl, q _ c (I.hok.fresh (Nat.le_refl _)) hcn⟩
/-- len of such a set -/
def rLenSetO (w : World) : List V → Hp → VK → Prop := fun vs H Q => ∃ (a : Addr) (S : Int → Bool) (n : Nat), vs = [.ref a] ∧ H a = some (SetO w a S n) ∧ n < 1000 ∧ ∀ ms : List Int, ms.Nodup → (∀ k : Int, k ∈ ms ↔ S k = true) → ms.length = n → Q (.int (n : Nat)) H
theorem cr_lenSetO : CallR X (.builtin "len") (rLenSetO X.w) := by
  intro pins s σ H vs us Q I r h
  obtain ⟨a, S, n, rfl, ha, few, q⟩ := h
  obtain ⟨o, es, ep, t, ho, hex, hd, _, nd, mem, _, hf, hn, _⟩ := setO_get I ha
  rw [Vals.ref1 r]
  refine call_len_set ho hex hd hf (by rw [hn]; omega) ⟨.int (n : Nat), H, I.tok _, ⟨_, by rw [hn]⟩, q _ nd (fun k => (mem k).symm) (by rw [List.length_map, Array.length_toList]; exact hn)⟩
end
section
variable {Γ : Ctx} {T : Tab} {N : List Str} {sc scT : Scope} {k : Nat} {X : Cx} {K : PySem.W.Frag}
theorem rps_ints {S : Hp} : ∀ ns : List Int, Rps K S (ns.map V.int) (ns.map PyData.int)
  | [] => .nil
  | n :: ns => .cons (.int n) (rps_ints ns)
theorem ints_of_list {S H : Hp} {v : V} {xs : List D} {ns : List Int} (hs : Same S H) (r : RepC K S H v (.list xs)) (e : intsOf xs = some ns) : ∃ a, v = .ref a ∧ SqL K H a (ns.map V.int) := by
  obtain ⟨a, vs, rfl, h1, h2⟩ := r.list hs
  exact ⟨a, rfl, by rw [← ints_rps h2 e]; exact SqL.of h1⟩
theorem psv_q {S0 H0 S H S' H' : Hp} {env0 env : Env} {σ : L2.St} (p : Pst K S0 H0 σ env0 S H env) {q : Addr} {vs : List V} {xs : List D} (g : Gr S H S' H') (hq : H q = none) (e1 : H' q = some (.lst vs)) (e0 : S' q = none) (r : Rps K S' vs xs) : Psv K S0 H0 σ env0 S' H' env (.ref q) (.v (.own xs)) :=
  psv_gr p g ⟨q, vs, rfl, e0, e1, r⟩ fun b z => by cases z; exact hq
/-- an extra object that nobody knows of is left behind -/
theorem Gr.ext {S H : Hp} {p q : Addr} {o u : HO} (h : Same S H) (hp : H p = none) (hq : upd H p o q = none) : Gr S H S (upd (upd H p o) q u) :=
  (Gr.newH h hp).trans (Gr.newH (h.trans (upd_same_of hp)) hq)
theorem rgV_rps {S : Hp} (i j : Int) : Rps K S (rgV i j) (rngOf i j) := by
  unfold rgV rngOf
  have : ∀ l : List Nat, Rps K S (l.map fun (k : Nat) => V.int (i + (k : Nat))) (l.map fun (k : Nat) => PyData.int (i + (k : Nat))) := fun l => by
    induction l with
    | nil => exact .nil
    | cons x r ih => exact .cons (.int _) ih
  exact this _
theorem rgOk_of {i j : Int} (h : rngOk i j = true) : RgOk i j := by
  have h := of_decide_eq_true h
  unfold RgOk
  omega
theorem snd_lrg1 {a : ME} (ha : SndE Γ T N a) : SndE Γ T N (.lrg1 a) := by
  have ee : ∀ {sc scT k X e}, XOk Γ T N sc scT k X → okE T N (.lrg1 a) sc e = true → PE X e (tE X.K Γ (.lrg1 a)) := by
    intro sc scT k X e hX h
    simp only [okE] at h
    split at h
    · rename_i x p y p2 z pos2 pos
      simp only [Bool.and_eq_true, decide_eq_true_eq] at h
      obtain ⟨⟨⟨⟨⟨⟨⟨h1, h2⟩, h3⟩, h4⟩, h5⟩, h6⟩, h7⟩, h8⟩ := h
      subst h1 h4
      refine PE.imp (pe_listRg hX.calm (hX.glo h3) (hX.bl _ h2) (prg_1 (hX.glo h6) (hX.bl _ h5) (ha.e hX h8) (star_fine h7)) rfl) fun σ H Q q => ?_
      obtain ⟨S, env, r, env', rep, e1, q⟩ := q
      simp only [ev] at e1
      obtain ⟨⟨ra, e2⟩, g1, e1⟩ := Option.bind_eq_some_iff.mp e1
      obtain ⟨dx, g2, e1⟩ := Option.bind_eq_some_iff.mp e1
      refine ⟨S, env, ra, e2, rep, g1, fun v S1 H1 p1 => ?_⟩
      have rc := repC_of p1.rep p1.res g2
      cases dx <;> simp only [reduceCtorEq, Option.ite_none_right_eq_some, Option.some.injEq, Prod.mk.injEq] at e1
      obtain ⟨e3, e4, e5⟩ := e1
      subst e4 e5
      exact ⟨_, rc.int, rgOk_of e3, fun u hu => q _ S1 _ (psv_q p1.toPst (Gr.newH p1.rep.same hu) hu upd_same (p1.rep.same.free hu) (rgV_rps _ _))⟩
    · cases h
  refine ⟨ee, fun hX h => ?_⟩
  rename_i sc scT k X e
  have h2 := h
  simp only [okE] at h2
  split at h2
  · exact tru_tT (ee hX h) fun _ => rfl
  · cases h2
theorem snd_lrg2 {a b : ME} (ha : SndE Γ T N a) (hb : SndE Γ T N b) : SndE Γ T N (.lrg2 a b) := by
  have ee : ∀ {sc scT k X e}, XOk Γ T N sc scT k X → okE T N (.lrg2 a b) sc e = true → PE X e (tE X.K Γ (.lrg2 a b)) := by
    intro sc scT k X e hX h
    simp only [okE] at h
    split at h
    · rename_i x p y p2 z u pos2 pos
      simp only [Bool.and_eq_true, decide_eq_true_eq] at h
      obtain ⟨⟨⟨⟨⟨⟨⟨⟨⟨h1, h2⟩, h3⟩, h4⟩, h5⟩, h6⟩, h7⟩, h7'⟩, h8⟩, h9⟩ := h
      subst h1 h4
      refine PE.imp (pe_listRg hX.calm (hX.glo h3) (hX.bl _ h2) (prg_2 (hX.glo h6) (hX.bl _ h5) (ha.e hX h8) (hb.e hX h9) (star_fine h7) (star_fine h7') (by rw [star_fine h7']; rfl)) rfl) fun σ H Q q => ?_
      obtain ⟨S, env, r, env', rep, e1, q⟩ := q
      simp only [ev] at e1
      obtain ⟨⟨ra, e2⟩, g1, e1⟩ := Option.bind_eq_some_iff.mp e1
      obtain ⟨⟨rb, e3⟩, g2, e1⟩ := Option.bind_eq_some_iff.mp e1
      obtain ⟨dx, g3, e1⟩ := Option.bind_eq_some_iff.mp e1
      obtain ⟨dy, g4, e1⟩ := Option.bind_eq_some_iff.mp e1
      refine ⟨S, env, ra, e2, rep, g1, fun v1 S1 H1 p1 => ⟨S1, e2, rb, _, p1.rep, g2, fun v2 S2 H2 p2 => ?_⟩⟩
      have r1 := p1.res.cur p2.toPst g3
      have r2 := repC_of p2.rep p2.res g4
      cases dx <;> cases dy <;> simp only [reduceCtorEq, Option.ite_none_right_eq_some, Option.some.injEq, Prod.mk.injEq] at e1
      obtain ⟨e4, e5, e6⟩ := e1
      subst e5 e6
      exact ⟨_, _, r1.int, r2.int, rgOk_of e4, fun u hu => q _ S2 _ (psv_q (p1.toPst.trans p2.toPst) (Gr.newH p2.rep.same hu) hu upd_same (p2.rep.same.free hu) (rgV_rps _ _))⟩
    · cases h
  refine ⟨ee, fun hX h => ?_⟩
  rename_i sc scT k X e
  have h2 := h
  simp only [okE] at h2
  split at h2
  · exact tru_tT (ee hX h) fun _ => rfl
  · cases h2
theorem pe_set1 {z : Expr} {t : TE} {p pos : Pos} (hX : XOk Γ T N sc scT k X) (hg : Gl X "set") (hm : X.mg "set" = none) (hz : fineE z = true) (h : PE X z t) : PE X (.Call (.Name "set" p) [z] [] pos) (tCB (rSetI X.K X.w) (tCons t tNil)) :=
  pe_callTy (cr_setI hX.calm) hg hm (by decide +kernel) (pa_cons h pa_nil (star_fine hz)) (by decide) (by decide) (star_fine hz) rfl
theorem snd_sset {a : ME} (ha : SndE Γ T N a) : SndE Γ T N (.sset a) := by
  have ee : ∀ {sc scT k X e}, XOk Γ T N sc scT k X → okE T N (.sset a) sc e = true → PE X e (tE X.K Γ (.sset a)) := by
    intro sc scT k X e hX h
    simp only [okE] at h
    split at h
    · rename_i x p y p2 z pos2 pos
      simp only [Bool.and_eq_true, decide_eq_true_eq] at h
      obtain ⟨⟨⟨⟨⟨⟨⟨h1, h2⟩, h3⟩, h4⟩, h5⟩, h6⟩, h7⟩, h8⟩ := h
      subst h1 h4
      refine PE.imp (pe_callB (cr_sortedSet hX.calm) (hX.glo h3) (hX.bl _ h2) (by decide +kernel) (pa_cons (pe_set1 hX (hX.glo h6) (hX.bl _ h5) h7 (ha.e hX h8)) pa_nil) (by decide) (by decide) rfl rfl) fun σ H Q q => ?_
      obtain ⟨S, env, r, env', rep, e1, q⟩ := q
      simp only [ev] at e1
      obtain ⟨⟨ra, e2⟩, g1, e1⟩ := Option.bind_eq_some_iff.mp e1
      obtain ⟨dx, g2, e1⟩ := Option.bind_eq_some_iff.mp e1
      obtain ⟨rr, g3, e1⟩ := Option.map_eq_some_iff.mp e1
      cases e1
      refine ⟨S, env, ra, e2, rep, g1, fun v S1 H1 p1 => ?_⟩
      have rc := repC_of p1.rep p1.res g2
      cases dx <;> simp only [ssetD, reduceCtorEq] at g3
      obtain ⟨ns, g4, g5⟩ := Option.bind_eq_some_iff.mp g3
      obtain ⟨few, g6⟩ := (Option.ite_none_right_eq_some ..).mp g5
      cases g6
      obtain ⟨l, rfl, hq⟩ := ints_of_list p1.rep.same rc g4
      refine ⟨l, ns, rfl, hq, few.1, fun u c hu hc => ⟨u, _, c, rfl, upd_same, by rw [hc]; exact few.2, fun ms p' h1 h2 h3 hp' => ?_⟩⟩
      have em : ms = setI ns := rise_unique h1 (setI_pw ns) fun k => (h2 k).trans (by rw [decide_eq_true_eq, mem_setI])
      subst em
      have hp : H1 p' = none := by
        by_cases z : p' = u
        · subst z; exact hu
        · rwa [upd_ne z] at hp'
      exact q _ S1 _ (psv_q p1.toPst (Gr.ext p1.rep.same hu hp') hp upd_same (p1.rep.same.free hp) (rps_ints _))
    · cases h
  refine ⟨ee, fun hX h => ?_⟩
  rename_i sc scT k X e
  have h2 := h
  simp only [okE] at h2
  split at h2
  · exact tru_tT (ee hX h) fun _ => rfl
  · cases h2
theorem snd_lset {a : ME} (ha : SndE Γ T N a) : SndE Γ T N (.lset a) := by
  have ee : ∀ {sc scT k X e}, XOk Γ T N sc scT k X → okE T N (.lset a) sc e = true → PE X e (tE X.K Γ (.lset a)) := by
    intro sc scT k X e hX h
    simp only [okE] at h
    split at h
    · rename_i x p y p2 z pos2 pos
      simp only [Bool.and_eq_true, decide_eq_true_eq] at h
      obtain ⟨⟨⟨⟨⟨⟨⟨h1, h2⟩, h3⟩, h4⟩, h5⟩, h6⟩, h7⟩, h8⟩ := h
      subst h1 h4
      refine PE.imp (pe_callB cr_lenSetO (hX.glo h3) (hX.bl _ h2) (by decide +kernel) (pa_cons (pe_set1 hX (hX.glo h6) (hX.bl _ h5) h7 (ha.e hX h8)) pa_nil) (by decide) (by decide) rfl rfl) fun σ H Q q => ?_
      obtain ⟨S, env, r, env', rep, e1, q⟩ := q
      simp only [ev] at e1
      obtain ⟨⟨ra, e2⟩, g1, e1⟩ := Option.bind_eq_some_iff.mp e1
      obtain ⟨dx, g2, e1⟩ := Option.bind_eq_some_iff.mp e1
      obtain ⟨rr, g3, e1⟩ := Option.map_eq_some_iff.mp e1
      cases e1
      refine ⟨S, env, ra, e2, rep, g1, fun v S1 H1 p1 => ?_⟩
      have rc := repC_of p1.rep p1.res g2
      cases dx <;> simp only [lsetD, reduceCtorEq] at g3
      obtain ⟨ns, g4, g5⟩ := Option.bind_eq_some_iff.mp g3
      obtain ⟨few, g6⟩ := (Option.ite_none_right_eq_some ..).mp g5
      cases g6
      obtain ⟨l, rfl, hq⟩ := ints_of_list p1.rep.same rc g4
      refine ⟨l, ns, rfl, hq, few, fun u c hu hc => ⟨u, _, c, rfl, upd_same, by rw [hc]; exact Nat.lt_of_le_of_lt (setI_le' ns) few, fun ms h1 h2 h3 => ?_⟩⟩
      have em : c = (setI ns).length := h3.symm.trans (setI_len h1 fun k => (h2 k).trans (by rw [decide_eq_true_eq]))
      subst em
      exact q _ S1 _ (psv_gr p1.toPst (Gr.newH p1.rep.same hu) (.int _) fun b z => z.elim)
    · cases h
  refine ⟨ee, fun hX h => ?_⟩
  rename_i sc scT k X e
  have h2 := h
  simp only [okE] at h2
  split at h2
  · exact tru_tT (ee hX h) fun _ => rfl
  · cases h2
theorem rps_rev {S : Hp} : ∀ {vs : List V} {xs : List D}, Rps K S vs xs → Rps K S vs.reverse xs.reverse
  | _, _, .nil => .nil
  | _, _, .cons h t => by
    rw [List.reverse_cons, List.reverse_cons]
    exact dps_app (rps_rev t) (.cons h .nil)
theorem snd_rev {a : ME} (ha : SndE Γ T N a) : SndE Γ T N (.rev a) := by
  have ee : ∀ {sc scT k X e}, XOk Γ T N sc scT k X → okE T N (.rev a) sc e = true → PE X e (tE X.K Γ (.rev a)) := by
    intro sc scT k X e hX h
    simp only [okE] at h
    split at h
    · rename_i z i _ _ _ _ _
      simp only [Bool.and_eq_true, decide_eq_true_eq] at h
      obtain ⟨h1, h8⟩ := h
      subst h1
      refine PE.imp (pe_revL (ha.e hX h8)) fun σ H Q q => ?_
      obtain ⟨S, env, r, env', rep, e1, q⟩ := q
      simp only [ev] at e1
      obtain ⟨⟨ra, e2⟩, g1, e1⟩ := Option.bind_eq_some_iff.mp e1
      obtain ⟨dx, g2, e1⟩ := Option.bind_eq_some_iff.mp e1
      obtain ⟨rr, g3, e1⟩ := Option.map_eq_some_iff.mp e1
      cases e1
      refine ⟨S, env, ra, e2, rep, g1, fun v S1 H1 p1 => ?_⟩
      have rc := repC_of p1.rep p1.res g2
      cases dx <;> simp only [revD, reduceCtorEq, Option.some.injEq] at g3
      subst g3
      obtain ⟨l, vs, rfl, k1, k2⟩ := rc.list p1.rep.same
      exact ⟨l, vs, rfl, SqL.of k1, fun u hu => q _ S1 _ (psv_q p1.toPst (Gr.newH p1.rep.same hu) hu upd_same (p1.rep.same.free hu) (rps_rev k2))⟩
    · cases h
  refine ⟨ee, fun hX h => ?_⟩
  rename_i sc scT k X e
  have h2 := h
  simp only [okE] at h2
  split at h2
  · exact tru_tT (ee hX h) fun _ => rfl
  · cases h2
end
end Ev

namespace Ev
open PySem L2
section
variable {Γ : Ctx} {T : Tab} {N : List Str} {sc scT : Scope} {k : Nat} {X : Cx} {K : PySem.W.Frag}
theorem snd_lc {elt : ME} {tg : Tg} {it : MI} {cond : ME} {own : List Nat} (h1 : SndE Γ T N elt) (h2 : SndI Γ T N it) (h3 : SndE Γ T N cond) : SndE Γ T N (.lc elt tg it cond own) := by
  have ee : ∀ {sc scT k X e}, XOk Γ T N sc scT k X → okE T N (.lc elt tg it cond own) sc e = true → PE X e (tE X.K Γ (.lc elt tg it cond own)) := by
    intro sc scT k X e hX h
    simp only [okE] at h
    split at h
    · rename_i y t i cs scope pos
      simp only [Bool.and_eq_true] at h
      obtain ⟨⟨⟨⟨⟨⟨b1, b2⟩, b3⟩, b4⟩, b5⟩, b6⟩, b7⟩ := h
      rw [List.all_eq_true] at b2
      have bok : BlkOk X.N X.env.scope scope (ownP N own) := by rw [hX.hN, hX.hsc]; exact blkOk_by b1
      refine PE.imp (pe_lc (own := ownP N own) (te := tE X.K Γ elt) (g := tGx X.K tg) (tt := tCd X.K Γ cond) hX.calm (by rw [hX.hN]; exact hX.nd) (h2.i hX b5) bok (fun s H C cl fp => pgx_ok (hX.blk s H C cl fp) tg t b3) (fun s H C cl fp => pts_ok h3 (hX.blk s H C cl fp) b7) (fun s H C cl fp => h1.e (hX.blk s H C cl fp) b6) (nofold b4)) fun σ H Q q => ?_
      rw [ownP_snd]
      exact lc_read (fun j hj => of_decide_eq_true (b2 j hj)) q
    · cases h
  refine ⟨ee, fun hX h => ?_⟩
  rename_i sc scT k X e
  have h2 := h
  simp only [okE] at h2
  split at h2
  · exact tru_tT (ee hX h) fun _ => rfl
  · cases h2
end
mutual
theorem sndE (Γ : Ctx) (T : Tab) (N : List Str) : ∀ m : ME, SndE Γ T N m
  | .var i => snd_var i
  | .con c => snd_con c
  | .glb j => snd_glb j
  | .bin op a b => snd_bin op (sndE Γ T N a) (sndE Γ T N b)
  | .neg a => snd_neg (sndE Γ T N a)
  | .cmp op a b => snd_cmp op (sndE Γ T N a) (sndE Γ T N b)
  | .chain op op' a b c => snd_chain op op' (sndE Γ T N a) (sndE Γ T N b) (sndE Γ T N c)
  | .andE a b => snd_and (sndE Γ T N a) (sndE Γ T N b)
  | .orE a b => snd_or (sndE Γ T N a) (sndE Γ T N b)
  | .notE a => snd_not (sndE Γ T N a)
  | .ite c a b => snd_ite (sndE Γ T N c) (sndE Γ T N a) (sndE Γ T N b)
  | .tup es => snd_tup (sndL Γ T N es)
  | .lst es => snd_lst (sndL Γ T N es)
  | .idx a b => snd_idx (sndE Γ T N a) (sndE Γ T N b)
  | .sli a lo hi => snd_sli (sndE Γ T N a) (sndE Γ T N lo) (sndE Γ T N hi)
  | .call f es => snd_call f (sndL Γ T N es)
  | .bi b es => snd_bi b (sndL Γ T N es)
  | .lc elt tg it cond own => snd_lc (sndE Γ T N elt) (sndI Γ T N it) (sndE Γ T N cond)
  | .lrg1 a => snd_lrg1 (sndE Γ T N a)
  | .lrg2 a b => snd_lrg2 (sndE Γ T N a) (sndE Γ T N b)
  | .sset a => snd_sset (sndE Γ T N a)
  | .lset a => snd_lset (sndE Γ T N a)
  | .rev a => snd_rev (sndE Γ T N a)
  | .mth m a es => snd_mth m (sndE Γ T N a) (sndL Γ T N es)
  | .mth0 m a => snd_mth0 m (sndE Γ T N a)
  | .gidx j a => snd_gidx j (sndE Γ T N a)
  | .slen i => snd_slen i
  | .sidx i a => snd_sidx i (sndE Γ T N a)
  | .bad => snd_bad
  | .pop i => snd_pop i
  | .dnew => snd_dnew
  | .dnew1 a b => snd_dnew1 (sndE Γ T N a) (sndE Γ T N b)
  | .dget i a => snd_dget i (sndE Γ T N a)
  | .din i a => snd_din i (sndE Γ T N a)
  | .dnin i a => snd_dnin i (sndE Γ T N a)
  | .dgetd i a b => snd_dgetd i (sndE Γ T N a) (sndE Γ T N b)
  | .dof a => snd_dof (sndE Γ T N a)
  | .fz a => snd_fz (sndE Γ T N a)
  | .lc2 elt tg it cond own tg1 it1 cond1 vs1 => snd_lc2 (sndE Γ T N elt) (sndI Γ T N it) (sndE Γ T N cond) (sndI Γ T N it1) (sndE Γ T N cond1)
theorem sndI (Γ : Ctx) (T : Tab) (N : List Str) : ∀ m : MI, SndI Γ T N m
  | .seq a => sndi_seq (sndE Γ T N a)
  | .rng es => sndi_rng (sndL Γ T N es)
  | .enum a => sndi_enum (sndE Γ T N a)
  | .zip a b => sndi_zip (sndE Γ T N a) (sndE Γ T N b)
theorem sndL (Γ : Ctx) (T : Tab) (N : List Str) : ∀ ms : List ME, SndL Γ T N ms
  | [] => sndl_nil
  | m :: ms => sndl_cons (sndE Γ T N m) (sndL Γ T N ms)
end
end Ev

namespace Ev
open PySem L2
section
variable {Γ : Ctx} {T : Tab} {N : List Str} {sc scT : Scope} {k : Nat} {X : Cx} {K : PySem.W.Frag} {S S' S1 S2 H H' H1 H2 : Hp} {σ σ' σ1 σ2 : St} {env env' env1 env2 : Env} {L : List Nat}
/-! ### statements: the state behind -/
structure Sst (K : PySem.W.Frag) (S H : Hp) (σ : St) (env : Env) (L : List Nat) (S' H' : Hp) (σ' : St) (env' : Env) : Prop where
  step : Step (Roots H σ env) S H S' H'
  rep : RepEnv K S' H' σ' env'
  sub : ∀ b, Roots H' σ' env' b → Roots H σ env b ∨ H b = none
  keep : ∀ j ∈ L, slotV σ' j = slotV σ j
  slots : env'.length = env.length
theorem none_back {R : Addr → Prop} {b : Addr} (st : Step R S H S' H') (h : H' b = none) : H b = none := by
  cases q : H b with
  | none => rfl
  | some o => exact absurd h (st.dm b (by rw [q]; simp))
theorem Sst.refl (e : RepEnv K S H σ env) : Sst K S H σ env L S H σ env := ⟨Step.refl e.same, e, fun _ h => .inl h, fun _ _ => rfl, rfl⟩
theorem Sst.trans (a : Sst K S H σ env L S1 H1 σ1 env1) (b : Sst K S1 H1 σ1 env1 L S2 H2 σ2 env2) : Sst K S H σ env L S2 H2 σ2 env2 :=
  ⟨a.step.trans b.step a.sub, b.rep, fun c h => (b.sub c h).elim (a.sub c) fun z => .inr (none_back a.step z), fun j h => (b.keep j h).trans (a.keep j h), b.slots.trans a.slots⟩
theorem Sst.of (p : Pst K S H σ env S' H' env') : Sst K S H σ env L S' H' σ env' := ⟨p.step, p.rep, fun c h => p.sub c h, fun _ _ => rfl, p.slots⟩
theorem Sst.tg {sl : List Nat} (t : TPost K S H L sl σ env σ' env') : Sst K S H σ env L S H σ' env' := ⟨Step.refl t.rep.same, t.rep, fun c h => .inl (t.sub c h), t.keep, t.slots⟩
theorem Sst.sub_L {L' : List Nat} (a : Sst K S H σ env L S' H' σ' env') (h : ∀ j ∈ L', j ∈ L) : Sst K S H σ env L' S' H' σ' env' := ⟨a.step, a.rep, a.sub, fun j hj => a.keep j (h j hj), a.slots⟩
/-- what follows a statement -/
def SPost (K : PySem.W.Frag) (S H : Hp) (σ : St) (env : Env) (L : List Nat) (D : Ends) : Res → Prop
  | .nx e => ∀ S' H' σ', Sst K S H σ env L S' H' σ' e → D.nx σ' H'
  | .bk e => ∀ S' H' σ', Sst K S H σ env L S' H' σ' e → D.bk σ' H'
  | .ct e => ∀ S' H' σ', Sst K S H σ env L S' H' σ' e → D.ct σ' H'
  | .rt r e => ∀ v S' H' σ', Sst K S H σ env L S' H' σ' e → RepR K S' H' σ' e v r → (∀ w, r = .v w → ∀ b, Root H' v w b → H b = none) → D.rt v H'
theorem SPost.after {D : Ends} {r : Res} (a : Sst K S H σ env L S1 H1 σ1 env1) (h : SPost K S H σ env L D r) : SPost K S1 H1 σ1 env1 L D r := by
  cases r with
  | nx e => exact fun S' H' σ' b => h S' H' σ' (a.trans b)
  | bk e => exact fun S' H' σ' b => h S' H' σ' (a.trans b)
  | ct e => exact fun S' H' σ' b => h S' H' σ' (a.trans b)
  | rt r e => exact fun v S' H' σ' b rr n => h v S' H' σ' (a.trans b) rr fun w e c hc => none_back a.step (n w e c hc)
def tS (K : PySem.W.Frag) (Γ : Ctx) (L : List Nat) (m : MS) : TS := fun D σ H => ∃ S env r, RepEnv K S H σ env ∧ evS Γ L m env = some r ∧ SPost K S H σ env L D r
def tSs (K : PySem.W.Frag) (Γ : Ctx) (L : List Nat) (m : List MS) : TS := fun D σ H => ∃ S env r, RepEnv K S H σ env ∧ evSs Γ L m env = some r ∧ SPost K S H σ env L D r

/-! ### a value stored -/
theorem set_ok {v : V} {w : Val} {i : Nat} {env0 : Env} {S0 H0 : Hp} {σ0 : St} (a : Sst K S0 H0 σ0 env0 L S H σ env) (r : RepV K S H v w) (n : ∀ b, Root H v w b → ¬ Roots H σ env b) (f : ∀ b, Root H v w b → H0 b = none) (e : setV L i w env = some env') :
    Sst K S0 H0 σ0 env0 L S H (σ.set i (some v)) env' := by
  unfold setV at e
  split at e
  · cases e
  · rename_i hc
    cases e
    rw [not_or] at hc
    obtain ⟨k1, k2⟩ := a.rep.put (Nat.lt_of_not_le hc.2) r n
    refine ⟨a.step, k1, fun b hb => (k2 b hb).elim (a.sub b) fun z => .inr (f b z), fun j hj => ?_, by simpa using a.slots⟩
    rw [slotV_set, if_neg fun z => hc.1 (by rw [z.1]; exact hj)]
    exact a.keep j hj
def gAsg (K : PySem.W.Frag) : Tg → TG
  | .nm i => fun v σ H Q => Q (σ.set i (some v)) H
  | .tup ts => fun v σ H Q => tGx K (.tup ts) v σ H Q
theorem asg_ok {tg : Tg} {v : V} {r : Rv} {S0 H0 : Hp} {env0 : Env} {Q : St → Hp → Prop} (p : Psv K S0 H0 σ env0 S H env v r) (e : asgn L tg r env = some env') (q : ∀ S' σ', Sst K S0 H0 σ env0 L S' H σ' env' → Q σ' H) :
    gAsg K tg v σ H Q := by
  cases tg with
  | nm i =>
    cases r with
    | v w => exact q _ _ (set_ok (Sst.of p.toPst) p.res.1 p.res.2 (p.new w rfl) e)
    | ali j =>
      obtain ⟨⟨x, e2⟩, g1, g2⟩ := Option.bind_eq_some_iff.mp (show ((fz env (.ali j)).bind fun (x, e) => setV L i (.d x) e) = some _ from e)
      obtain ⟨S2, p2, r2, _⟩ := fz_ok p g1
      exact q _ _ (set_ok (w := .d x) (Sst.of p2) r2 (fun _ z => z.elim) (fun _ z => z.elim) g2)
  | tup ts =>
    have e : ((fz env r).bind fun (x, e) => bindT L (.tup ts) x e) = some env' := by cases r <;> exact e
    obtain ⟨⟨x, e2⟩, g1, g2⟩ := Option.bind_eq_some_iff.mp e
    obtain ⟨S2, p2, r2, _⟩ := fz_ok p g1
    exact ⟨L, S2, e2, x, env', p2.rep, r2, g2, fun σ' tp => q S2 σ' ((Sst.of p2).trans (Sst.tg tp))⟩

/-! ### the text of statements -/
def isNameE : Expr → Bool
  | .Name .. => true
  | _ => false
theorem pg_asg (hX : XOk Γ T N sc scT k X) {tg : Tg} {t : Expr} (h : okT N scT tg t = true) : PG X t (gAsg X.K tg) := by
  cases tg with
  | nm i =>
    simp only [okT] at h
    split at h
    · rename_i x p
      simp only [Bool.and_eq_true, decide_eq_true_eq] at h
      obtain ⟨l1, l2⟩ := hX.loc x h.2
      exact pg_name (by rw [hX.hN]; exact hX.nd) (by rw [hX.hN]; exact h.1) l1 l2
    · cases h
  | tup ts => exact pgx_ok hX (.tup ts) t h
theorem okT_each (hX : XOk Γ T N sc scT k X) {tg : Tg} {t : Expr} (h : okT N scT tg t = true) (env : PySem.Env) : (assignEach [t] env).map (·.2) = [assign t env] := by
  cases tg with
  | nm i =>
    simp only [okT] at h
    split at h
    · rfl
    · cases h
  | tup ts =>
    simp only [okT] at h
    split at h
    · rfl
    · cases h
theorem okE_kind {m : ME} {e : Expr} (h : okE T N m sc e = true) : simpleE e = true ∨ (∃ elt tg it cond own, m = .lc elt tg it cond own) ∨ ∃ elt tg it cond own tg1 it1 cond1 vs1, m = .lc2 elt tg it cond own tg1 it1 cond1 vs1 := by
  cases m <;> (first | (right; left; exact ⟨_, _, _, _, _, rfl⟩) | (right; right; exact ⟨_, _, _, _, _, _, _, _, _, rfl⟩) | (left; simp only [okE] at h; exact h) | (left; simp only [okE, Bool.and_eq_true] at h; exact fzE_simple h.1) | (left; simp only [okE] at h; split at h <;> first | rfl | (rename_i hP; obtain ⟨_, _, rfl, _⟩ := mthP_p hP; rfl) | (rename_i hP; obtain ⟨_, _, rfl, _⟩ := mth0P_p hP; rfl) | (rename_i hP; obtain ⟨_, _, _, rfl, _⟩ := gidxP_p hP; rfl) | (rename_i hP; obtain ⟨_, _, _, rfl, _⟩ := popP_p hP; rfl) | (rename_i hP; obtain ⟨_, _, _, rfl, _⟩ := getP_p hP; rfl) | cases h))
/-- a plain assignment -/
theorem ps_asgE (hX : XOk Γ T N sc scT k X) {tg : Tg} {t e : Expr} {m : ME} {pos : Pos} (ht : okT N scT tg t = true) (hm : okE T N m sc e = true) (hnt : isTupE t = true → isTupE e = false) :
    PS X (.Assign [t] e pos) (tAsg (tE X.K Γ m) (gAsg X.K tg)) := by
  have hE := (sndE Γ T N m).e hX hm
  have hG := pg_asg hX ht
  have hw : swappedStores [t] e X.env = pure none := by
    cases tg with
    | nm i =>
      simp only [okT] at ht
      split at ht
      · rfl
      · cases ht
    | tup ts =>
      simp only [okT] at ht
      split at ht
      · have := hnt rfl
        cases e <;> first | rfl | (simp [isTupE] at this)
      · cases ht
  rcases okE_kind hm with hs | ⟨elt, tg', it, cond, own, rfl⟩ | ⟨elt, tg', it, cond, own, tg1, it1, cond1, vs1, rfl⟩
  · exact ps_asg hE hG (noswap hs) hw (okT_each hX ht _)
  · -- a comprehension: the name may be stored by it
    simp only [okE] at hm
    split at hm
    · rename_i y t' i cs scope p
      simp only [Bool.and_eq_true] at hm
      obtain ⟨⟨⟨⟨⟨⟨b1, b2⟩, b3⟩, b4⟩, b5⟩, b6⟩, b7⟩ := hm
      cases tg with
      | tup ts =>
        refine ps_asg hE hG ?_ hw (okT_each hX ht _)
        simp only [okT] at ht
        split at ht
        · rfl
        · cases ht
      | nm j =>
        simp only [okT] at ht
        split at ht
        · rename_i x px
          simp only [Bool.and_eq_true, decide_eq_true_eq] at ht
          cases hsw : (X.env.blockKind == .function && X.env.kindOf x == some .local && px.line == (Expr.ListComp y [⟨t', i, cs, 0⟩] scope p).pos.line && !(scope.names.any fun (n, k) => n == x && (k == .local || k == .cell))) with
          | false =>
            refine ps_asg hE hG ?_ hw rfl
            show (pure _ : Sem Bool) = pure false
            rw [← hsw]
          | true =>
            have hl : X.env.scope.names.lookup x = some .local := by
              simp only [Bool.and_eq_true] at hsw
              exact eq_of_beq hsw.1.1.2
            rw [List.all_eq_true] at b2
            have bok : BlkOk X.N X.env.scope scope (ownP N own) := by rw [hX.hN, hX.hsc]; exact blkOk_by b1
            refine PS.imp (ps_setLc (i := j) (own := ownP N own) (te := tE X.K Γ elt) (g := tGx X.K tg') (tt := tCd X.K Γ cond) hX.calm (by rw [hX.hN]; exact hX.nd) (by rw [hX.hN]; exact ht.1) hl ?_ ((sndI Γ T N it).i hX b5) bok (fun s H C cl fp => pgx_ok (hX.blk s H C cl fp) tg' t' b3) (fun s H C cl fp => pts_ok (sndE Γ T N cond) (hX.blk s H C cl fp) b7) (fun s H C cl fp => (sndE Γ T N elt).e (hX.blk s H C cl fp) b6) (nofold b4)) fun D σ H q => ?_
            · show (pure _ : Sem Bool) = pure true
              rw [← hsw]
            · rw [ownP_snd]
              exact lc_read (fun j hj => of_decide_eq_true (b2 j hj)) q
        · cases ht
    · cases hm
  · simp only [okE] at hm
    split at hm
    · rename_i y scope t' i cs t1 i1 cs1 hP
      obtain ⟨p, rfl⟩ := lc2P_p hP
      simp only [Bool.and_eq_true] at hm
      obtain ⟨⟨⟨⟨⟨⟨⟨⟨⟨⟨⟨⟨b1, b2⟩, b3⟩, b4⟩, b5⟩, b6⟩, b7⟩, b8⟩, b9⟩, b10⟩, b11⟩, b12⟩, b13⟩ := hm
      cases tg with
      | tup ts =>
        refine ps_asg hE hG ?_ hw (okT_each hX ht _)
        simp only [okT] at ht
        split at ht
        · rfl
        · cases ht
      | nm j =>
        simp only [okT] at ht
        split at ht
        · rename_i x px
          simp only [Bool.and_eq_true, decide_eq_true_eq] at ht
          cases hsw : (X.env.blockKind == .function && X.env.kindOf x == some .local && px.line == (Expr.ListComp y [⟨t', i, cs, 0⟩, ⟨t1, i1, cs1, 0⟩] scope p).pos.line && !(scope.names.any fun (n, k) => n == x && (k == .local || k == .cell))) with
          | false =>
            refine ps_asg hE hG ?_ hw rfl
            show (pure _ : Sem Bool) = pure false
            rw [← hsw]
          | true =>
            have hl : X.env.scope.names.lookup x = some .local := by
              simp only [Bool.and_eq_true] at hsw
              exact eq_of_beq hsw.1.1.2
            rw [List.all_eq_true] at b2 b8 b9
            have bok : BlkOk X.N X.env.scope scope (ownP N own) := by rw [hX.hN, hX.hsc]; exact blkOk_by b1
            refine PS.imp (ps_setLc2 (i := j) (own := ownP N own) (vs1 := vs1) (wi1 := tI X.K Γ it1) (te := tE X.K Γ elt) (g := tGx X.K tg') (tt := tCd X.K Γ cond) (g1 := tGx X.K tg1) (tt1 := tCd X.K Γ cond1) hX.calm (by rw [hX.hN]; exact hX.nd) (by rw [hX.hN]; exact ht.1) hl ?_ ((sndI Γ T N it).i hX b5) bok (fun j hj => by rw [ownP_snd]; exact of_decide_eq_true (b8 j hj)) (fun s H C cl fp => pgx_ok (hX.blk s H C cl fp) tg' t' b3) (fun s H C cl fp => pts_ok (sndE Γ T N cond) (hX.blk s H C cl fp) b7)
              (fun s H C cl fp => (sndI Γ T N it1).i (hX.blk s H C cl fp) b12) (fun s H C cl fp => pgx_ok (hX.blk s H C cl fp) tg1 t1 b10) (fun s H C cl fp => pts_ok (sndE Γ T N cond1) (hX.blk s H C cl fp) b13) (fun s H C cl fp => (sndE Γ T N elt).e (hX.blk s H C cl fp) b6) (nofold b4) (fun env => nofold b11)) fun D σ H q => ?_
            · show (pure _ : Sem Bool) = pure true
              rw [← hsw]
            · rw [ownP_snd]
              exact lc2_read (fun j hj => of_decide_eq_true (b2 j hj)) (fun j hj => of_decide_eq_true (b9 j hj)) (fun j hj => of_decide_eq_true (b8 j hj)) q
        · cases ht
    · cases hm
end
end Ev

namespace Ev
open PySem L2
section
variable {Γ : Ctx} {T : Tab} {N : List Str} {sc scT : Scope} {k : Nat} {X : Cx} {K : PySem.W.Frag} {S S' S1 S2 H H' H1 H2 S0 H0 : Hp} {σ σ' σ0 σ1 σ2 : St} {env env' env0 env1 env2 : Env} {L : List Nat}
/-! ### several names at once -/
def WRoot (H : Hp) : List V → List Val → Addr → Prop
  | v :: vs, w :: ws, b => Root H v w b ∨ WRoot H vs ws b
  | _, _, _ => False
inductive RepWs (K : PySem.W.Frag) (S H : Hp) (σ : St) (env : Env) (H0 : Hp) : List V → List Val → Prop
  | nil : RepWs K S H σ env H0 [] []
  | cons {v : V} {w : Val} {vs : List V} {ws : List Val} : RepV K S H v w → (∀ b, Root H v w b → ¬ Roots H σ env b ∧ H0 b = none ∧ ¬ WRoot H vs ws b) → RepWs K S H σ env H0 vs ws → RepWs K S H σ env H0 (v :: vs) (w :: ws)
theorem fzAs_roots : ∀ {rs : List Rv} {vs : List V} {ws : List Val} {env env2 : Env}, fzAs env rs = some (ws, env2) → ∀ b, WRoot H vs ws b → TRoot H vs rs b
  | [], vs, ws, env, env2, e, b, h => by
    cases e
    cases vs <;> exact h
  | r :: rs, vs, ws, env, env2, e, b, h => by
    simp only [fzAs] at e
    obtain ⟨⟨w, e1⟩, g1, e⟩ := Option.bind_eq_some_iff.mp e
    obtain ⟨⟨ws', e2⟩, g2, e⟩ := Option.map_eq_some_iff.mp e
    cases e
    cases vs with
    | nil => exact h.elim
    | cons v vs =>
      cases r with
      | v u =>
        cases g1
        exact h.elim .inl fun z => .inr (fzAs_roots g2 b z)
      | ali j =>
        simp only [fzA] at g1
        obtain ⟨⟨x, e3⟩, g3, g4⟩ := Option.map_eq_some_iff.mp g1
        cases g4
        exact h.elim (fun z => z.elim) fun z => fzAs_roots g2 b z
theorem root_ne {v : V} {w : Val} {b : Addr} (r : RepV K S H v w) (h : Root H v w b) (z : H b = none) : False := by
  obtain ⟨_, o, e⟩ := root_free r h
  rw [z] at e; cases e
theorem RepRs.step_ {vs : List V} {rs : List Rv} (h : RepRs K S H σ env H0 vs rs) (p : Pst K S H σ env S1 H env1) : RepRs K S1 H σ env1 H0 vs rs := by
  induction h with
  | nil => exact .nil
  | cons a1 a2 _ ih => exact .cons (a1.step p) a2 ih
theorem fzAs_ok : ∀ {rs : List Rv} {vs : List V} {ws : List Val} {S : Hp} {env env2 : Env}, RepEnv K S H σ env → RepRs K S H σ env H0 vs rs → fzAs env rs = some (ws, env2) →
    ∃ S2, Pst K S H σ env S2 H env2 ∧ RepWs K S2 H σ env2 H0 vs ws
  | [], vs, ws, S, env, env2, rep, rr, e => by
    cases e
    cases rr
    exact ⟨S, Pst.refl rep, .nil⟩
  | r :: rs, vs, ws, S, env, env2, rep, rr, e => by
    simp only [fzAs] at e
    obtain ⟨⟨w, e1⟩, g1, e⟩ := Option.bind_eq_some_iff.mp e
    obtain ⟨⟨ws', e2⟩, g2, e⟩ := Option.map_eq_some_iff.mp e
    cases e
    cases rr with
    | @cons v _ vs _ h1 h2 h3 =>
      cases r with
      | v u =>
        cases g1
        obtain ⟨S2, p2, k2⟩ := fzAs_ok rep h3 g2
        obtain ⟨q1, q2⟩ := repV_keep h1.1 p2.step h1.2
        refine ⟨S2, p2, .cons q1 (fun b hb => ⟨fun hr => (p2.sub b hr).elim (h1.2 b hb) (root_ne h1.1 hb), (h2 _ rfl b hb).1, fun z => (h2 _ rfl b hb).2 (fzAs_roots g2 b z)⟩) k2⟩
      | ali j =>
        simp only [fzA] at g1
        obtain ⟨⟨x, e3⟩, g3, g4⟩ := Option.map_eq_some_iff.mp g1
        cases g4
        obtain ⟨S1, p1, r1, _⟩ := fz_ok (psv_refl rep h1 fun _ z => nomatch z) g3
        have h3' := h3.step_ p1
        obtain ⟨S2, p2, k2⟩ := fzAs_ok p1.rep h3' g2
        exact ⟨S2, p1.trans p2, .cons (dpMono p2.step.st r1) (fun _ z => z.elim) k2⟩
def setAll : St → List Nat → List V → St
  | σ, i :: is, v :: vs => setAll (σ.set i (some v)) is vs
  | σ, _, _ => σ
theorem sets_ok : ∀ {is : List Nat} {vs : List V} {ws : List Val} {σ : St} {env : Env}, Sst K S0 H0 σ0 env0 L S H σ env → RepWs K S H σ env H0 vs ws → setVs L is ws env = some env' → Sst K S0 H0 σ0 env0 L S H (setAll σ is vs) env'
  | [], vs, ws, σ, env, a, r, e => by
    cases ws with
    | nil => cases e; cases r; exact a
    | cons _ _ => cases e
  | i :: is, vs, ws, σ, env, a, r, e => by
    cases r with
    | nil => cases e
    | @cons v w vs ws h1 h2 h3 =>
      obtain ⟨e1, g1, g2⟩ := Option.bind_eq_some_iff.mp (show ((setV L i w env).bind fun e => setVs L is ws e) = some _ from e)
      have a1 := set_ok a h1 (fun b hb => (h2 b hb).1) (fun b hb => (h2 b hb).2.1) g1
      have hsub : ∀ b, Roots H (σ.set i (some v)) e1 b → Roots H σ env b ∨ Root H v w b := by
        unfold setV at g1
        split at g1
        · cases g1
        · rename_i hc
          cases g1
          rw [not_or] at hc
          exact (a.rep.put (Nat.lt_of_not_le hc.2) h1 fun b hb => (h2 b hb).1).2
      have hw : ∀ b, WRoot H vs ws b → ¬ Root H v w b := fun b z1 z2 => (h2 b z2).2.2 z1
      refine sets_ok (vs := vs) a1 ?_ g2
      clear a1 g2 h2 e a g1 h1
      induction h3 with
      | nil => exact .nil
      | cons b1 b2 _ ih =>
        refine .cons b1 (fun b hb => ⟨fun hr => ?_, (b2 b hb).2⟩) (ih fun b hb => hw b (.inr hb))
        rcases hsub b hr with z | z
        · exact (b2 b hb).1 z
        · exact hw b (.inl hb) z
def okNs (N : List Str) (scT : Scope) : List Nat → List Expr → Bool
  | [], [] => true
  | i :: is, e :: es => (match e with
    | .Name x _ => decide (N[i]? = some x) && locB scT x
    | _ => false) && okNs N scT is es
  | _, _ => false
theorem pgs_names (hX : XOk Γ T N sc scT k X) : ∀ {is : List Nat} {ts : List Expr}, okNs N scT is ts = true → PGs X ts (fun vs σ H Q => vs.length = is.length ∧ Q (setAll σ is vs) H) ∧ (assignEach ts X.env).length = is.length ∧ (assignEach ts X.env).findIdx? (·.1) = none
  | [], [], _ => by
    refine ⟨⟨fun pins s σ H vs us Q I r q => ?_⟩, rfl, rfl⟩
    obtain ⟨q1, q2⟩ := q
    cases vs with
    | cons _ _ => simp at q1
    | nil => exact pgs_nil.run pins s σ H [] us Q I r ⟨rfl, q2⟩
  | i :: is, e :: es, h => by
    simp only [okNs, Bool.and_eq_true] at h
    obtain ⟨h1, h2⟩ := h
    obtain ⟨k1, k2, k3⟩ := pgs_names hX h2
    split at h1
    · rename_i x p
      simp only [Bool.and_eq_true, decide_eq_true_eq] at h1
      obtain ⟨l1, l2⟩ := hX.loc x h1.2
      have hg : PG X (.Name x p) (gName i) := pg_name (by rw [hX.hN]; exact hX.nd) (by rw [hX.hN]; exact h1.1) l1 l2
      have hs : assignEach (Expr.Name x p :: es) X.env = (false, assign (Expr.Name x p) X.env) :: assignEach es X.env := rfl
      refine ⟨⟨fun pins s σ H vs us Q I r q => ?_⟩, by rw [hs]; simp [k2], by rw [hs, List.findIdx?_cons]; simp [k3]⟩
      obtain ⟨q1, q2⟩ := q
      cases vs with
      | nil => simp at q1
      | cons v vs => exact (pgs_cons hg k1 (by rw [hs]; rfl)).run pins s σ H _ us Q I r ⟨v, vs, rfl, by simpa using q1, q2⟩
    · cases h1
  | [], _ :: _, h => by simp [okNs] at h
  | _ :: _, [], h => by simp [okNs] at h
/-- which road the compiler goes: some true: the names are stored from the right -/
def namesOf (sc : Scope) (line : Nat) (ts : List Expr) : List Str := ts.filterMap fun
  | .Name id pos => if sc.names.lookup id == some .local && pos.line == line then some id else none
  | _ => none
def swB (sc : Scope) (ts vs : List Expr) : Option Bool :=
  if !(ts.length == 2 || ts.length == 3) || vs.length != ts.length then some false else
  let names := namesOf sc ((ts.head?.map (·.pos.line)).getD 0) ts
  if names.length != ts.length || names.eraseDups.length != names.length then some false else
  if vs.all (foldedForSure 8) then some false else
  if vs.all (constantsAlone 8) then none else some true
theorem nostar : ∀ {vs : List Expr}, (∀ e ∈ vs, fineE e = true) → (vs.any fun | .Starred .. => true | _ => false) = false
  | [], _ => rfl
  | e :: vs, h => by
    rw [List.any_cons, nostar fun e he => h e (by simp [he])]
    have := h e (by simp)
    cases e <;> first | rfl | (simp [fineE, simpleE, isLC] at this)
theorem sw_eq {env : PySem.Env} {ts vs : List Expr} {k1 k2 : Nat} {p1 p2 : Pos} (hk : env.scope.kind = .function) (hf : ∀ e ∈ vs, fineE e = true) {b : Bool} (h : swB env.scope ts vs = some b) :
    swappedStores [.Tuple ts k1 p1] (.Tuple vs k2 p2) env = pure (if b then some (namesOf env.scope ((ts.head?.map (·.pos.line)).getD 0) ts) else none) := by
  have hbk : env.blockKind = .function := by unfold Env.blockKind; rw [hk]; rfl
  have hns := nostar hf
  have hn : (ts.filterMap fun
    | .Name id pos => if env.kindOf id == some .local && pos.line == ((ts.head?.map (·.pos.line)).getD 0) then some id else none
    | _ => none) = namesOf env.scope ((ts.head?.map (·.pos.line)).getD 0) ts := rfl
  unfold swB at h
  unfold swappedStores
  simp only
  split at h
  · rename_i c
    cases h
    simp only [Bool.or_eq_true] at c
    rw [if_pos (by simp only [Bool.or_eq_true]; exact .inl c)]
    rfl
  · rename_i c
    rw [if_neg (by
      rw [hbk]
      simpa using c)]
    refine (if_neg (fun z => Bool.false_ne_true (hns.symm.trans z))).trans ?_
    simp only at h
    split at h
    · rename_i c2
      cases h
      exact if_pos c2
    · rename_i c2
      split at h
      · rename_i c3
        cases h
        exact (if_neg c2).trans (if_pos c3)
      · rename_i c3
        split at h
        · cases h
        · rename_i c4
          cases h
          exact (if_neg c2).trans ((if_neg c3).trans (if_neg c4))
theorem okL_fine : ∀ {ms : List ME} {xs : List Expr}, okL T N ms sc xs = true → ∀ x ∈ xs, fineE x = true
  | [], [], _ => by simp
  | [], _ :: _, a => by simp [okL] at a
  | _ :: _, [], _ => by simp
  | m :: ms, x :: xs, a => by
    simp only [okL, Bool.and_eq_true] at a
    intro y hy
    rcases List.mem_cons.mp hy with rfl | hy
    · exact a.1.1
    · exact okL_fine a.2 y hy
end
end Ev

namespace Ev
open PySem L2
section
variable {Γ : Ctx} {T : Tab} {N : List Str} {sc scT : Scope} {k : Nat} {X : Cx} {K : PySem.W.Frag} {S S' S1 S2 H H' H1 H2 S0 H0 : Hp} {σ σ' σ0 σ1 σ2 : St} {env env' env0 env1 env2 : Env} {L : List Nat}
theorem setAll_comm : ∀ {is : List Nat} {vs : List V} {σ : St} {i : Nat} {v : V}, i ∉ is → setAll (σ.set i (some v)) is vs = (setAll σ is vs).set i (some v)
  | [], _, _, _, _, _ => by simp [setAll]
  | j :: is, [], _, _, _, _ => by simp [setAll]
  | j :: is, u :: vs, σ, i, v, h => by
    simp only [List.mem_cons, not_or] at h
    rw [setAll, setAll, List.set_comm _ _ h.1, setAll_comm h.2]
theorem setAll_app : ∀ {is : List Nat} {vs : List V} {σ : St} {i : Nat} {v : V}, is.length = vs.length → setAll σ (is ++ [i]) (vs ++ [v]) = (setAll σ is vs).set i (some v)
  | [], [], σ, i, v, _ => by simp [setAll]
  | [], _ :: _, σ, i, v, h => by simp at h
  | _ :: _, [], σ, i, v, h => by simp at h
  | j :: is, u :: vs, σ, i, v, h => by
    simp only [List.cons_append, setAll]
    exact setAll_app (by simpa using h)
theorem setAll_rev : ∀ {is : List Nat} {vs : List V} {σ : St}, is.Nodup → is.length = vs.length → setAll σ is.reverse vs.reverse = setAll σ is vs
  | [], [], σ, _, _ => rfl
  | [], _ :: _, σ, _, h => by simp at h
  | _ :: _, [], σ, _, h => by simp at h
  | j :: is, u :: vs, σ, hn, h => by
    have hn' := List.nodup_cons.mp hn
    rw [List.reverse_cons, List.reverse_cons, setAll_app (by simpa using h), setAll_rev hn'.2 (by simpa using h), setAll, setAll_comm hn'.1]
theorem bind_all {E : Value → Shared → Prop} {pins : List (Addr × Obj)} {H : Hp} : ∀ {is : List Nat} {xs : List Str} {vs : List V} {us : List Value} {σ : St} {s : Shared}, Inv X pins σ H s → X.N.Nodup →
    (∀ j : Nat, ∀ i x, is[j]? = some i → xs[j]? = some x → X.N[i]? = some x ∧ X.env.scope.names.lookup x = some .local) → is.length = xs.length → is.length = vs.length → Vals vs us →
    ∀ {Q : Unit → Shared → Prop}, (∀ s', Inv X pins (setAll σ is vs) H s' → Q () s') → wpAny (model X.prog X.w) X.A (assignInOrder (xs.map fun n => bindName X.env n) us) Q E s
  | [], [], [], us, σ, s, I, _, _, _, _, r, Q, q => by
    cases r
    exact PyProof.Rows.assignInOrder_nil (q s I)
  | i :: is, x :: xs, v :: vs, us, σ, s, I, hN, hx, h1, h2, r, Q, q => by
    cases r with
    | cons r1 r2 =>
      obtain ⟨k1, k2⟩ := hx 0 i x rfl rfl
      exact PyProof.Rows.assignInOrder_cons (wpAny_bindName (store_ok I hN k1 (.inl k2) r1 (fun s2 I2 => bind_all I2 hN (fun j i' x' a b => hx (j + 1) i' x' a b) (by simpa using h1) (by simpa using h2) r2 q) (.inr k2)))
  | [], _ :: _, _, _, _, _, _, _, _, h, _, _, _, _ => by simp at h
  | _ :: _, [], _, _, _, _, _, _, _, h, _, _, _, _ => by simp at h
  | [], [], _ :: _, _, _, _, _, _, _, _, h, _, _, _ => by simp at h
  | _ :: _, _ :: _, [], _, _, _, _, _, _, _, h, _, _, _ => by simp at h
theorem names_all (hX : XOk Γ T N sc scT k X) {line : Nat} : ∀ {is : List Nat} {ts : List Expr}, okNs N scT is ts = true → (namesOf sc line ts).length = ts.length →
    ∀ j : Nat, ∀ i x, is[j]? = some i → (namesOf sc line ts)[j]? = some x → X.N[i]? = some x ∧ X.env.scope.names.lookup x = some .local
  | [], [], _, _, j, i, x, h, _ => by simp at h
  | i0 :: is, t :: ts, h, hl, j, i, x, h1, h2 => by
    simp only [okNs, Bool.and_eq_true] at h
    obtain ⟨g1, g2⟩ := h
    split at g1
    · rename_i y p
      simp only [Bool.and_eq_true, decide_eq_true_eq] at g1
      unfold namesOf at hl h2
      rw [List.filterMap_cons] at hl h2
      have lef : (namesOf sc line ts).length ≤ ts.length := List.length_filterMap_le _ _
      by_cases c : (sc.names.lookup y == some .local && p.line == line) = true
      · simp only [Expr.pos, c, if_true] at hl h2
        cases j with
        | zero =>
          simp at h1 h2
          subst h1 h2
          rw [hX.hN, hX.hsc]
          rw [Bool.and_eq_true] at c
          exact ⟨g1.1, eq_of_beq c.1⟩
        | succ j => exact names_all hX g2 (by simpa [namesOf] using hl) j i x (by simpa using h1) (by simpa [namesOf] using h2)
      · simp only [Expr.pos, c, if_false] at hl
        have : (namesOf sc line ts).length = ts.length + 1 := by simpa [namesOf] using hl
        omega
    · cases g1
  | [], _ :: _, h, _, _, _, _, _, _ => by simp [okNs] at h
  | _ :: _, [], h, _, _, _, _, _, _ => by simp [okNs] at h
theorem okNs_len : ∀ {is : List Nat} {ts : List Expr}, okNs N scT is ts = true → is.length = ts.length
  | [], [], _ => rfl
  | i :: is, t :: ts, h => by
    simp only [okNs, Bool.and_eq_true] at h
    simp [okNs_len h.2]
  | [], _ :: _, h => by simp [okNs] at h
  | _ :: _, [], h => by simp [okNs] at h
/-- a, b, .. = x, y, .. -/
def tParN (is : List Nat) (ta : TA) : TS := fun D σ H => tTup ta σ H fun x H2 => ∃ p vs, x = .ref p ∧ H2 p = some (.tup vs) ∧ vs.length = is.length ∧ D.nx (setAll σ is vs) H2
theorem par_len {ts vs : List Expr} (h : swB sc ts vs = some true) : (namesOf sc ((ts.head?.map (·.pos.line)).getD 0) ts).length = ts.length ∧ vs.length = ts.length := by
  unfold swB at h
  split at h
  · cases h
  · rename_i c
    simp only at h
    split at h
    · cases h
    · rename_i c2
      simp only [Bool.or_eq_true, bne_iff_ne, ne_eq, not_or, Decidable.not_not] at c2 c
      exact ⟨c2.1, c.2⟩
theorem ps_parE (hX : XOk Γ T N sc scT k X) {is : List Nat} {ts es : List Expr} {ta : TA} {pos pt pt2 : Pos} {kt k2 : Nat} {b : Bool} (h1 : okNs N scT is ts = true) (hnd : is.Nodup) (hA : PA X es ta) (hf : ∀ e ∈ es, fineE e = true) (hb : swB sc ts es = some b) :
    PS X (.Assign [.Tuple ts kt pt] (.Tuple es k2 pt2) pos) (tParN is ta) := by
  refine ⟨fun pins s σ H D I q => ?_⟩
  have hsw := sw_eq (k1 := kt) (k2 := k2) (p1 := pt) (p2 := pt2) I.ok.kind hf (by rw [hX.hsc]; exact hb)
  obtain ⟨g1, g2, g3⟩ := pgs_names hX h1
  cases b with
  | false =>
    refine wpAny_Assign_stores (thn ((pe_tup hA).run pins s σ H _ I q) fun u s1 ⟨x, H2, I2, r2, p, vs, e0, e1, e2, e3⟩ => ?_) (by rfl) hsw
    show wpAny _ _ (assignAll u [assign (.Tuple ts kt pt) X.env]) _ _ s1
    exact thn ((pg_tup (n := is.length) hX.calm g1 g2 g3).run pins s1 σ H2 x u _ I2 r2 ⟨p, vs, e0, SqT.of e1, e2, e2, e3⟩) fun _ s2 z => z
  | true =>
    rw [exec_Assign_arm]
    refine wpAny_bind (wpAny_standAt ?_)
    show wpAny _ _ ((pure false : Sem Bool) >>= _) _ _ s
    refine wpAny_bind (wpAny_pure ?_)
    rw [if_neg (by decide)]
    refine wpAny_bind (thn ((pe_tup hA).run pins s σ H _ I q) fun u s1 ⟨x, H2, I2, r2, p, vs, e0, e1, e2, e3⟩ => ?_)
    subst e0
    cases r2
    rw [hsw]
    refine wpAny_bind (wpAny_pure ?_)
    rw [if_pos rfl]
    obtain ⟨its, rv, ht, hz⟩ := I2.tuple (SqT.of e1)
    obtain ⟨l1, l2⟩ := par_len hb
    have hlen : (namesOf X.env.scope ((ts.head?.map (·.pos.line)).getD 0) ts).length = its.toArray.size := by
      rw [hX.hsc, l1, List.size_toArray, ← rv.length, e2, okNs_len h1]
    refine wpAny_bind (wpAny_rule ?_)
    rw [hlen]
    refine wpAny_bind (PyProof.Rows.unpackItems_tuple (I2.ok.hd hX.calm) ht fun h' hx' => ?_)
    have I3 := I2.kept (h' := h') (t' := s1.toks) fun b o e => hx' b o (Nat.ne_of_lt (Heap.lt_size e)) e
    have hname := names_all hX (line := ((ts.head?.map (·.pos.line)).getD 0)) h1 l1
    have hl3 : is.length = (namesOf sc ((ts.head?.map (·.pos.line)).getD 0) ts).length := by rw [l1, okNs_len h1]
    rw [hX.hsc]
    refine wpAny_bind (bind_all (is := is.reverse) (xs := (namesOf sc ((ts.head?.map (·.pos.line)).getD 0) ts).reverse) (vs := vs.reverse) I3 (by rw [hX.hN]; exact hX.nd) (fun j i x a b => ?_) (by simpa using hl3) (by simpa using e2.symm) rv.reverse fun s' I' => wpAny_pure ?_)
    · have hj : j < is.length := by
        have := (List.getElem?_eq_some_iff.mp a).1
        simpa using this
      rw [List.getElem?_reverse (by omega)] at a b
      rw [← hl3] at b
      exact hname _ i x a b
    · rw [setAll_rev hnd e2.symm] at I'
      exact ⟨_, H2, I', e3⟩
end
end Ev

namespace Ev
open PySem L2
mutual
def okS (T : Tab) (N : List Str) (sc : Scope) : MS → Stmt → Bool
  | .asg tg e, s => match s with
    | .Assign [t] x _ => okT N sc tg t && okE T N e sc x && (!isTupE t || !isTupE x)
    | _ => false
  | .par is es, s => match s with
    | .Assign [.Tuple ts _ _] (.Tuple xs _ _) _ => okNs N sc is ts && decide is.Nodup && okL T N es sc xs && (swB sc ts xs).isSome && decide (xs.length ≤ 1000)
    | _ => false
  | .seti i k v, s => match s with
    | .Assign [.Subscript (.Name x _) y _] z _ => decide (N[i]? = some x) && visB sc x && nmB x && fineE y && okE T N k sc y && okE T N v sc z
    | _ => false
  | .dput i k v, s => match s with
    | .Assign [.Subscript (.Name x _) y _] z _ => decide (N[i]? = some x) && visB sc x && nmB x && fineE y && okE T N k sc y && okE T N v sc z
    | _ => false
  | .swp i k1 k2 e1 e2, s => match s with
    | .Assign [.Tuple [.Subscript (.Name x _) y _, .Subscript (.Name x' _) y' _] _ _] (.Tuple zs _ _) _ => decide (N[i]? = some x) && decide (x' = x) && visB sc x && nmB x && fineE y && fineE y' && okE T N k1 sc y && okE T N k2 sc y' && okL T N [e1, e2] sc zs
    | _ => false
  | .app i e, s => match s with
    | .Expr (.Call (.Attribute (.Name x _) m apos) [y] [] cpos) _ => decide (m = "append") && decide (N[i]? = some x) && visB sc x && nmB x && fineE y && okE T N e sc y && (apos.endLine == cpos.line)
    | _ => false
  | .ext i e, s => match s with
    | .Expr (.Call (.Attribute (.Name x _) m apos) [y] [] cpos) _ => decide (m = "extend") && decide (N[i]? = some x) && visB sc x && nmB x && fineE y && okE T N e sc y && (apos.endLine == cpos.line)
    | _ => false
  | .ifs c a b, s => match s with
    | .If x p q _ => okE T N c sc x && okSs T N sc a p && okSs T N sc b q
    | _ => false
  | .whl c b, s => match s with
    | .While x p [] _ => okE T N c sc x && okSs T N sc b p
    | _ => false
  | .for_ tg it b, s => match s with
    | .For t i p [] _ => okT N sc tg t && okI T N it sc t i && fineE i && okSs T N sc b p
    | _ => false
  | .ret e, s => match s with
    | .Return (some x) _ => okE T N e sc x
    | _ => false
  | .ex e, s => match s with
    | .Expr x _ => simpleE x && okE T N e sc x
    | _ => false
  | .retN, s => match s with
    | .Return none _ => true
    | _ => false
  | .brk, s => match s with
    | .Break _ => true
    | _ => false
  | .cnt, s => match s with
    | .Continue _ => true
    | _ => false
  | .pass, s => match s with
    | .Pass _ => true
    | .Expr (.Constant (.str _) _ _) _ => true
    | _ => false
def okSs (T : Tab) (N : List Str) (sc : Scope) : List MS → List Stmt → Bool
  | [], xs => match xs with
    | [] => true
    | _ => false
  | m :: ms, xs => match xs with
    | x :: xs => okS T N sc m x && okSs T N sc ms xs
    | _ => false
end
section
variable {Γ : Ctx} {T : Tab} {N : List Str} {sc scT : Scope} {k : Nat} {X : Cx} {K : PySem.W.Frag} {S S' S1 S2 H H' H1 H2 S0 H0 : Hp} {σ σ' σ0 σ1 σ2 : St} {env env' env0 env1 env2 : Env} {L : List Nat}
abbrev Po (X : Cx) : Prop := PassesOwn (model X.prog X.w) X.A X.env X.xe
structure SndS (Γ : Ctx) (T : Tab) (N : List Str) (m : MS) : Prop where
  s : ∀ {sc k X st} (L : List Nat), XOk Γ T N sc sc k X → Po X → okS T N sc m st = true → PS X st (tS X.K Γ L m)
structure SndSs (Γ : Ctx) (T : Tab) (N : List Str) (ms : List MS) : Prop where
  s : ∀ {sc k X sts} (L : List Nat), XOk Γ T N sc sc k X → Po X → okSs T N sc ms sts = true → PSs X sts (tSs X.K Γ L ms)
theorem Sst.grow (a : Sst K S0 H0 σ0 env0 L S H σ env) (g : Gr S H S' H') : Sst K S0 H0 σ0 env0 L S' H' σ env := by
  obtain ⟨k1, k2⟩ := a.rep.grow g.st g.same g.hh g.nw
  exact ⟨a.step.trans (g.step (R := fun _ => False)) fun _ z => z.elim, k1, fun b hb => a.sub b ((k2 b).mp hb), a.keep, a.slots⟩
theorem snds_asg {tg : Tg} {e : ME} : SndS Γ T N (.asg tg e) := by
  refine ⟨fun {sc k X st} L hX hp h => ?_⟩
  simp only [okS] at h
  split at h
  · rename_i t x p
    simp only [Bool.and_eq_true, Bool.or_eq_true, Bool.not_eq_true'] at h
    obtain ⟨⟨h1, h2⟩, h3⟩ := h
    refine PS.imp (ps_asgE (Γ := Γ) hX h1 h2 fun z => h3.elim (fun q => by rw [q] at z; cases z) id) fun D σ H q => ?_
    obtain ⟨S, env, r, rep, e1, q⟩ := q
    simp only [evS] at e1
    obtain ⟨⟨rv, e2⟩, g1, e1⟩ := Option.bind_eq_some_iff.mp e1
    obtain ⟨e3, g2, e1⟩ := Option.map_eq_some_iff.mp e1
    cases e1
    exact ⟨S, env, rv, e2, rep, g1, fun v S1 H1 p1 => asg_ok p1 g2 fun S' σ' a => q S' H1 σ' a⟩
  · cases h
theorem RepWs.len {vs : List V} {ws : List Val} (h : RepWs K S H σ env H0 vs ws) : vs.length = ws.length := by
  induction h with
  | nil => rfl
  | cons _ _ _ ih => simp [ih]
theorem setVs_len : ∀ {is : List Nat} {ws : List Val} {env env' : Env}, setVs L is ws env = some env' → is.length = ws.length
  | [], [], _, _, _ => rfl
  | i :: is, w :: ws, env, env', e => by
    obtain ⟨e1, g1, g2⟩ := Option.bind_eq_some_iff.mp (show ((setV L i w env).bind fun e => setVs L is ws e) = some _ from e)
    simp [setVs_len g2]
  | [], _ :: _, _, _, e => by cases e
  | _ :: _, [], _, _, e => by cases e
theorem evL_len : ∀ {es : List ME} {env e' : Env} {rs : List Rv}, evL Γ es env = some (rs, e') → rs.length = es.length := by
  intro es
  induction es with
  | nil => intro env e' rs e; cases e; rfl
  | cons m ms ih =>
    intro env e' rs e
    simp only [evL] at e
    obtain ⟨⟨r, e2⟩, _, e⟩ := Option.bind_eq_some_iff.mp e
    obtain ⟨⟨rs', e3⟩, g, e⟩ := Option.map_eq_some_iff.mp e
    cases e
    simp [ih g]
theorem snds_par {is : List Nat} {es : List ME} : SndS Γ T N (.par is es) := by
  refine ⟨fun {sc k X st} L hX hp h => ?_⟩
  simp only [okS] at h
  split at h
  · rename_i ts kt pt xs k2 pt2 pos
    simp only [Bool.and_eq_true, decide_eq_true_eq] at h
    obtain ⟨⟨⟨⟨h1, h2⟩, h3⟩, h4⟩, h5⟩ := h
    obtain ⟨b, hb⟩ := Option.isSome_iff_exists.mp h4
    refine PS.imp (ps_parE hX h1 h2 ((sndL Γ T N es).l hX h3) (okL_fine h3) hb) fun D σ H q => ?_
    obtain ⟨S, env, r, rep, e1, q⟩ := q
    simp only [evS] at e1
    obtain ⟨⟨rs, e2⟩, g1, e1⟩ := Option.bind_eq_some_iff.mp e1
    obtain ⟨⟨ws, e3⟩, g2, e1⟩ := Option.bind_eq_some_iff.mp e1
    obtain ⟨e4, g3, e1⟩ := Option.map_eq_some_iff.mp e1
    cases e1
    refine ⟨S, env, rs, e2, rep, g1, fun vs S1 H1 p1 => ⟨?_, fun p hpn => ?_⟩⟩
    · rw [p1.res.len, evL_len g1, okL_len h3]; exact small_line h5
    · obtain ⟨S2, p2, w2⟩ := fzAs_ok p1.rep p1.res g2
      have a := sets_ok (Sst.of (p1.toPst.trans p2)) w2 g3
      refine ⟨p, vs, rfl, upd_same, by rw [w2.len, setVs_len g3], q _ _ _ (a.grow (Gr.newH a.rep.same hpn))⟩
  · cases h
theorem sub_asg {o i : Expr} {pos : Pos} (hi : fineE i = true) : ∀ v, assign (.Subscript o i pos) X.env v = (do
      let ov ← holding [v] (eval o X.env)
      let iv ← holding [v, ov] (eval i X.env)
      standAt pos
      holding [v, ov, iv] (setItem ov iv v)
      release [v, ov, iv] []) := by
  intro v
  cases i <;> first | rfl | (simp [fineE, simpleE, isLC] at hi)
theorem snds_seti {i : Nat} {ke ve : ME} : SndS Γ T N (.seti i ke ve) := by
  refine ⟨fun {sc k X st} L hX hp h => ?_⟩
  simp only [okS] at h
  split at h
  · rename_i x px y p z pos
    simp only [Bool.and_eq_true, decide_eq_true_eq] at h
    obtain ⟨⟨⟨⟨⟨h1, h2⟩, h3⟩, h4⟩, h5⟩, h6⟩ := h
    obtain ⟨n1, n2, _⟩ := nmB_p h3
    have hsw : swapsWithSole [.Subscript (.Name x px) y p] z pos.line X.env = pure false := by
      show swapsWith z (some (.Subscript (.Name x px) y p)) pos.line X.env = pure false
      cases z <;> rfl
    have hw : swappedStores [.Subscript (.Name x px) y p] z X.env = pure none := rfl
    refine PS.imp (ps_asg ((sndE Γ T N ve).e hX h6) (pg_sub (pe_var (by rw [hX.hN]; exact h1) (hX.vis h2) n1 n2) ((sndE Γ T N ke).e hX h5) set_list (sub_asg h4)) hsw hw rfl) fun D σ H q => ?_
    obtain ⟨S, env, r, rep, e1, q⟩ := q
    simp only [evS] at e1
    obtain ⟨⟨rv, e2⟩, g1, e1⟩ := Option.bind_eq_some_iff.mp e1
    obtain ⟨⟨dx, e3⟩, g2, e1⟩ := Option.bind_eq_some_iff.mp e1
    obtain ⟨w0, g3, e1⟩ := Option.bind_eq_some_iff.mp e1
    obtain ⟨⟨rk, e4⟩, g4, e1⟩ := Option.bind_eq_some_iff.mp e1
    obtain ⟨n, g5, e1⟩ := Option.bind_eq_some_iff.mp e1
    simp only at e1
    split at e1
    · rename_i xs n hrd
      obtain ⟨j, g6, e1⟩ := Option.map_eq_some_iff.mp e1
      cases e1
      refine ⟨S, env, rv, e2, rep, g1, fun v S1 H1 p1 => ?_⟩
      obtain ⟨S2, p2, r2, _⟩ := fz_ok p1 g2
      obtain ⟨o, k1, _⟩ := p2.rep.get i _ g3
      refine ⟨o, slotV_get k1, S2, e3, rk, e4, p2.rep, g4, fun iv S3 H3 p3 => ?_⟩
      have hk := (repC_of p3.rep p3.res g5).int
      subst hk
      obtain ⟨o', k2, a, vs, e5, m2, m3, m4⟩ := p3.rep.get i _ hrd
      rw [k1] at k2; cases k2
      cases e5
      refine ⟨a, vs, n, j, rfl, rfl, m3, by rw [dps_len m4]; exact g6, ?_⟩
      have pm := p3.rep.mut (o := .lst (vs.set j v)) (w := .own (xs.set j dx)) hrd k1 (fun b => ⟨fun z => (V.ref.inj z).symm, fun z => by rw [z]; rfl⟩) ⟨a, _, rfl, m2, upd_same, dps_set j m4 (dpMono p3.step.st r2)⟩ fun b z => (V.ref.inj z).symm
      exact q _ _ _ (Sst.of ((p2.trans p3.toPst).trans pm))
    · cases e1
  · cases h
theorem snds_dput {i : Nat} {ke ve : ME} : SndS Γ T N (.dput i ke ve) := by
  refine ⟨fun {sc k X st} L hX hp h => ?_⟩
  simp only [okS] at h
  split at h
  · rename_i x px y p z pos
    simp only [Bool.and_eq_true, decide_eq_true_eq] at h
    obtain ⟨⟨⟨⟨⟨h1, h2⟩, h3⟩, h4⟩, h5⟩, h6⟩ := h
    obtain ⟨n1, n2, _⟩ := nmB_p h3
    have hsw : swapsWith z (some (.Subscript (.Name x px) y p)) pos.line X.env = pure false := by
      cases z <;> rfl
    refine PS.imp (ps_dput (by have := hX.hu; omega) (pe_var (by rw [hX.hN]; exact h1) (hX.vis h2) n1 n2) ((sndE Γ T N ke).e hX h5) ((sndE Γ T N ve).e hX h6) hsw) fun D σ H q => ?_
    obtain ⟨S, env, r, rep, e1, q⟩ := q
    simp only [evS] at e1
    obtain ⟨⟨rv, e2⟩, g1, e1⟩ := Option.bind_eq_some_iff.mp e1
    obtain ⟨⟨dx, e3⟩, g2, e1⟩ := Option.bind_eq_some_iff.mp e1
    obtain ⟨w0, g3, e1⟩ := Option.bind_eq_some_iff.mp e1
    obtain ⟨⟨rk, e4⟩, g4, e1⟩ := Option.bind_eq_some_iff.mp e1
    obtain ⟨dk, g5, e1⟩ := Option.bind_eq_some_iff.mp e1
    obtain ⟨key, g6, e1⟩ := Option.bind_eq_some_iff.mp e1
    simp only at e1
    split at e1
    · rename_i kvs hrd
      obtain ⟨hlt, e1⟩ := (Option.ite_none_right_eq_some ..).mp e1
      cases e1
      refine ⟨S, env, rv, e2, rep, g1, fun v S1 H1 p1 => ?_⟩
      obtain ⟨S2, p2, r2, _⟩ := fz_ok p1 g2
      obtain ⟨o, k1, _⟩ := p2.rep.get i _ g3
      refine ⟨o, slotV_get k1, S2, e3, rk, e4, p2.rep, g4, fun iv S3 H3 p3 => ?_⟩
      have hk := key_rep (repC_of p3.rep p3.res g5) g6
      subst hk
      obtain ⟨o', k2, a, ws, e5, m2, m3, m4⟩ := p3.rep.get i _ hrd
      rw [k1] at k2; cases k2
      cases e5
      refine ⟨a, _, rfl, DPut.k m3 (by rw [prd_len m4]; exact hlt), ?_⟩
      have pm := p3.rep.mut (o := .dK (putK ws key v)) (w := .dk (putT kvs key dx)) hrd k1 (fun b => ⟨fun z => (V.ref.inj z).symm, fun z => by rw [z]; rfl⟩) ⟨a, _, rfl, m2, upd_same, prd_put m4 (dpMono p3.step.st r2)⟩ fun b z => (V.ref.inj z).symm
      exact q _ _ _ (Sst.of ((p2.trans p3.toPst).trans pm))
    · cases e1
  · cases h
theorem stoD_ok {i : Nat} {ke : ME} {x : D} {v : V} {Q : St → Hp → Prop} {o : TE} (ho : ∀ σ H Q, (∃ z, slotV σ i = some z ∧ Q z H) → o σ H Q) (rep : RepEnv K S H σ env) (r : Rp K S v x) (e : stoD Γ i ke x env = some env') (q : ∀ S' H', Pst K S H σ env S' H' env' → Q σ H') : gSub o (tE K Γ ke) rSetL v σ H Q := by
  unfold stoD at e
  obtain ⟨w0, g3, e⟩ := Option.bind_eq_some_iff.mp e
  obtain ⟨⟨rk, e4⟩, g4, e⟩ := Option.bind_eq_some_iff.mp e
  obtain ⟨n, g5, e⟩ := Option.bind_eq_some_iff.mp e
  split at e
  · rename_i xs n hrd
    obtain ⟨j, g6, e⟩ := Option.map_eq_some_iff.mp e
    cases e
    obtain ⟨ov, k1, _⟩ := rep.get i _ g3
    refine ho _ _ _ ⟨ov, k1, S, env, rk, e4, rep, g4, fun iv S3 H3 p3 => ?_⟩
    have hk := (repC_of p3.rep p3.res g5).int
    subst hk
    obtain ⟨o', k2, a, vs, e5, m2, m3, m4⟩ := p3.rep.get i _ hrd
    rw [k1] at k2; cases k2
    cases e5
    refine ⟨a, vs, n, j, rfl, rfl, m3, by rw [dps_len m4]; exact g6, ?_⟩
    have pm := p3.rep.mut (o := .lst (vs.set j v)) (w := .own (xs.set j x)) hrd k1 (fun b => ⟨fun z => (V.ref.inj z).symm, fun z => by rw [z]; rfl⟩) ⟨a, _, rfl, m2, upd_same, dps_set j m4 (dpMono p3.step.st r)⟩ fun b z => (V.ref.inj z).symm
    exact q _ _ (p3.toPst.trans pm)
  · cases e
theorem snds_swp {i : Nat} {k1 k2 e1 e2 : ME} : SndS Γ T N (.swp i k1 k2 e1 e2) := by
  refine ⟨fun {sc k X st} L hX hp h => ?_⟩
  simp only [okS] at h
  split at h
  · rename_i x px y p x' px' y' p' kt pt zs kz pz pos
    simp only [Bool.and_eq_true, decide_eq_true_eq] at h
    obtain ⟨⟨⟨⟨⟨⟨⟨⟨h1, h1'⟩, h2⟩, h3⟩, h4⟩, h4'⟩, h5⟩, h5'⟩, h6⟩ := h
    subst h1'
    obtain ⟨n1, n2, _⟩ := nmB_p h3
    have hA := (sndL Γ T N [e1, e2]).f hX h6
    have hg : ∀ {y p}, fineE y = true → ∀ {ke}, okE T N ke sc y = true → ∀ {px}, PG X (.Subscript (.Name x' px) y p) (gSub (tVar i) (tE X.K Γ ke) rSetL) := fun hf ke hk px =>
      pg_sub (pe_var (by rw [hX.hN]; exact h1) (hX.vis h2) n1 n2) ((sndE Γ T N ke).e hX hk) set_list (sub_asg hf)
    refine PS.imp (t := tAsg (tTup (tF X.K Γ [e1, e2])) (gTup X.K 2 (gCons (gSub (tVar i) (tE X.K Γ k1) rSetL) (gCons (gSub (tVar i) (tE X.K Γ k2) rSetL) gNil)))) ⟨fun pins s σ H D I q => ?_⟩ fun D σ H q => ?_
    · have hsw := sw_eq (k1 := kt) (k2 := kz) (p1 := pt) (p2 := pz) (ts := [Expr.Subscript (.Name x' px) y p, Expr.Subscript (.Name x' px') y' p']) (vs := zs) I.ok.kind (okL_fine h6) (b := false) (by
        unfold swB
        split
        · rfl
        · rfl)
      exact (ps_asg (pe_tup hA) (pg_tup (n := 2) hX.calm (pgs_cons (hg h4 h5) (pgs_cons (hg h4' h5') pgs_nil))) (by rfl) hsw (by rfl)).run pins s σ H D I q
    obtain ⟨S, env, r, rep, e1, q⟩ := q
    simp only [evS] at e1
    obtain ⟨⟨xs, e⟩, g1, e1⟩ := Option.bind_eq_some_iff.mp e1
    simp only at e1
    split at e1
    · rename_i dx dy
      obtain ⟨e', g2, e1⟩ := Option.bind_eq_some_iff.mp e1
      obtain ⟨e'', g3, e1⟩ := Option.map_eq_some_iff.mp e1
      cases e1
      refine ⟨S, env, [dx, dy], e, rep, g1, fun vs S1 H1 p1 r1 => ⟨?_, fun p hp => ?_⟩⟩
      · rw [dps_len r1]; exact small_line (by simp)
      · have g := Gr.newS (o := .tup vs) p1.rep.same hp
        obtain ⟨rep2, _⟩ := p1.rep.grow g.st g.same g.hh g.nw
        obtain ⟨va, vb, rfl, ra, rb⟩ : ∃ va vb, vs = [va, vb] ∧ Rp X.K S1 va dx ∧ Rp X.K S1 vb dy := by
          cases r1 with
          | cons ra rt =>
            cases rt with
            | cons rb rn => cases rn; exact ⟨_, _, rfl, ra, rb⟩
        refine ⟨p, [va, vb], rfl, SqT.of upd_same, rfl, va, [vb], rfl, ?_⟩
        refine stoD_ok (fun σ H Q h => h.elim fun z h => ⟨z, slotV_get h.1, h.2⟩) rep2 (dpMono g.st ra) g2 fun S3 H3 p3 => ?_
        refine ⟨vb, [], rfl, ?_⟩
        refine stoD_ok (fun σ H Q h => h.elim fun z h => ⟨z, slotV_get h.1, h.2⟩) p3.rep (dpMono (g.st.trans p3.step.st) rb) g3 fun S4 H4 p4 => ?_
        exact ⟨rfl, q _ _ _ ((Sst.of p1).trans ((Sst.grow (Sst.refl p1.rep) g).trans (Sst.of (p3.trans p4))))⟩
    · cases e1
  · cases h
theorem few_ok {e : Expr} {cpos : Pos} (h : fineE e = true) : ((backTo cpos (starEach [e] X.env)).all (fun x => !x.1) && (backToKw cpos (keywordEach [] X.env)).all (fun x => x.1.isSome)
      && decide ([e].length + ([] : List Keyword).length + (if ([] : List Keyword).isEmpty then 0 else 1) < 30)) = true := by
  rw [star1 h]; rfl
theorem isOwn_p {w : Option Val} (h : isOwn w = true) : ∃ xs, w = some (.own xs) := by
  unfold isOwn at h
  split at h
  · exact ⟨_, rfl⟩
  · cases h
theorem snds_app {i : Nat} {ee : ME} : SndS Γ T N (.app i ee) := by
  refine ⟨fun {sc k X st} L hX hp h => ?_⟩
  simp only [okS] at h
  split at h
  · rename_i x px m apos y cpos pos
    simp only [Bool.and_eq_true, decide_eq_true_eq] at h
    obtain ⟨⟨⟨⟨⟨⟨h0, h1⟩, h2⟩, h3⟩, h4⟩, h5⟩, h6⟩ := h
    subst h0
    obtain ⟨n1, n2, _⟩ := nmB_p h3
    refine PS.imp (ps_expr (pe_bm PySem.F.plainAttrs_list PySem.F.slot_list_append PySem.F.type_list_append mt_append (pe_var (by rw [hX.hN]; exact h1) (hX.vis h2) n1 n2) (pa_cons ((sndE Γ T N ee).e hX h5) pa_nil (star_fine h4)) (by rfl) (few_ok h4) h6 (star_fine h4) (by rfl)) (by rfl)) fun D σ H q => ?_
    obtain ⟨S, env, r, rep, e1, q⟩ := q
    simp only [evS] at e1
    obtain ⟨e0, e1⟩ := (Option.ite_none_right_eq_some ..).mp e1
    obtain ⟨⟨rv, e2⟩, g1, e1⟩ := Option.bind_eq_some_iff.mp e1
    obtain ⟨⟨dx, e3⟩, g2, e1⟩ := Option.bind_eq_some_iff.mp e1
    simp only at e1
    split at e1
    · rename_i xs hrd
      obtain ⟨hlt, e1⟩ := (Option.ite_none_right_eq_some ..).mp e1
      cases e1
      obtain ⟨ys, hys⟩ := isOwn_p e0
      obtain ⟨o, k1, a, vs0, e5, l2, l3, l4⟩ := rep.get i _ hys
      subst e5
      refine ⟨.ref a, slotV_get k1, Or.inl ⟨rfl, vs0, SqL.of l3⟩, S, env, rv, e2, rep, g1, fun v S1 H1 p1 => ?_⟩
      obtain ⟨S2, p2, r2, _⟩ := fz_ok p1 g2
      obtain ⟨o', k2, a', vs, e5, m2, m3, m4⟩ := p2.rep.get i _ hrd
      rw [k1] at k2; cases k2
      cases e5
      refine ⟨a, vs, v, rfl, rfl, m3, by rw [dps_len m4]; exact hlt, ?_⟩
      have pm := p2.rep.mut (o := .lst (vs ++ [v])) (w := .own (xs ++ [dx])) hrd k1 (fun b => ⟨fun z => (V.ref.inj z).symm, fun z => by rw [z]; rfl⟩) ⟨a, _, rfl, m2, upd_same, dps_app m4 (.cons r2 .nil)⟩ fun b z => (V.ref.inj z).symm
      exact q _ _ _ (Sst.of (p2.trans pm))
    · cases e1
  · cases h
theorem snds_ext {i : Nat} {ee : ME} : SndS Γ T N (.ext i ee) := by
  refine ⟨fun {sc k X st} L hX hp h => ?_⟩
  simp only [okS] at h
  split at h
  · rename_i x px m apos y cpos pos
    simp only [Bool.and_eq_true, decide_eq_true_eq] at h
    obtain ⟨⟨⟨⟨⟨⟨h0, h1⟩, h2⟩, h3⟩, h4⟩, h5⟩, h6⟩ := h
    subst h0
    obtain ⟨n1, n2, _⟩ := nmB_p h3
    refine PS.imp (ps_expr (pe_bm PySem.F.plainAttrs_list PySem.F.slot_list_extend PySem.F.type_list_extend mt_extend (pe_var (by rw [hX.hN]; exact h1) (hX.vis h2) n1 n2) (pa_cons ((sndE Γ T N ee).e hX h5) pa_nil (star_fine h4)) (by rfl) (few_ok h4) h6 (star_fine h4) (by rfl)) (by rfl)) fun D σ H q => ?_
    obtain ⟨S, env, r, rep, e1, q⟩ := q
    simp only [evS] at e1
    obtain ⟨e0, e1⟩ := (Option.ite_none_right_eq_some ..).mp e1
    obtain ⟨⟨rv, e2⟩, g1, e1⟩ := Option.bind_eq_some_iff.mp e1
    obtain ⟨dy, g2, e1⟩ := Option.bind_eq_some_iff.mp e1
    simp only at e1
    split at e1
    · rename_i xs zs hrd
      obtain ⟨hlt, e1⟩ := (Option.ite_none_right_eq_some ..).mp e1
      cases e1
      obtain ⟨ys, hys⟩ := isOwn_p e0
      obtain ⟨o, k1, a, vs0, e5, l2, l3, l4⟩ := rep.get i _ hys
      subst e5
      refine ⟨.ref a, slotV_get k1, Or.inl ⟨rfl, vs0, SqL.of l3⟩, S, env, rv, e2, rep, g1, fun v S1 H1 p1 => ?_⟩
      obtain ⟨b, ws, rfl, q2, q3⟩ := (repC_of p1.rep p1.res g2).list p1.rep.same
      obtain ⟨o', k2, a', vs, e5, m2, m3, m4⟩ := p1.rep.get i _ hrd
      rw [k1] at k2; cases k2
      cases e5
      refine ⟨a, b, vs, ws, rfl, rfl, m3, q2, by rw [dps_len m4, dps_len q3]; exact hlt, ?_⟩
      have pm := p1.rep.mut (o := .lst (vs ++ ws)) (w := .own (xs ++ zs)) hrd k1 (fun b => ⟨fun z => (V.ref.inj z).symm, fun z => by rw [z]; rfl⟩) ⟨a, _, rfl, m2, upd_same, dps_app m4 q3⟩ fun b z => (V.ref.inj z).symm
      exact q _ _ _ (Sst.of (p1.toPst.trans pm))
    · cases e1
  · cases h
theorem snds_ex {e : ME} : SndS Γ T N (.ex e) := by
  refine ⟨fun {sc k X st} L hX hp h => ?_⟩
  simp only [okS] at h
  split at h
  · simp only [Bool.and_eq_true] at h
    refine PS.imp (ps_expr ((sndE Γ T N e).e hX h.2) (noswap h.1)) fun D σ H q => ?_
    obtain ⟨S, env, r, rep, e1, q⟩ := q
    simp only [evS] at e1
    obtain ⟨⟨rv, e2⟩, g1, e1⟩ := Option.map_eq_some_iff.mp e1
    cases e1
    exact ⟨S, env, rv, _, rep, g1, fun v S1 H1 p1 => q S1 H1 σ (Sst.of p1.toPst)⟩
  · cases h
theorem snds_ret {e : ME} : SndS Γ T N (.ret e) := by
  refine ⟨fun {sc k X st} L hX hp h => ?_⟩
  simp only [okS] at h
  split at h
  · refine PS.imp (ps_ret ((sndE Γ T N e).e hX h)) fun D σ H q => ?_
    obtain ⟨S, env, r, rep, e1, q⟩ := q
    simp only [evS] at e1
    obtain ⟨⟨rv, e2⟩, g1, e1⟩ := Option.map_eq_some_iff.mp e1
    cases e1
    exact ⟨S, env, rv, _, rep, g1, fun v S1 H1 p1 => q v S1 H1 σ (Sst.of p1.toPst) p1.res p1.new⟩
  · cases h
theorem snds_retN : SndS Γ T N .retN := by
  refine ⟨fun {sc k X st} L hX hp h => ?_⟩
  simp only [okS] at h
  split at h
  · refine PS.imp ps_retN fun D σ H q => ?_
    obtain ⟨S, env, r, rep, e1, q⟩ := q
    cases e1
    exact q _ S H σ (Sst.refl rep) ⟨.non, fun _ z => z.elim⟩ fun w e b z => by cases e; exact z.elim
  · cases h
theorem snds_brk : SndS Γ T N .brk := by
  refine ⟨fun {sc k X st} L hX hp h => ?_⟩
  simp only [okS] at h
  split at h
  · refine PS.imp ps_break fun D σ H q => ?_
    obtain ⟨S, env, r, rep, e1, q⟩ := q
    cases e1
    exact q S H σ (Sst.refl rep)
  · cases h
theorem snds_cnt : SndS Γ T N .cnt := by
  refine ⟨fun {sc k X st} L hX hp h => ?_⟩
  simp only [okS] at h
  split at h
  · refine PS.imp ps_continue fun D σ H q => ?_
    obtain ⟨S, env, r, rep, e1, q⟩ := q
    cases e1
    exact q S H σ (Sst.refl rep)
  · cases h
theorem snds_pass : SndS Γ T N .pass := by
  refine ⟨fun {sc k X st} L hX hp h => ?_⟩
  simp only [okS] at h
  split at h
  · refine PS.imp ps_pass fun D σ H q => ?_
    obtain ⟨S, env, r, rep, e1, q⟩ := q
    cases e1
    exact q S H σ (Sst.refl rep)
  · refine PS.imp ps_doc fun D σ H q => ?_
    obtain ⟨S, env, r, rep, e1, q⟩ := q
    cases e1
    exact q S H σ (Sst.refl rep)
  · cases h
theorem snds_ifs {c : ME} {a b : List MS} (ha : SndSs Γ T N a) (hb : SndSs Γ T N b) : SndS Γ T N (.ifs c a b) := by
  refine ⟨fun {sc k X st} L hX hp h => ?_⟩
  simp only [okS] at h
  split at h
  · simp only [Bool.and_eq_true] at h
    obtain ⟨⟨h1, h2⟩, h3⟩ := h
    refine PS.imp (ps_if ((sndE Γ T N c).t hX h1) (ha.s L hX hp h2) (hb.s L hX hp h3)) fun D σ H q => ?_
    obtain ⟨S, env, r, rep, e1, q⟩ := q
    simp only [evS] at e1
    obtain ⟨⟨d, e2⟩, g1, e1⟩ := Option.bind_eq_some_iff.mp e1
    refine ⟨S, env, d, e2, rep, g1, fun S1 H1 p1 => ?_⟩
    cases d with
    | true =>
      simp only [if_true] at e1 ⊢
      exact ⟨S1, e2, r, p1.rep, e1, q.after (Sst.of p1)⟩
    | false =>
      simp only [Bool.false_eq_true, if_false] at e1 ⊢
      exact ⟨S1, e2, r, p1.rep, e1, q.after (Sst.of p1)⟩
  · cases h
theorem whD_some {c : Env → Option (Bool × Env)} {b : Env → Option Res} {env : Env} {r : Res} (h : whD c b env = some r) : ∃ n, whN c b n env = some r := by
  unfold whD at h
  split at h
  · exact ⟨_, h⟩
  · cases h
theorem snds_whl {c : ME} {b : List MS} (hb : SndSs Γ T N b) : SndS Γ T N (.whl c b) := by
  refine ⟨fun {sc k X st} L hX hp h => ?_⟩
  simp only [okS] at h
  split at h
  · simp only [Bool.and_eq_true] at h
    refine PS.imp (ps_while hp ((sndE Γ T N c).t hX h.1) (hb.s L hX hp h.2)) fun D σ H q => ?_
    obtain ⟨S, env, r, rep, e1, q⟩ := q
    simp only [evS] at e1
    obtain ⟨n, hn⟩ := whD_some e1
    refine ⟨fun m σ' H' => ∃ S' env', Sst X.K S H σ env L S' H' σ' env' ∧ whN (evC Γ c) (evSs Γ L b) m env' = some r, ⟨n, S, env, Sst.refl rep, hn⟩, ?_⟩
    rintro m σ1 H1 ⟨S1, e2, a, hm⟩
    cases m with
    | zero => cases hm
    | succ m =>
      rw [whN] at hm
      obtain ⟨⟨d, e3⟩, g1, hm⟩ := Option.bind_eq_some_iff.mp hm
      refine ⟨S1, e2, d, e3, a.rep, g1, fun S2 H2 p2 => ?_⟩
      have a2 := a.trans (Sst.of p2)
      cases d with
      | true =>
        simp only [if_true] at hm ⊢
        obtain ⟨rb, g2, hm⟩ := Option.bind_eq_some_iff.mp hm
        refine ⟨fun σ' H' => ∃ m', m' < m + 1 ∧ ∃ S' env', Sst X.K S H σ env L S' H' σ' env' ∧ whN (evC Γ c) (evSs Γ L b) m' env' = some r, fun _ _ z => z, S2, e3, rb, a2.rep, g2, ?_⟩
        cases rb with
        | nx e4 => exact fun S3 H3 σ3 a3 => ⟨m, Nat.lt_succ_self m, S3, e4, a2.trans a3, hm⟩
        | ct e4 => exact fun S3 H3 σ3 a3 => ⟨m, Nat.lt_succ_self m, S3, e4, a2.trans a3, hm⟩
        | bk e4 =>
          cases hm
          exact fun S3 H3 σ3 a3 => q S3 H3 σ3 (a2.trans a3)
        | rt rv e4 =>
          cases hm
          exact q.after a2
      | false =>
        simp only [Bool.false_eq_true, if_false] at hm ⊢
        cases hm
        exact q S2 H2 σ1 a2
  · cases h
def tSsX (K : PySem.W.Frag) (Γ : Ctx) (m : List MS) : TS := fun D σ H => ∃ L, tSs K Γ L m D σ H
theorem snds_for {tg : Tg} {it : MI} {b : List MS} (hb : SndSs Γ T N b) : SndS Γ T N (.for_ tg it b) := by
  refine ⟨fun {sc k X st} L hX hp h => ?_⟩
  simp only [okS] at h
  split at h
  · rename_i t i body pos
    simp only [Bool.and_eq_true] at h
    obtain ⟨⟨⟨h1, h2⟩, h3⟩, h4⟩ := h
    have hB : PSs X body (tSsX X.K Γ b) := ⟨fun pins s σ H D I ⟨L', q⟩ => (hb.s L' hX hp h4).run pins s σ H D I q⟩
    refine PS.imp (ps_for hp hX.calm ((sndI Γ T N it).i hX h2) (pgx_ok hX tg t h1) hB (nofold h3)) fun D σ H q => ?_
    obtain ⟨S0, env0, r, rep, e1, q⟩ := q
    simp only [evS] at e1
    obtain ⟨⟨s, e2⟩, g1, e1⟩ := Option.bind_eq_some_iff.mp e1
    refine ⟨S0, env0, s, e2, rep, g1, fun J S1 H1 p1 hg it => ?_⟩
    have subL : ∀ j ∈ L, j ∈ s.lk ++ L := fun j hj => List.mem_append_right _ hj
    refine ⟨fun i m σ' H' => ∃ S' env', m = s.items.length - i ∧ i ≤ s.items.length ∧ Sst X.K S1 H1 σ e2 (s.lk ++ L) S' H' σ' env' ∧ forD (evSs Γ (s.lk ++ L) b) (bindT (s.lk ++ L) tg) s.g (s.items.drop i) env' = some r, ⟨s.items.length, S1, e2, by simp, Nat.zero_le _, Sst.refl p1.rep, by simpa using e1⟩, ?_⟩
    rintro i m σ2 H2 ⟨S2, e3, rfl, hi, a, hf⟩
    have at_ : gOk s.g e3 → At X.K σ s S1 S2 H2 σ2 e3 := fun hg => ⟨a.rep, a.step.st, hg, fun j hj => a.keep j (List.mem_append_left _ hj)⟩
    by_cases hlt : i < s.items.length
    · have hdrop : s.items.drop i = s.items[i] :: s.items.drop (i + 1) := List.drop_eq_getElem_cons hlt
      rw [hdrop, forD] at hf
      obtain ⟨hgo, hf⟩ := (Option.ite_none_right_eq_some ..).mp hf
      obtain ⟨ea, b1, hf⟩ := Option.bind_eq_some_iff.mp hf
      obtain ⟨rb, b2, hf⟩ := Option.bind_eq_some_iff.mp hf
      have hat := at_ hgo
      refine .inr ⟨it.go hat hlt, fun σ' H' => ∃ m', m' < s.items.length - i ∧ ∃ S' env', m' = s.items.length - (i + 1) ∧ i + 1 ≤ s.items.length ∧ Sst X.K S1 H1 σ e2 (s.lk ++ L) S' H' σ' env' ∧ forD (evSs Γ (s.lk ++ L) b) (bindT (s.lk ++ L) tg) s.g (s.items.drop (i + 1)) env' = some r, fun _ _ z => z, fun x H' hy => ?_⟩
      obtain ⟨dx, S', y1, y2, y3⟩ := it.yld hat hlt hy
      have edx : dx = s.items[i] := by rw [List.getElem?_eq_getElem hlt] at y1; exact (Option.some.inj y1).symm
      subst edx
      have ag := a.grow y2
      refine ⟨s.lk ++ L, S', e3, _, ea, ag.rep, y3, b1, fun σ3 tp => ?_⟩
      have a3 := ag.trans (Sst.tg tp)
      have a3L : Sst X.K S0 H σ env0 L S' H' σ3 ea := (Sst.of p1).trans (a3.sub_L subL)
      refine ⟨s.lk ++ L, S', ea, rb, tp.rep, b2, ?_⟩
      cases rb with
      | nx e4 => exact fun S4 H4 σ4 a4 => ⟨s.items.length - (i + 1), by omega, S4, e4, rfl, hlt, a3.trans a4, hf⟩
      | ct e4 => exact fun S4 H4 σ4 a4 => ⟨s.items.length - (i + 1), by omega, S4, e4, rfl, hlt, a3.trans a4, hf⟩
      | bk e4 =>
        cases hf
        exact fun S4 H4 σ4 a4 => q S4 H4 σ4 (a3L.trans (a4.sub_L subL))
      | rt rv e4 =>
        cases hf
        exact fun v S4 H4 σ4 a4 rr nn => (q.after a3L) v S4 H4 σ4 (a4.sub_L subL) rr nn
    · have e : s.items.drop i = [] := List.drop_eq_nil_of_le (by omega)
      rw [e, forD] at hf
      obtain ⟨hgo, hf⟩ := (Option.ite_none_right_eq_some ..).mp hf
      cases hf
      exact .inl ⟨it.stop (at_ hgo) (by omega), q S2 H2 σ2 ((Sst.of p1).trans (a.sub_L subL))⟩
  · cases h
theorem sndss_nil : SndSs Γ T N [] := by
  refine ⟨fun {sc k X sts} L hX hp h => ?_⟩
  simp only [okSs] at h
  split at h
  · refine PSs.imp pss_nil fun D σ H q => ?_
    obtain ⟨S, env, r, rep, e1, q⟩ := q
    cases e1
    exact q S H σ (Sst.refl rep)
  · cases h
theorem sndss_cons {m : MS} {ms : List MS} (h1 : SndS Γ T N m) (h2 : SndSs Γ T N ms) : SndSs Γ T N (m :: ms) := by
  refine ⟨fun {sc k X sts} L hX hp h => ?_⟩
  simp only [okSs] at h
  split at h
  · simp only [Bool.and_eq_true] at h
    refine PSs.imp (pss_cons (h1.s L hX hp h.1) (h2.s L hX hp h.2)) fun D σ H q => ?_
    obtain ⟨S, env, r, rep, e1, q⟩ := q
    simp only [evSs] at e1
    obtain ⟨r1, g1, e1⟩ := Option.bind_eq_some_iff.mp e1
    refine ⟨S, env, r1, rep, g1, ?_⟩
    cases r1 with
    | nx e2 => exact fun S1 H1 σ1 a => ⟨S1, e2, r, a.rep, e1, q.after a⟩
    | bk e2 => cases e1; exact q
    | ct e2 => cases e1; exact q
    | rt rv e2 => cases e1; exact q
  · cases h
end
mutual
theorem sndS (Γ : Ctx) (T : Tab) (N : List Str) : ∀ m : MS, SndS Γ T N m
  | .asg tg e => snds_asg
  | .par is es => snds_par
  | .seti i k v => snds_seti
  | .dput i k v => snds_dput
  | .swp i k1 k2 e1 e2 => snds_swp
  | .app i e => snds_app
  | .ext i e => snds_ext
  | .ifs c a b => snds_ifs (sndSs Γ T N a) (sndSs Γ T N b)
  | .whl c b => snds_whl (sndSs Γ T N b)
  | .for_ tg it b => snds_for (sndSs Γ T N b)
  | .ret e => snds_ret
  | .ex e => snds_ex
  | .retN => snds_retN
  | .brk => snds_brk
  | .cnt => snds_cnt
  | .pass => snds_pass
theorem sndSs (Γ : Ctx) (T : Tab) (N : List Str) : ∀ ms : List MS, SndSs Γ T N ms
  | [] => sndss_nil
  | m :: ms => sndss_cons (sndS Γ T N m) (sndSs Γ T N ms)
end
end Ev

namespace Ev
open PySem L2
section
variable {K : PySem.W.Frag} {S S' S1 S2 H H' H1 H2 S0 H0 : Hp} {σ σ' σ0 σ1 σ2 : St} {env env' env0 env1 env2 : Env} {L : List Nat}
theorem rd_start {ws : List Val} {m j : Nat} : rd (ws.map some ++ List.replicate m none) j = ws[j]? := by
  unfold rd
  by_cases h : j < ws.length
  · rw [List.getElem?_append_left (by simpa using h), List.getElem?_map]
    cases ws[j]? <;> rfl
  · rw [List.getElem?_append_right (by simpa using h), List.getElem?_replicate, List.getElem?_eq_none (l := ws) (by omega)]
    split <;> rfl
theorem slotV_start {vs : List V} {m j : Nat} : slotV (vs.map some ++ List.replicate m none) j = vs[j]? := by
  unfold slotV
  by_cases h : j < vs.length
  · rw [List.getElem?_append_left (by simpa using h), List.getElem?_map]
    cases vs[j]? <;> rfl
  · rw [List.getElem?_append_right (by simpa using h), List.getElem?_replicate, List.getElem?_eq_none (l := vs) (by omega)]
    split <;> rfl
theorem rep_start {vs : List V} {ws : List Val} {m : Nat} (e : RepEnv K S H (vs.map some) (ws.map some)) : RepEnv K S H (vs.map some ++ List.replicate m none) (ws.map some ++ List.replicate m none) := by
  refine ⟨e.same, by have := e.len; simp at this ⊢; omega, fun i w h => ?_, fun i j w w' v v' b ne h1 h2 h3 h4 => ?_⟩
  · rw [rd_start] at h
    rw [slotV_start]
    have := e.get i w (by rw [rd_map]; exact h)
    rwa [slotV_map] at this
  · rw [rd_start] at h1 h3
    rw [slotV_start] at h2 h4
    exact e.dis i j w w' v v' b ne (by rw [rd_map]; exact h1) (by rw [slotV_map]; exact h2) (by rw [rd_map]; exact h3) (by rw [slotV_map]; exact h4)
theorem roots_start {vs : List V} {ws : List Val} {m : Nat} {b : Addr} : Roots H (vs.map some ++ List.replicate m none) (ws.map some ++ List.replicate m none) b ↔ Roots H (vs.map some) (ws.map some) b := by
  unfold Roots
  constructor
  · rintro ⟨i, w, v, h1, h2, h3⟩
    exact ⟨i, w, v, by rw [rd_map, ← rd_start (m := m)]; exact h1, by rw [slotV_map, ← slotV_start (m := m)]; exact h2, h3⟩
  · rintro ⟨i, w, v, h1, h2, h3⟩
    exact ⟨i, w, v, by rw [rd_start, ← rd_map]; exact h1, by rw [slotV_start, ← slotV_map]; exact h2, h3⟩
theorem outs_len {io : List Nat} : ∀ {ws us : List Val} {p : Nat}, outs io env p ws = some us → us.length = ws.length
  | [], us, p, e => by cases e; rfl
  | w :: ws, us, p, e => by
    simp only [outs] at e
    obtain ⟨u, _, e⟩ := Option.bind_eq_some_iff.mp e
    obtain ⟨us', g, e⟩ := Option.map_eq_some_iff.mp e
    cases e
    simp [outs_len g]
theorem outs_get {io : List Nat} : ∀ {ws us : List Val} {p j : Nat} {u : Val}, outs io env p ws = some us → us[j]? = some u →
    (p + j ∈ io ∧ rd env (p + j) = some u ∧ (∀ x, u ≠ .d x) ∧ ∀ x, u ≠ .scr x) ∨ (p + j ∉ io ∧ ws[j]? = some u ∧ ((∃ x, u = .d x) ∨ ∃ x, u = .scr x))
  | [], us, p, j, u, e, h => by cases e; simp at h
  | w :: ws, us, p, j, u, e, h => by
    simp only [outs] at e
    obtain ⟨u0, g0, e⟩ := Option.bind_eq_some_iff.mp e
    obtain ⟨us', g, e⟩ := Option.map_eq_some_iff.mp e
    cases e
    cases j with
    | zero =>
      simp at h
      subst h
      split at g0
      · rename_i hp
        obtain ⟨u1, q1, q2⟩ := Option.bind_eq_some_iff.mp g0
        refine .inl ⟨hp, ?_⟩
        split at q2
        · cases q2
        · cases q2
        · rename_i n1 n2
          cases q2
          exact ⟨q1, fun x z => n1 x z, fun x z => n2 x z⟩
      · rename_i hp
        refine .inr ⟨hp, ?_⟩
        split at g0
        · cases g0; exact ⟨rfl, .inl ⟨_, rfl⟩⟩
        · cases g0; exact ⟨rfl, .inr ⟨_, rfl⟩⟩
        · cases g0
    | succ j =>
      have := outs_get (j := j) g (by simpa using h)
      rw [show p + 1 + j = p + (j + 1) by omega] at this
      simpa using this
theorem noRoot {v : V} {u : Val} {b : Addr} (h : (∃ x, u = .d x) ∨ ∃ x, u = .scr x) : ¬ Root H v u b := by
  rcases h with ⟨x, rfl⟩ | ⟨x, rfl⟩ <;> exact id
theorem outs_ok {io : List Nat} {vs : List V} {ws us : List Val} {m : Nat} {R : Addr → Prop} (e0 : RepEnv K S H (vs.map some) (ws.map some)) (st : Step R S H S' H') (e : RepEnv K S' H' σ' env')
    (keep : ∀ j ∈ io, slotV σ' j = slotV (vs.map some ++ List.replicate m none) j) (o : outs io env' 0 ws = some us) :
    RepEnv K S' H' (vs.map some) (us.map some) ∧ (∀ b, Roots H' (vs.map some) (us.map some) b → Roots H' σ' env' b) := by
  have key : ∀ i u, us[i]? = some u → ((∃ x, u = .d x) ∨ ∃ x, u = .scr x) ∧ ws[i]? = some u ∨ (i ∈ io ∧ rd env' i = some u ∧ slotV σ' i = vs[i]?) := fun i u h => by
    rcases outs_get o h with ⟨q1, q2, _⟩ | ⟨q1, q2, q3⟩
    · rw [Nat.zero_add] at q1 q2
      exact .inr ⟨q1, q2, by rw [keep i q1, slotV_start]⟩
    · exact .inl ⟨q3, q2⟩
  refine ⟨⟨st.same, by have := e0.len; have := outs_len o; simp at *; omega, fun i w h => ?_, fun i j w w' v v' b ne h1 h2 h3 h4 r1 r2 => ?_⟩, fun b ⟨i, w, v, h1, h2, h3⟩ => ?_⟩
  · rw [rd_map] at h
    rw [slotV_map]
    rcases key i w h with ⟨q1, q2⟩ | ⟨q1, q2, q3⟩
    · obtain ⟨v, k1, k2⟩ := e0.get i w (by rw [rd_map]; exact q2)
      exact ⟨v, by rw [← slotV_map]; exact k1, repV_step k2 st.st fun c hc => absurd hc (noRoot q1)⟩
    · obtain ⟨v, k1, k2⟩ := e.get i w q2
      exact ⟨v, by rw [← q3]; exact k1, k2⟩
  · rw [rd_map] at h1 h3
    rw [slotV_map] at h2 h4
    rcases key i w h1 with ⟨q1, _⟩ | ⟨q1, q2, q3⟩
    · exact noRoot q1 r1
    · rcases key j w' h3 with ⟨z1, _⟩ | ⟨z1, z2, z3⟩
      · exact noRoot z1 r2
      · exact e.dis i j w w' v v' b ne q2 (by rw [q3]; exact h2) z2 (by rw [z3]; exact h4) r1 r2
  · rw [rd_map] at h1
    rw [slotV_map] at h2
    rcases key i w h1 with ⟨q1, _⟩ | ⟨q1, q2, q3⟩
    · exact absurd h3 (noRoot q1)
    · exact ⟨i, w, v, q2, by rw [q3]; exact h2, h3⟩
theorem io_root {io : List Nat} {vs : List V} {ws us : List Val} {m : Nat} {i : Nat} {w : Val} {v : V} {b : Addr} (e0 : RepEnv K S H (vs.map some) (ws.map some)) (e : RepEnv K S' H' σ' env')
    (keep : ∀ j ∈ io, slotV σ' j = slotV (vs.map some ++ List.replicate m none) j) (o : outs io env' 0 ws = some us) (hns : ws.any isSt = false) (hi : i ∉ io) (h1 : rd env' i = some w) (h2 : slotV σ' i = some v) (h3 : Root H' v w b) : ¬ Roots H (vs.map some) (ws.map some) b := by
  rintro ⟨j, w0, v0, g1, g2, g3⟩
  rw [rd_map] at g1
  rw [slotV_map] at g2
  have hj : j < us.length := by rw [outs_len o]; exact (List.getElem?_eq_some_iff.mp g1).1
  have hsj : isSt w0 = false := by
    rw [List.any_eq_false] at hns
    simpa using hns w0 (List.mem_of_getElem? g1)
  rcases outs_get o (List.getElem?_eq_getElem hj) with ⟨q1, q2, q4⟩ | ⟨q1, q2, q3⟩
  · rw [Nat.zero_add] at q1 q2
    have hv : slotV σ' j = some v0 := by rw [keep j q1, slotV_start]; exact g2
    have hb : v0 = .ref b := by
      cases w0 with
      | d _ => exact g3.elim
      | scr _ => exact g3.elim
      | own _ => exact g3
      | dk _ => exact g3
      | st _ _ => simp [isSt] at hsj
    have hr : Root H' v0 us[j] b := by
      obtain ⟨v', k1, k2⟩ := e.get j _ q2
      rw [hv] at k1; cases k1
      cases hu : us[j] with
      | d x => exact absurd hu (q4.1 x)
      | scr x => exact absurd hu (q4.2 x)
      | own _ => exact hb
      | dk _ => exact hb
      | st _ _ => exact .inl hb
    exact e.dis i j w _ v v0 b (fun z => hi (z ▸ q1)) h1 h2 q2 hv h3 hr
  · rw [q2] at g1; cases g1
    exact noRoot q3 g3
end
end Ev

namespace Ev
open PySem L2
section
variable {P : Program} {w : World} {K : PySem.W.Frag} {mg : Str → Option Value} {base : Heap} {TT : List Fd} {G : List D} {T : Tab} {N ps : List Str} {k : Nat}
/-- what the text's names stand for -/
structure Names (P : Program) (w : World) (K : PySem.W.Frag) (mg : Str → Option Value) (base : Heap) (TT : List Fd) (G : List D) (T : Tab) (k : Nat) : Prop where
  fn : ∀ (f : Nat) (x : Str), T.fns[f]? = some x → ∃ fa fd ps, mg x = some (.ref fa) ∧ PySem.W.keepIn K (.ref fa) = true ∧ Binds K fd ps [] ∧ FnOk P w K mg base CX0 k fa fd ps (spC K (callT TT G k f))
  gl : GlOk K mg T.gls G
  bl : ∀ x ∈ T.bl, mg x = none
theorem endF_ok {S H : Hp} {io : List Nat} {vs : List V} {ws ws' : List Val} {m : Nat} {r : Res} {v0 : Val} {Q : VK}
    (e0 : RepEnv K S H (vs.map some) (ws.map some)) (er : endF io ws r = some (v0, ws'))
    (q : ∀ v S' H', Step (Roots H (vs.map some) (ws.map some)) S H S' H' → RepEnv K S' H' (vs.map some) (ws'.map some) → (∀ b, Roots H' (vs.map some) (ws'.map some) b → Roots H (vs.map some) (ws.map some) b ∨ H b = none) →
      RepV K S' H' v v0 → (∀ b, Root H' v v0 b → H b = none ∧ ¬ Roots H' (vs.map some) (ws'.map some) b) → Q v H') : 
    SPost K S H (vs.map some ++ List.replicate m none) (ws.map some ++ List.replicate m none) io { nx := fun _ H' => Q .non H', rt := Q } r := by
  have conv : ∀ {S' H' : Hp} {σ' : St} {env' : Env} {us : List Val}, Sst K S H (vs.map some ++ List.replicate m none) (ws.map some ++ List.replicate m none) io S' H' σ' env' → outs io env' 0 ws = some us →
      Step (Roots H (vs.map some) (ws.map some)) S H S' H' ∧ RepEnv K S' H' (vs.map some) (us.map some) ∧ (∀ b, Roots H' (vs.map some) (us.map some) b → Roots H' σ' env' b) ∧ (∀ b, Roots H' σ' env' b → Roots H (vs.map some) (ws.map some) b ∨ H b = none) := fun {S' H' σ' env' us} a o => by
    have st : Step (Roots H (vs.map some) (ws.map some)) S H S' H' := a.step.mono fun b => roots_start.mp
    obtain ⟨k1, k2⟩ := outs_ok e0 st a.rep a.keep o
    exact ⟨st, k1, k2, fun b hb => (a.sub b hb).imp roots_start.mp id⟩
  cases r with
  | nx e =>
    obtain ⟨us, g1, g2⟩ := Option.map_eq_some_iff.mp (show (outs io e 0 ws).map (fun us => ((.d .none : Val), us)) = some _ from er)
    cases g2
    intro S' H' σ' a
    obtain ⟨st, k1, k2, k3⟩ := conv a g1
    exact q .non S' H' st k1 (fun b hb => k3 b (k2 b hb)) .non fun b z => z.elim
  | bk e => cases er
  | ct e => cases er
  | rt rv e =>
    cases rv with
    | v u =>
      obtain ⟨us, g1, g2⟩ := Option.map_eq_some_iff.mp (show (outs io e 0 ws).map (fun us => (u, us)) = some _ from er)
      cases g2
      intro v S' H' σ' a rr nn
      obtain ⟨st, k1, k2, k3⟩ := conv a g1
      exact q v S' H' st k1 (fun b hb => k3 b (k2 b hb)) rr.1 fun b hb => ⟨nn _ rfl b hb, fun z => rr.2 b hb (k2 b z)⟩
    | ali i =>
      have er : (if i ∈ io then none else if ws.any isSt then (fz e (.ali i)).bind fun (x, e) => (outs io e 0 ws).map fun us => ((.d x : Val), us)
        else (rd e i).bind fun w => (outs io e 0 ws).map fun us => (w, us)) = some (v0, ws') := er
      obtain ⟨hi, er⟩ := (Option.ite_none_left_eq_some ..).mp er
      intro v S' H' σ' a rr nn
      split at er
      · obtain ⟨⟨x, e2⟩, g1, er⟩ := Option.bind_eq_some_iff.mp er
        obtain ⟨us, g2, er⟩ := Option.map_eq_some_iff.mp er
        cases er
        obtain ⟨S2, p2, r2, _⟩ := fz_ok (psv_refl a.rep rr fun w z => nomatch z) g1
        obtain ⟨st, k1, k2, k3⟩ := conv (a.trans (Sst.of p2)) g2
        exact q v S2 H' st k1 (fun b hb => k3 b (k2 b hb)) r2 fun b z => z.elim
      · rename_i hst
        obtain ⟨u, g1, er⟩ := Option.bind_eq_some_iff.mp er
        obtain ⟨us, g2, er⟩ := Option.map_eq_some_iff.mp er
        cases er
        obtain ⟨st, k1, k2, k3⟩ := conv a g2
        have hv : slotV σ' i = some v := rr
        obtain ⟨v', q1, q2⟩ := a.rep.get i _ g1
        rw [hv] at q1; cases q1
        refine q v S' H' st k1 (fun b hb => k3 b (k2 b hb)) q2 fun b hb => ?_
        have nr := io_root e0 a.rep a.keep g2 (by simpa using hst) hi g1 hv hb
        refine ⟨(k3 b ⟨i, _, v, g1, hv, hb⟩).resolve_left nr, fun z => ?_⟩
        obtain ⟨j, w1, x1, z1, z2, z3⟩ := z
        rw [rd_map] at z1
        rw [slotV_map] at z2
        rcases outs_get g2 z1 with ⟨y1, y2, _⟩ | ⟨_, _, y⟩
        · rw [Nat.zero_add] at y1 y2
          exact a.rep.dis i j _ _ v x1 b (fun z => hi (z ▸ y1)) g1 hv y2 (by rw [a.keep j y1, slotV_start]; exact z2) hb z3
        · exact noRoot y z3
end
end Ev

namespace Ev
open PySem L2
section
variable {P : Program} {w : World} {K : PySem.W.Frag} {mg : Str → Option Value} {base : Heap} {TT : List Fd} {G : List D} {T : Tab} {N ps : List Str} {k : Nat}
theorem callT_len {io : List Nat} {np ns : Nat} {body : List MS} {i : Nat} {ws : List Val} {r : Val × List Val} (hT : TT[i]? = some (.py np ns io body)) (h : callT TT G (k + 1) i ws = some r) :
    ws.length = np ∧ np ≤ ns ∧ (evSs ⟨callT TT G k, ioT TT, G⟩ io body (ws.map some ++ List.replicate (ns - np) none)).bind (endF io ws) = some r := by
  have h : (match TT[i]? with
    | some (.py np ns io body) => if ws.length = np ∧ np ≤ ns then (evSs ⟨callT TT G k, ioT TT, G⟩ io body (ws.map some ++ List.replicate (ns - np) none)).bind (endF io ws) else none
    | some (.pr _ g) => g ws
    | none => none) = some r := h
  rw [hT] at h
  obtain ⟨h1, h2⟩ := (Option.ite_none_right_eq_some ..).mp h
  exact ⟨h1.1, h1.2, h2⟩
theorem loc_of {sc : Scope} {x : Str} (h : locB sc x = true) : Loc sc x := locB_p h
theorem xok_of {qual : Str} {st : Stmt} {f : Addr} {cdv : Value} {A : Around} {outer : List PySem.Env} {s : Shared} {H : Hp} {E : XK} (hgd : T.rp = true → A.guards = some []) (NM : Names P w K mg base TT G T k) (hn : N.Nodup)
    (hr : Room k (A.deeper (PyProof.Rows.envOfC qual (defScope st) s.heap.objs.size f cdv))) :
    XOk ⟨callT TT G k, ioT TT, G⟩ T N (defScope st) (defScope st) k (cxOf CX0 P w K mg base N qual (defScope st) f cdv A outer s H E).nox :=
  ⟨rfl, rfl, rfl, hn, hr, fun x hx => ⟨loc_of hx, .inl rfl⟩, NM.fn, NM.gl, NM.bl, hgd⟩
theorem fn_ev {x qual : Str} {st : Stmt} {f : Addr} {fd : FuncData} {io : List Nat} {body : List MS} {i : Nat} (F : Fun K x qual st f fd) (Sc : FnScope N ps (defScope st))
    (hT : TT[i]? = some (.py ps.length N.length io body)) (hrp : T.rp = false) (ok : okSs T N (defScope st) body (defBody st) = true) (NM : Names P w K mg base TT G T k) :
    FnOk P w K mg base CX0 (k + 1) f fd ps (spC K (callT TT G (k + 1) i)) := by
  refine F.ok Sc (fun vs H Q E h => ?_) (fun cdv A outer s H vs Q E hr h => ?_)
  · obtain ⟨S, ws, w0, ws', e0, e1, _⟩ := h
    have := e0.len
    simp only [List.length_map] at this
    rw [this]
    exact (callT_len hT e1).1
  · obtain ⟨S, ws, w0, ws', e0, e1, q⟩ := h
    obtain ⟨h1, h2, e1⟩ := callT_len hT e1
    obtain ⟨r, g1, g2⟩ := Option.bind_eq_some_iff.mp e1
    have hl := e0.len
    simp only [List.length_map] at hl
    have e : L2.start N vs = vs.map some ++ List.replicate (N.length - ps.length) none := by
      unfold L2.start
      rw [hl, h1]
    refine ⟨_, (sndSs ⟨callT TT G k, ioT TT, G⟩ T N body).s io (xok_of (fun z => by rw [hrp] at z; cases z) NM Sc.nd hr) PySem.PassesOwn.never ok, S, _, r, ?_, g1, ?_⟩
    · rw [e]
      exact rep_start e0
    · rw [e]
      exact endF_ok e0 g2 q
end
end Ev

namespace Ev
open PySem L2
section
variable {K : PySem.W.Frag} {S S' H H' : Hp}
/-- the state of the draws, and a number -/
theorem st_args {vs : List V} {i m : Int} {cs : List Int} (e0 : RepEnv K S H (vs.map some) ([.st i cs, .d (.int m)].map some)) :
    ∃ a c, vs = [.ref a, .int m] ∧ S a = none ∧ S c = none ∧ H a = some (.lst [.int i, .ref c]) ∧ H c = some (.lst (cs.map V.int)) ∧ a ≠ c := by
  have hl := e0.len
  simp only [List.length_map, List.length_cons, List.length_nil] at hl
  obtain ⟨v0, v1, rfl⟩ : ∃ v0 v1, vs = [v0, v1] := by
    match vs, hl with
    | [v0, v1], _ => exact ⟨v0, v1, rfl⟩
  obtain ⟨x0, g0, a, c, rfl, h1, h2, h3, h4⟩ := e0.get 0 (.st i cs) rfl
  obtain ⟨x1, g1, r1⟩ := e0.get 1 (.d (.int m)) rfl
  have g0 : some v0 = some (V.ref a) := g0
  have g1 : some v1 = some x1 := g1
  cases g0
  cases g1
  cases (show Rp K S v1 (.int m) from r1)
  refine ⟨a, c, rfl, h1, h2, h3, h4, fun z => ?_⟩
  subst z
  rw [h3] at h4
  injection h4 with h4
  injection h4 with h4
  match cs, h4 with
  | [_, _], h4 => simp at h4
theorem st_back {a c : Addr} {i i' m : Int} {cs cs' : List Int} (e0 : RepEnv K S H ([V.ref a, .int m].map some) ([.st i cs, .d (.int m)].map some)) (ha : S a = none) (hc : S c = none) (h1 : H a = some (.lst [.int i, .ref c])) (h2 : H c = some (.lst (cs.map V.int)))
    (k1 : H' a = some (.lst [.int i', .ref c])) (k2 : H' c = some (.lst (cs'.map V.int))) (ko : ∀ b, b ≠ a → b ≠ c → H' b = H b) :
    Step (Roots H ([V.ref a, .int m].map some) ([.st i cs, .d (.int m)].map some)) S H S H' ∧ RepEnv K S H' ([V.ref a, .int m].map some) ([.st i' cs', .d (.int m)].map some) ∧
      ∀ b, Roots H' ([V.ref a, .int m].map some) ([.st i' cs', .d (.int m)].map some) b → Roots H ([V.ref a, .int m].map some) ([.st i cs, .d (.int m)].map some) b ∨ H b = none := by
  have ra : Roots H ([V.ref a, .int m].map some) ([.st i cs, .d (.int m)].map some) a := ⟨0, .st i cs, .ref a, rfl, rfl, .inl rfl⟩
  have rc : Roots H ([V.ref a, .int m].map some) ([.st i cs, .d (.int m)].map some) c := ⟨0, .st i cs, .ref a, rfl, rfl, .inr ⟨a, _, rfl, h1⟩⟩
  have sm : Same S H' := fun b o e => by
    rw [ko b (fun z => by rw [z, ha] at e; cases e) (fun z => by rw [z, hc] at e; cases e)]
    exact e0.same b o e
  refine ⟨⟨Same.refl S, sm, fun b o e n => ?_, fun b e => .inl e, fun b e => ?_⟩, ⟨sm, rfl, fun j w e => ?_, fun j j' w w' v v' b ne e1 e2 e3 e4 r1 r2 => ?_⟩, fun b hb => ?_⟩
  · rw [ko b (fun z => n (z ▸ ra)) (fun z => n (z ▸ rc))]
    exact e
  · by_cases z : b = a
    · rw [z, k1]; simp
    · by_cases z2 : b = c
      · rw [z2, k2]; simp
      · rw [ko b z z2]; exact e
  · match j, e with
    | 0, e =>
      have e : some (Val.st i' cs') = some w := e
      cases e
      exact ⟨.ref a, rfl, a, c, rfl, ha, hc, k1, k2⟩
    | 1, e =>
      have e : some (Val.d (.int m)) = some w := e
      cases e
      exact ⟨.int m, rfl, .int m⟩
    | j + 2, e =>
      have e : none = some w := e
      cases e
  · match j, j', e1, e3 with
    | 0, 0, _, _ => exact ne rfl
    | 1, _, e1, _ =>
      have e : some (Val.d (.int m)) = some w := e1
      cases e; exact r1
    | 0, 1, _, e3 =>
      have e : some (Val.d (.int m)) = some w' := e3
      cases e; exact r2
    | 0, j + 2, _, e3 =>
      have e : none = some w' := e3
      cases e
    | j + 2, _, e1, _ =>
      have e : none = some w := e1
      cases e
  · obtain ⟨j, w, v, e1, e2, e3⟩ := hb
    match j, e1, e2 with
    | 0, e1, e2 =>
      have e : some (Val.st i' cs') = some w := e1
      cases e
      have e : some (V.ref a) = some v := e2
      cases e
      rcases e3 with z | ⟨a', x, z1, z2⟩
      · cases z; exact .inl ra
      · cases z1
        rw [k1] at z2
        cases z2
        exact .inl rc
    | 1, e1, _ =>
      have e : some (Val.d (.int m)) = some w := e1
      cases e; exact e3.elim
    | j + 2, e1, _ =>
      have e : none = some w := e1
      cases e
end
end Ev

namespace Ev
open PySem L2
section
variable {P : Program} {w : World} {K : PySem.W.Frag} {mg : Str → Option Value} {base : Heap} {TT : List Fd} {G : List D} {T : Tab} {N ps : List Str} {k : Nat}
/-- a def as the top has written it -/
def DefAt (K : PySem.W.Frag) (mg : Str → Option Value) (x : Str) (st : Stmt) : Prop := ∃ f fd, mg x = some (.ref f) ∧ PySem.W.keepIn K (.ref f) = true ∧ Fun K x x st f fd
theorem def_at {h : Heap} (X : K.In h) (Gn : h.Ns mainGlobals mg) {x : Str} {st : Stmt} {f : Addr} {oc kV doc pm cdv ct : Value} {od an : Option Addr} {osl : Array (Option Value)} (a : PySem.W.nsIn K mainGlobals x = some (some (.ref f)))
    (l : K.lookup f = some ⟨oc, od, .func (PySem.W.fnOf x x (defArgs st) (defBody st) (defScope st) .none kV doc pm an cdv ct), osl⟩) (c : PySem.W.codeIn K cdv x = true) (kp : PySem.W.keepIn K (.ref f) = true) : DefAt K mg x st :=
  ⟨f, _, PySem.W.mg_of X Gn a, kp, fun_mk l c kp⟩
def DefOk (P : Program) (w : World) (K : PySem.W.Frag) (mg : Str → Option Value) (base : Heap) (TT : List Fd) (G : List D) (T : Tab) (f : Nat) (x : Str) : Prop :=
  ∃ fa fd ps, mg x = some (.ref fa) ∧ PySem.W.keepIn K (.ref fa) = true ∧ Binds K fd ps [] ∧ ∀ k, Names P w K mg base TT G T k → FnOk P w K mg base CX0 (k + 1) fa fd ps (spC K (callT TT G (k + 1) f))
theorem defOk_py {x : Str} {st : Stmt} {io : List Nat} {body : List MS} {i : Nat} (d : DefAt K mg x st) (b : ∀ f fd, Fun K x x st f fd → Binds K fd ps []) (Sc : FnScope N ps (defScope st)) (hT : TT[i]? = some (.py ps.length N.length io body))
    (hrp : T.rp = false) (ok : okSs T N (defScope st) body (defBody st) = true) : DefOk P w K mg base TT G T i x := by
  obtain ⟨f, fd, h1, h2, h3⟩ := d
  exact ⟨f, fd, ps, h1, h2, b f fd h3, fun k NM => fn_ev h3 Sc hT hrp ok NM⟩
theorem defOk_pr {x : Str} {st : Stmt} {io : List Nat} {g : List Val → Option (Val × List Val)} {i : Nat} (d : DefAt K mg x st) (b : ∀ f fd, Fun K x x st f fd → Binds K fd ps []) (hT : TT[i]? = some (.pr io g))
    (ok : ∀ f fd, Fun K x x st f fd → FnOk P w K mg base CX0 1 f fd ps (spC K g)) : DefOk P w K mg base TT G T i x := by
  obtain ⟨f, fd, h1, h2, h3⟩ := d
  refine ⟨f, fd, ps, h1, h2, b f fd h3, fun k NM => ?_⟩
  have e : callT TT G (k + 1) i = g := by
    funext ws
    show (match TT[i]? with
      | some (.py np ns io body) => if ws.length = np ∧ np ≤ ns then (evSs ⟨callT TT G k, ioT TT, G⟩ io body (ws.map some ++ List.replicate (ns - np) none)).bind (endF io ws) else none
      | some (.pr _ g) => g ws
      | none => none) = g ws
    rw [hT]
  rw [e]
  exact (ok f fd h3).mono (by omega)
def DefsOk (P : Program) (w : World) (K : PySem.W.Frag) (mg : Str → Option Value) (base : Heap) (TT : List Fd) (G : List D) (T : Tab) : Nat → List Str → Prop
  | _, [] => True
  | i, x :: xs => DefOk P w K mg base TT G T i x ∧ DefsOk P w K mg base TT G T (i + 1) xs
theorem defs_get {xs : List Str} {j f : Nat} {x : Str} (h : DefsOk P w K mg base TT G T j xs) (e : xs[f]? = some x) : DefOk P w K mg base TT G T (j + f) x := by
  induction xs generalizing j f with
  | nil => simp at e
  | cons y ys ih =>
    cases f with
    | zero =>
      simp at e
      subst e
      exact h.1
    | succ f =>
      have := ih h.2 (show ys[f]? = some x by simpa using e)
      rw [show j + 1 + f = j + (f + 1) by omega] at this
      exact this
theorem names_ok (hd : DefsOk P w K mg base TT G T 0 T.fns) (gl : GlOk K mg T.gls G) (bl : ∀ x ∈ T.bl, mg x = none) :
    ∀ k, Names P w K mg base TT G T k
  | 0 => ⟨fun f x e => by
      have := defs_get hd e
      rw [Nat.zero_add] at this
      obtain ⟨fa, fd, ps, h1, h2, h3, _⟩ := this
      refine ⟨fa, fd, ps, h1, h2, h3, ⟨fun vs H Q E h => ?_, fun A outer s H args us vs Q E hr e0 hb r h => ?_⟩⟩
      · obtain ⟨S, ws, w0, ws', _, z, _⟩ := h
        exact absurd (show (none : Option (Val × List Val)) = some _ from z) (by simp)
      · obtain ⟨S, ws, w0, ws', _, z, _⟩ := h
        exact absurd (show (none : Option (Val × List Val)) = some _ from z) (by simp), gl, bl⟩
  | k + 1 => ⟨fun f x e => by
      have := defs_get hd e
      rw [Nat.zero_add] at this
      obtain ⟨fa, fd, ps, h1, h2, h3, h4⟩ := this
      exact ⟨fa, fd, ps, h1, h2, h3, h4 k (names_ok hd gl bl k)⟩, gl, bl⟩
/-- one constant of the module -/
def Gl1 (K : PySem.W.Frag) (mg : Str → Option Value) (x : Str) (d : D) : Prop := ∃ u v, mg x = some u ∧ RelV v u ∧ (∀ S, Rp K S v d) ∧ ∀ p o, v = .ref p → K.lookup p = some o → o.dict = none
theorem gl_nil {K : PySem.W.Frag} {mg : Str → Option Value} : GlOk K mg [] [] := fun j x d e => by simp at e
theorem gl_cons {K : PySem.W.Frag} {mg : Str → Option Value} {x : Str} {d : D} {xs : List Str} {ds : List D} (h : Gl1 K mg x d) (t : GlOk K mg xs ds) : GlOk K mg (x :: xs) (d :: ds) := fun j y e h1 h2 => by
  cases j with
  | zero =>
    simp only [List.getElem?_cons_zero, Option.some.injEq] at h1 h2
    subst h1; subst h2
    exact h
  | succ j => exact t j y e (by simpa using h1) (by simpa using h2)
theorem gl_int {K : PySem.W.Frag} {mg : Str → Option Value} {x : Str} {i : Int} {t : Tok} (h : mg x = some (.int i t)) : Gl1 K mg x (.int i) :=
  ⟨_, .int i, h, ⟨t, rfl⟩, fun S => .int i, fun p o e => nomatch e⟩
theorem rps_strs {K : PySem.W.Frag} {S : Hp} : ∀ ys : List Str, Rps K S (ys.map V.str) (ys.map PyData.str)
  | [] => .nil
  | y :: r => .cons (.str y) (rps_strs r)
theorem gl_tupS {K : PySem.W.Frag} {mg : Str → Option Value} {x : Str} (ys : List Str) {p : Addr} {us : Array Value} {n : Nat} {sl : Array (Option Value)} (h : mg x = some (.ref p))
    (l : K.lookup p = some ⟨.type "tuple", none, .seq us n, sl⟩) (hz : us.size ≤ sizeLine) (hv : Vals (ys.map V.str) us.toList) : Gl1 K mg x (.tuple (ys.map PyData.str)) :=
  ⟨_, .ref p, h, rfl, fun S => .tup (.inr ⟨_, us, n, l, rfl, rfl, hz, hv⟩) (rps_strs ys), fun q o e k => by cases e; rw [l] at k; cases k; rfl⟩
/-- the law's own promise -/
theorem law_sp {H : Hp} {a : Addr} {ns : List Int} {g : List Val → Option (Val × List Val)} {ws : List Val} {E : XK} (hO : Only H) (hS : SqL K H a (ns.map V.int)) (h : g [.scr ns] = some (.d (.bool true), ws)) : spC K g [.ref a] H (fun v _ => v = .bl true) E := by
  refine ⟨H, [.scr ns], _, _, ⟨Same.refl H, rfl, fun i w e => ?_, fun i j w w' v v' b ne e1 e2 e3 e4 r1 r2 => ?_⟩, h, fun v S' H' _ _ _ r _ => ?_⟩
  · match i, e with
    | 0, e =>
      have e : some (Val.scr ns) = some w := e
      cases e
      refine ⟨.ref a, rfl, a, rfl, ?_⟩
      rcases hS with (z | z) | z
      · rcases hO a with y | ⟨o, xs, y⟩
        · rw [z] at y; cases y
        · rw [z] at y; cases y
      · exact .inl z
      · exact .inr z
    | i + 1, e =>
      have e : none = some w := e
      cases e
  · match i, e1 with
    | 0, e =>
      have e : some (Val.scr ns) = some w := e
      cases e
      exact r1
    | i + 1, e =>
      have e : none = some w := e
      cases e
  · cases (show Rp K S' v (.bool true) from r)
    rfl
/-- one call of a def, from where nothing is being shown: the body's walk at this caller alone -/
theorem fn_here {A : Around} {outer : List PySem.Env} {qual x : Str} {st : Stmt} {f : Addr} {fd : FuncData} {s : Shared} {H : Hp} {args : Args} {us : List Value} {vs : List V} {Q : VK} {E : XK}
    (F : Fun K x qual st f fd) (Sc : FnScope N ps (defScope st)) (hl : vs.length = ps.length)
    (walk : ∀ cdv : Value, Room k (A.deeper (PyProof.Rows.envOfC qual (defScope st) s.heap.objs.size f cdv)) → ∃ t, PSs (cxOf CX0 P w K mg base N qual (defScope st) f cdv A outer s H E).nox (defBody st) t ∧ t { nx := fun _ H' => Q .non H', rt := Q } (L2.start N vs) H)
    (room : Room (k + 1) A) (e0 : Env0 P w K mg base A outer s H) (bnd : BindsTo s fd args (ps.zip us)) (rv : Vals vs us) : codeAny (model P w) A (.call (.ref f) args) (CR CX0 outer P w H s Q E) s := by
  obtain ⟨oc, od, kV, doc, pm, an, cdv, ct, osl, rfl, lk, hcd⟩ := F.ex
  have inS : K.In s.heap := e0.mod.kin.keeps (fun b o e => (e0.bs b o e).left)
  refine codeAny_call_function room.depth (inS f _ lk) rfl Sc.co Sc.gen rfl (PySem.W.codeRec_of inS hcd) (bnd _ _ _ _ ?_)
  refine wpAny_newFunctionEnv_cells Sc.kind (fun ⟨y, _⟩ hy => ?_) fun env he s1 y => ?_
  · rcases Sc.par y (List.of_mem_zip hy).left with q | q
    · exact Or.inl q
    · exact Or.inr (And.intro q (PySem.W.cellsFrom_some _ _ _ (Or.inl q)))
  · subst he
    refine ⟨(e0.mod.nolimit.keeps (fun b o e => (e0.bs b o e).left)).keeps y.toInCall.keep, codeAny_func ?_⟩
    obtain ⟨t, ht, hq⟩ := walk cdv (room.deeper _)
    have I0 := inv_start (CX := CX0) (E := E) Sc room.hd e0 hl rv y
    refine wpAny_mono (ht.nox.run [] s1 (L2.start N vs) H _ I0 hq) (fun fl s' hs => ?_) (fun e s' hs => hs)
    match fl, hs with
    | .ret u, ⟨v, σ', H', J, r1, q⟩ => exact ⟨v, H', J.os, J.bare, J.base, J.hok, r1, q⟩
    | .next, ⟨σ', H', J, q⟩ => exact ⟨V.non, H', J.os, J.bare, J.base, J.hok, (show RelV V.non Value.none from rfl), q⟩
    | .brk, ⟨_, _, _, q⟩ => exact (q : False).elim
    | .cont, ⟨_, _, _, q⟩ => exact (q : False).elim
/-- the law's call at the head, from its run at the caller alone -/
theorem head_call {mb : Str → Option Value} {fa a : Addr} {s₁ : Shared} {vs : List Value} {ns : List Int}
    (KX : K.In s₁.heap) (hns : s₁.heap.Ns mainGlobals mg) (hb : s₁.heap.Ns builtinsNs mb) (hbb : ∀ x : Str, x ≠ "__name__" → mb x = bootBuiltins x) (hlim : s₁.heap.NoLimit) (hg : s₁.gens = #[])
    (ha : s₁.heap.get? a = some { cls := .type "list", data := .seq vs.toArray }) (hi : PyProof.Rows.IntsAre vs ns) (hl : ns.length ≤ sizeLine)
    (run : ∀ (base : Heap) (H : Hp), K.In base → base.Ns mainGlobals mg → Only H → SqL K H a (ns.map V.int) → Env0 P w K mg base callerA [] s₁ H → codeAny (model P w) callerA (.call (.ref fa) ⟨[.ref a], []⟩) (CR CX0 [] P w H s₁ (fun v _ => v = .bl true) (fun _ _ _ => False)) s₁) :
    codeAny (model P w) callerA (.call (.ref fa) ⟨[.ref a], []⟩) (fun r s' => r = .ok (.ret (.bool true)) ∧ OldK s₁.heap s'.heap ∧ s'.os = s₁.os ∧ PyProof.Rows.AllBare s'.gens) s₁ := by
  have rv := vals_ints hi
  have lv := hi.length
  have core : ∀ H : Hp, Only H → SqL K H a (ns.map V.int) → HOk P w H s₁.heap → (∀ b, H b ≠ none → b = a ∧ K.lookup a = none) →
      codeAny (model P w) callerA (.call (.ref fa) ⟨[.ref a], []⟩) (fun r s' => r = .ok (.ret (.bool true)) ∧ OldK s₁.heap s'.heap ∧ s'.os = s₁.os ∧ PyProof.Rows.AllBare s'.gens) s₁ := by
    intro H hO hS hok hA
    have free : ∀ b : Addr, b ≠ a → H b = none := fun b n => Classical.byContradiction fun z => n (hA b z).1
    have dictFree : ∀ {b : Addr} {o : Obj} {es : Array DictEntry} {ep : Nat}, s₁.heap.get? b = some o → o.data = .dict es ep → H b = none := fun {b o es ep} e d => free b fun z => by
      subst z
      rw [ha] at e
      cases e
      exact nomatch (show Data.seq vs.toArray _ = Data.dict es ep from d)
    have nsB : ∀ {b : Addr} {m : Str → Option Value}, s₁.heap.Ns b m → (hidT s₁.heap H).Ns b m := fun ⟨o, es, ep, e, d, r⟩ => ⟨o, es, ep, hidT_get e (dictFree e d), d, r⟩
    have inB : K.In (hidT s₁.heap H) := fun b o e => hidT_get (KX b o e) (Classical.byContradiction fun z => by
      obtain ⟨z1, z2⟩ := hA b z
      rw [z1, z2] at e
      cases e)
    have hM : Mod K mg (hidT s₁.heap H) := ⟨inB, nsB hns, ⟨mb, nsB hb, hbb⟩, let ⟨mc, h1, h2⟩ := hlim; ⟨mc, nsB h1, h2⟩⟩
    have env : Env0 P w K mg (hidT s₁.heap H) callerA [] s₁ H := ⟨rfl, hM, fun b o e => of_hidT e, Nat.le_of_eq (hidT_size _ _), trivial, (fun b hb => nomatch hb), hok, .of_eq hg⟩
    refine codeAny_mono (run _ H inB (nsB hns) hO hS env) fun r s' h => ?_
    match r, h with
    | .ok (.ret u), h =>
      obtain ⟨v, H', os, bare, un, hok', r', q⟩ := h
      subst q
      obtain rfl : u = Value.bool true := r'
      refine ⟨rfl, OldK.of_keep fun b o e => ?_, os, bare⟩
      cases q : H b with
      | none => exact un.keep b o e q (fun z => by cases z) (by simp)
      | some u =>
        rcases hO b with z | ⟨ob, xs, z⟩
        · rw [q] at z; cases z
        · obtain ⟨e1, _⟩ := hok b _ z
          rw [e] at e1; cases e1
          exact (hok' b _ (un.frzs b _ _ z)).1
  cases hk : K.lookup a with
  | some o =>
    have e := KX a o hk
    rw [ha] at e
    cases e
    exact core (fun _ => none) (fun _ => Or.inl rfl) (Or.inr ⟨_, vs.toArray, _, hk, rfl, rfl, rfl, (by rw [List.size_toArray, lv]; exact hl), (by simpa using rv)⟩) (fun b u z => nomatch (show (none : Option HO) = some u from z)) (fun b z => (z rfl).elim)
  | none =>
    have off : ∀ b : Addr, b ≠ a → (if b = a then some (HO.frz { cls := .type "list", data := .seq vs.toArray } (.lst (ns.map V.int))) else none) = none := fun b n => if_neg n
    refine core (fun b => if b = a then some (HO.frz { cls := .type "list", data := .seq vs.toArray } (.lst (ns.map V.int))) else none) (fun b => ?_) (Or.inl (Or.inr ⟨{ cls := .type "list", data := .seq vs.toArray }, if_pos rfl⟩)) (fun b u z => ?_) (fun b z => ⟨Classical.byContradiction fun n => z (off b n), hk⟩)
    · by_cases n : b = a
      · exact Or.inr ⟨_, _, if_pos n⟩
      · exact Or.inl (off b n)
    · by_cases n : b = a
      · subst n
        cases (if_pos rfl).symm.trans z
        exact ⟨ha, (by rw [List.length_map]; exact hl), vs, _, rv, ha⟩
      · cases (off b n).symm.trans z
theorem law_walk {l : PySem.W.OpenLaw} {q : Program} {loose : List Str} {XP : (Str → Option Value) → Heap → Prop} {YP : World → Heap → Prop} {d : DefRec} {KK : Params → PySem.W.Frag} {f : Nat} {st : Stmt} {body : List MS} (hn : l.most = some 63) (hdf : d.params.defaults = []) (hr : Room (k + 1) callerA)
    (hY : ∀ (w : World) (h : Heap), YP w h → (KK w.params).In h)
    (hb : ∀ (K : PySem.W.Frag) f fd, Fun K d.name d.name st f fd → ∀ (s : Shared) (u : Value), BindsTo s fd ⟨[u], []⟩ [("script", u)])
    (F : ∀ (w : World) (mg : Str → Option Value) (h : Heap), (KK w.params).In h → h.Ns mainGlobals mg → DefAt (KK w.params) mg d.name st ∧ ∀ base : Heap, Names l.prog w (KK w.params) mg base TT G T k)
    (Sc : FnScope N ["script"] (defScope st)) (hT : TT[f]? = some (.py 1 N.length [] body)) (ok : okSs { T with rp := true } N (defScope st) body (defBody st) = true) (main : ∀ ns : List Int, ns.length ≤ 63 → ∃ ws, callT TT G (k + 1) f [.scr ns] = some (.d (.bool true), ws)) :
    PySem.W.WalkO q loose XP YP l.row.toRowW d [] (fun f vs => PySem.call f vs) := by
  refine Att.attach_call hn hdf fun w s₀ s₁ mg mb fa o pm cd doc a vs ns Gd Y ho hd hcd hmg hobj hints hlen hg => ?_
  obtain ⟨⟨f1, fd1, g1, g2, g3⟩, g4⟩ := F w mg _ (hY w _ Y) Gd.T.g
  rw [hmg] at g1
  cases g1
  refine head_call (hY w _ Y) Gd.T.g Gd.T.b Gd.T.builtins Gd.T.nolimit hg hobj hints (Nat.le_trans hlen (by decide)) fun base H _ _ hO hS e0 => ?_
  obtain ⟨ws, hm⟩ := main ns hlen
  have sp := law_sp (E := fun _ _ _ => False) hO hS hm
  refine fn_here (ps := ["script"]) (vs := [.ref a]) (us := [.ref a]) g3 Sc rfl (fun cdv room => ?_) hr e0 (hb _ _ _ g3 s₁ _) (.cons rfl .nil)
  obtain ⟨S, us, w0, us', r0, r1, r2⟩ := sp
  obtain ⟨h1, h2, r3⟩ := callT_len hT r1
  obtain ⟨r, c1, c2⟩ := Option.bind_eq_some_iff.mp r3
  have hl := r0.len
  simp only [List.length_map] at hl
  have NM : Names l.prog w (KK w.params) mg base TT G { T with rp := true } k := ⟨(g4 base).fn, (g4 base).gl, (g4 base).bl⟩
  have e : L2.start N [V.ref a] = [V.ref a].map some ++ List.replicate (N.length - 1) none := rfl
  refine ⟨_, (sndSs ⟨callT TT G k, ioT TT, G⟩ { T with rp := true } N body).s [] (xok_of (fun _ => rfl) NM Sc.nd room) PySem.PassesOwn.never ok, S, _, r, ?_, c1, ?_⟩
  · rw [e]
    exact rep_start r0
  · rw [e]
    exact endF_ok r0 c2 r2
end
end Ev

namespace Ev
open PySem L2
/-! ### the pure side: what the evaluator answers -/
section
variable {Γ : Ctx} {L : List Nat} {env e1 e2 : Env} {P Q : Res → Prop}
def OK (o : Option Res) (P : Res → Prop) : Prop := ∃ r, o = some r ∧ P r
theorem OK.imp {o : Option Res} (h : OK o P) (k : ∀ r, P r → Q r) : OK o Q := h.elim fun r z => ⟨r, z.1, k r z.2⟩
def thenP (Γ : Ctx) (L : List Nat) (ss : List MS) (P : Res → Prop) : Res → Prop
  | .nx e => OK (evSs Γ L ss e) P
  | r => P r
theorem ok_nil (h : P (.nx env)) : OK (evSs Γ L [] env) P := ⟨_, by rw [evSs], h⟩
theorem ok_cons {s : MS} {ss : List MS} (h : OK (evS Γ L s env) (thenP Γ L ss P)) : OK (evSs Γ L (s :: ss) env) P := by
  obtain ⟨r, h1, h2⟩ := h
  rw [OK, evSs, h1]
  cases r <;> exact (by first | exact h2 | exact ⟨_, rfl, h2⟩)
theorem ok_one {s : MS} (h : OK (evS Γ L s env) P) : OK (evSs Γ L [s] env) P := by
  refine ok_cons (h.imp fun r z => ?_)
  cases r with
  | nx e => exact ok_nil z
  | _ => exact z
theorem ok_step {s : MS} {ss : List MS} (h : evS Γ L s env = some (.nx e1)) (k : OK (evSs Γ L ss e1) P) : OK (evSs Γ L (s :: ss) env) P := ok_cons ⟨_, h, k⟩
theorem ok_ret {e : ME} {ss : List MS} {r : Rv} (h : ev Γ e env = some (r, e1)) (k : P (.rt r e1)) : OK (evSs Γ L (.ret e :: ss) env) P := ok_cons ⟨.rt r e1, by rw [evS, h]; rfl, k⟩
theorem ok_ifs {c : ME} {a b : List MS} {k : Bool} (h : evC Γ c env = some (k, e1)) (h1 : k = true → OK (evSs Γ L a e1) P) (h2 : k = false → OK (evSs Γ L b e1) P) : OK (evS Γ L (.ifs c a b) env) P := by
  rw [OK, evS, h]
  cases k with
  | true => exact h1 rfl
  | false => exact h2 rfl
theorem whN_mono {c : Env → Option (Bool × Env)} {b : Env → Option Res} : ∀ {n : Nat} {env : Env} {r : Res}, whN c b n env = some r → whN c b (n + 1) env = some r
  | 0, env, r, h => by simp [whN] at h
  | n + 1, env, r, h => by
    rw [whN] at h ⊢
    obtain ⟨⟨k, e1⟩, g1, h⟩ := Option.bind_eq_some_iff.mp h
    rw [g1]
    show (if k then _ else _) = _
    have h : (if k then (b e1).bind fun r => match r with
      | .nx e2 => whN c b n e2
      | .ct e2 => whN c b n e2
      | .bk e2 => some (.nx e2)
      | .rt v e2 => some (.rt v e2)
    else some (.nx e1)) = some r := h
    cases k with
    | false => exact h
    | true =>
      simp only [if_true] at h ⊢
      obtain ⟨rb, g2, h⟩ := Option.bind_eq_some_iff.mp h
      rw [g2]
      cases rb with
      | nx e => exact whN_mono h
      | ct e => exact whN_mono h
      | bk e => exact h
      | rt v e => exact h
theorem whN_le {c : Env → Option (Bool × Env)} {b : Env → Option Res} {n m : Nat} {env : Env} {r : Res} (h : whN c b n env = some r) (hm : n ≤ m) : whN c b m env = some r := by
  induction hm with
  | refl => exact h
  | step _ ih => exact whN_mono ih
theorem whD_of {c : Env → Option (Bool × Env)} {b : Env → Option Res} {n : Nat} {env : Env} {r : Res} (h : whN c b n env = some r) : whD c b env = some r := by
  unfold whD
  have hx : ∃ n, (whN c b n env).isSome = true := ⟨n, by rw [h]; rfl⟩
  rw [dif_pos hx]
  have hc := Classical.choose_spec hx
  obtain ⟨r', e⟩ := Option.isSome_iff_exists.mp hc
  rw [e]
  have a := whN_le h (Nat.le_max_left n (Classical.choose hx))
  have b := whN_le e (Nat.le_max_right n (Classical.choose hx))
  rw [a] at b
  exact b.symm
def loopP (I : Env → Prop) (Q : Res → Prop) : Res → Prop
  | .nx e => I e
  | .ct e => I e
  | .bk e => Q (.nx e)
  | .rt v e => Q (.rt v e)
theorem ok_whl {c : ME} {b : List MS} (I : Nat → Env → Prop) (h : ∀ m env, I m env → ∃ k e1, evC Γ c env = some (k, e1) ∧ (k = true → OK (evSs Γ L b e1) (loopP (fun e => ∃ m', m' < m ∧ I m' e) Q)) ∧ (k = false → Q (.nx e1))) {m : Nat} (h0 : I m env) :
    OK (evS Γ L (.whl c b) env) Q := by
  have key : ∀ m env, I m env → ∃ n, OK (whN (evC Γ c) (evSs Γ L b) n env) Q := by
    intro m
    induction m using Nat.strongRecOn with
    | _ m ih =>
      intro env hi
      obtain ⟨k, e1, g1, g2, g3⟩ := h m env hi
      cases k with
      | false => exact ⟨1, .nx e1, by rw [whN, g1]; rfl, g3 rfl⟩
      | true =>
        obtain ⟨r, g4, g5⟩ := g2 rfl
        cases r with
        | nx e =>
          obtain ⟨m', hm, hi'⟩ := g5
          obtain ⟨n, r', q1, q2⟩ := ih m' hm e hi'
          exact ⟨n + 1, r', by rw [whN, g1]; show (evSs Γ L b e1).bind _ = _; rw [g4]; exact q1, q2⟩
        | ct e =>
          obtain ⟨m', hm, hi'⟩ := g5
          obtain ⟨n, r', q1, q2⟩ := ih m' hm e hi'
          exact ⟨n + 1, r', by rw [whN, g1]; show (evSs Γ L b e1).bind _ = _; rw [g4]; exact q1, q2⟩
        | bk e => exact ⟨1, .nx e, by rw [whN, g1]; show (evSs Γ L b e1).bind _ = _; rw [g4]; rfl, g5⟩
        | rt v e => exact ⟨1, .rt v e, by rw [whN, g1]; show (evSs Γ L b e1).bind _ = _; rw [g4]; rfl, g5⟩
  obtain ⟨n, r, q1, q2⟩ := key m env h0
  exact ⟨r, by rw [evS]; exact whD_of q1, q2⟩
theorem ok_for {tg : Tg} {it : MI} {b : List MS} {s : Src} (hs : evI Γ it env = some (s, e1)) (I : Nat → Env → Prop) (h0 : I 0 e1)
    (h : ∀ i x e, s.items[i]? = some x → I i e → gOk s.g e ∧ ∃ e2, bindT (s.lk ++ L) tg x e = some e2 ∧ OK (evSs Γ (s.lk ++ L) b e2) (loopP (I (i + 1)) Q)) (hend : ∀ e, I s.items.length e → gOk s.g e ∧ Q (.nx e)) :
    OK (evS Γ L (.for_ tg it b) env) Q := by
  have key : ∀ (xs : List D) (i : Nat) (e : Env), s.items.drop i = xs → i ≤ s.items.length → I i e → OK (forD (evSs Γ (s.lk ++ L) b) (bindT (s.lk ++ L) tg) s.g xs e) Q := by
    intro xs
    induction xs with
    | nil =>
      intro i e hx hi hI
      have : i = s.items.length := by
        have := congrArg List.length hx
        rw [List.length_drop] at this
        simp at this
        omega
      subst this
      obtain ⟨g1, g2⟩ := hend e hI
      exact ⟨_, by rw [forD, if_pos g1], g2⟩
    | cons x xs ih =>
      intro i e hx hi hI
      have hl : i < s.items.length := by
        have := congrArg List.length hx
        rw [List.length_drop] at this
        simp at this
        omega
      have hg : s.items[i]? = some x := by
        have := congrArg List.head? hx
        rw [List.head?_drop] at this
        simpa using this
      have hx' : s.items.drop (i + 1) = xs := by
        have := congrArg List.tail hx
        rw [List.tail_drop] at this
        exact this
      obtain ⟨g1, e2, g2, r, g3, g4⟩ := h i x e hg hI
      rw [OK, forD, if_pos g1, g2]
      show ∃ r, (evSs Γ (s.lk ++ L) b e2).bind _ = some r ∧ Q r
      rw [g3]
      cases r with
      | nx e3 => exact ih (i + 1) e3 hx' hl g4
      | ct e3 => exact ih (i + 1) e3 hx' hl g4
      | bk e3 => exact ⟨_, rfl, g4⟩
      | rt v e3 => exact ⟨_, rfl, g4⟩
  rw [OK, evS, hs]
  exact key _ 0 e1 rfl (Nat.zero_le _) h0
open Classical in
theorem lc_inv {elt cond : Env → Option (D × Env)} {bnd : D → Env → Option Env} {own : List Nat} {g : Option (Nat × List D)} {xs : List D} (I : Nat → List D → Env → Prop) (h0 : I 0 [] env)
    (h : ∀ i x ys e, xs[i]? = some x → I i ys e → gOk g e ∧ ∃ e1 c e2 b, bnd x e = some e1 ∧ cond e1 = some (c, e2) ∧ truD c = some b ∧
      (b = true → ∃ y e3, elt e2 = some (y, e3) ∧ I (i + 1) (ys ++ [y]) (wipeE e3 own)) ∧ (b = false → I (i + 1) ys (wipeE e2 own))) (hend : ∀ ys e, I xs.length ys e → gOk g e) :
    ∃ ys e, lcD elt cond bnd own g xs env = some (ys, e) ∧ I xs.length ys e := by
  have key : ∀ (zs : List D) (i : Nat) (ys : List D) (e : Env), xs.drop i = zs → i ≤ xs.length → I i ys e → ∃ ys' e', lcD elt cond bnd own g zs e = some (ys', e') ∧ I xs.length (ys ++ ys') e' := by
    intro zs
    induction zs with
    | nil =>
      intro i ys e hx hi hI
      have : i = xs.length := by
        have := congrArg List.length hx
        rw [List.length_drop] at this
        simp at this
        omega
      subst this
      exact ⟨[], e, by rw [lcD, if_pos (hend _ _ hI)], by simpa using hI⟩
    | cons x zs ih =>
      intro i ys e hx hi hI
      have hl : i < xs.length := by
        have := congrArg List.length hx
        rw [List.length_drop] at this
        simp at this
        omega
      have hg : xs[i]? = some x := by
        have := congrArg List.head? hx
        rw [List.head?_drop] at this
        simpa using this
      have hx' : xs.drop (i + 1) = zs := by
        have := congrArg List.tail hx
        rw [List.tail_drop] at this
        exact this
      obtain ⟨g1, e1, c, e2, b, q1, q2, q3, q4, q5⟩ := h i x ys e hg hI
      rw [lcD, if_pos g1, q1]
      show ∃ ys' e', ((cond e1).bind _) = some (ys', e') ∧ _
      rw [q2]
      show ∃ ys' e', ((truD c).bind _) = some (ys', e') ∧ _
      rw [q3]
      cases b with
      | true =>
        obtain ⟨y, e3, k1, k2⟩ := q4 rfl
        obtain ⟨ys', e', k3, k4⟩ := ih (i + 1) (ys ++ [y]) _ hx' hl k2
        refine ⟨y :: ys', e', ?_, by simpa using k4⟩
        show ((elt e2).bind _) = _
        rw [k1]
        show (lcD elt cond bnd own g zs (wipeE e3 own)).map _ = _
        rw [k3]
        rfl
      | false =>
        obtain ⟨ys', e', k3, k4⟩ := ih (i + 1) ys _ hx' hl (q5 rfl)
        exact ⟨ys', e', k3, k4⟩
  obtain ⟨ys, e, k1, k2⟩ := key xs 0 [] env rfl (Nat.zero_le _) h0
  exact ⟨ys, e, k1, by simpa using k2⟩
theorem call_py {TT : List Fd} {G : List D} {k f np ns : Nat} {io : List Nat} {body : List MS} {ws : List Val} {res : Val × List Val} (hT : TT[f]? = some (.py np ns io body)) (hl : ws.length = np) (hn : np ≤ ns)
    (h : OK (evSs ⟨callT TT G k, ioT TT, G⟩ io body (ws.map some ++ List.replicate (ns - np) none)) fun r => endF io ws r = some res) : callT TT G (k + 1) f ws = some res := by
  obtain ⟨r, h1, h2⟩ := h
  rw [callT]
  simp only [hT]
  rw [if_pos ⟨hl, hn⟩, h1]
  exact h2
end
end Ev

namespace Ev
open PySem L2
/-! ### plain lemmas for every law -/
mutual
theorem eqv_self : ∀ d : D, d.plain = true → d.eqv d = true
  | .none, _ => by simp [PyData.eqv]
  | .bool b, _ => by simp [PyData.eqv]
  | .int i, _ => by simp [PyData.eqv]
  | .str s, _ => by simp [PyData.eqv]
  | .list xs, h => by simp only [PyData.eqv]; exact eqvs_self xs h
  | .tuple xs, h => by simp only [PyData.eqv]; exact eqvs_self xs h
  | .dict _, h => by cases h
theorem eqvs_self : ∀ xs : List D, PyData.plainAll xs = true → PyData.eqvAll xs xs = true
  | [], _ => by simp [PyData.eqvAll]
  | x :: xs, h => by
    simp only [PyData.plainAll, Bool.and_eq_true] at h
    simp only [PyData.eqvAll, eqv_self x h.1, eqvs_self xs h.2, Bool.and_self]
end
theorem eqv_int {i j : Int} : PyData.eqv (.int i) (.int j) = decide (i = j) := by
  by_cases h : i = j <;> simp [PyData.eqv, h]
theorem eqv_none_int {j : Int} : PyData.eqv .none (.int j) = false := by simp [PyData.eqv]
theorem eqv_int_none {j : Int} : PyData.eqv (.int j) .none = false := by simp [PyData.eqv]
theorem eqv_none : PyData.eqv .none .none = true := by simp [PyData.eqv]
theorem eqv_bool {a b : Bool} : PyData.eqv (.bool a) (.bool b) = (a == b) := by cases a <;> cases b <;> simp [PyData.eqv]
theorem ok_int {i : Int} : okD (.int i) = true := by simp [okD, PyData.plain, PyData.depth]
theorem ok_bool {b : Bool} : okD (.bool b) = true := by simp [okD, PyData.plain, PyData.depth]
theorem ok_non : okD .none = true := by simp [okD, PyData.plain, PyData.depth]
theorem self_ne {x : D} (h : okD x = true) : cmpD .ne x x = some false := by
  have : cmpD .ne x x = if okD x && okD x then some (!x.eqv x) else none := by
    cases x <;> rfl
  rw [this, h, eqv_self x (okD_p h).1]
  rfl
theorem self_eq {x : D} (h : okD x = true) : cmpD .eq x x = some true := by
  have : cmpD .eq x x = if okD x && okD x then some (x.eqv x) else none := by
    cases x <;> rfl
  rw [this, h, eqv_self x (okD_p h).1]
  rfl
theorem cmp_eq {x y : D} (h : okD x = true) (k : okD y = true) : cmpD .eq x y = some (x.eqv y) := by
  have : cmpD .eq x y = if okD x && okD y then some (x.eqv y) else none := by
    cases x <;> cases y <;> rfl
  rw [this, h, k]
  rfl
theorem cmp_ne {x y : D} (h : okD x = true) (k : okD y = true) : cmpD .ne x y = some (!x.eqv y) := by
  have : cmpD .ne x y = if okD x && okD y then some (!x.eqv y) else none := by
    cases x <;> cases y <;> rfl
  rw [this, h, k]
  rfl
/-! small data: a bound of the depth, a bound of the size -/
mutual
def smD : D → Bool
  | .none => true
  | .bool _ => true
  | .int i => decide (i.natAbs < 1000000)
  | .str x => x.cps.toList.all fun c => decide (c < 16 ^ 8)
  | .list xs => smAll xs
  | .tuple xs => smAll xs
  | .dict _ => false
def smAll : List D → Bool
  | [] => true
  | x :: xs => smD x && smAll xs
end
mutual
def szD : D → Nat
  | .none => 0
  | .bool _ => 0
  | .int _ => 21
  | .str x => x.cps.size
  | .list xs => szAll xs
  | .tuple xs => szAll xs
  | .dict _ => 0
def szAll : List D → Nat
  | [] => 0
  | x :: xs => szD x + 1 + szAll xs
end
theorem log_small {n : Nat} (h : n < 1000000) : n.log2 < 20 := by
  rcases Nat.eq_zero_or_pos n with z | z
  · subst z; decide
  · exact (Nat.log2_lt (by omega)).mpr (by omega)
theorem short_small {i : Int} (h : i.natAbs < 1000000) : (PyData.int i).shown.length ≤ 13 := by
  have := int_text_length_le10 (a := i) (k := 6) (by decide) (by omega)
  have e : (PyData.int i).shown.length ≤ (toString i).length := by
    simp only [PyData.shown]
    exact Nat.le_of_eq (ofString_length _)
  omega
mutual
theorem sm_facts : ∀ d : D, smD d = true → d.plain = true ∧ d.showable = true ∧ d.hasDict = false ∧ d.leavesShort 13 = true ∧ d.weight ≤ szD d
  | .none, _ => by simp [PyData.plain, PyData.showable, PyData.hasDict, PyData.leavesShort, PyData.weight, szD]
  | .bool _, _ => by simp [PyData.plain, PyData.showable, PyData.hasDict, PyData.leavesShort, PyData.weight, szD]
  | .int i, h => by
    have h : i.natAbs < 1000000 := of_decide_eq_true h
    have l := log_small h
    refine ⟨rfl, ?_, rfl, ?_, ?_⟩
    · simp only [PyData.showable]; exact decide_eq_true (by omega)
    · simp only [PyData.leavesShort]; exact decide_eq_true (short_small h)
    · simp only [PyData.weight, szD]; split <;> omega
  | .str x, h => by
    simp only [smD] at h
    refine ⟨rfl, rfl, rfl, ?_, ?_⟩
    · simp only [PyData.leavesShort]; exact h
    · simp only [PyData.weight, szD]; exact Nat.le_refl _
  | .list xs, h => by
    simp only [smD] at h
    obtain ⟨a, b, c, d, e⟩ := sms_facts xs h
    simp only [PyData.plain, PyData.showable, PyData.hasDict, PyData.leavesShort, PyData.weight, szD]
    exact ⟨a, b, c, d, e⟩
  | .tuple xs, h => by
    simp only [smD] at h
    obtain ⟨a, b, c, d, e⟩ := sms_facts xs h
    simp only [PyData.plain, PyData.showable, PyData.hasDict, PyData.leavesShort, PyData.weight, szD]
    exact ⟨a, b, c, d, e⟩
  | .dict _, h => by cases h
theorem sms_facts : ∀ xs : List D, smAll xs = true → PyData.plainAll xs = true ∧ PyData.showableAll xs = true ∧ PyData.hasDictAll xs = false ∧ PyData.leavesShortAll 13 xs = true ∧ PyData.weightAll xs ≤ szAll xs
  | [], _ => by simp [PyData.plainAll, PyData.showableAll, PyData.hasDictAll, PyData.leavesShortAll, PyData.weightAll, szAll]
  | x :: xs, h => by
    simp only [smAll, Bool.and_eq_true] at h
    obtain ⟨a, b, c, d, e⟩ := sm_facts x h.1
    obtain ⟨a', b', c', d', e'⟩ := sms_facts xs h.2
    simp only [PyData.plainAll, PyData.showableAll, PyData.hasDictAll, PyData.leavesShortAll, PyData.weightAll, szAll, a, b, c, d, a', b', c', d', Bool.and_self, Bool.or_self, true_and]
    omega
end
structure Sm (n c : Nat) (d : D) : Prop where
  sm : smD d = true
  dp : d.depth ≤ n
  sz : szD d ≤ c
theorem Sm.mono {n c n' c' : Nat} {d : D} (h : Sm n c d) (h1 : n ≤ n') (h2 : c ≤ c') : Sm n' c' d := ⟨h.sm, Nat.le_trans h.dp h1, Nat.le_trans h.sz h2⟩
theorem sm_none : Sm 0 0 .none := ⟨rfl, by simp [PyData.depth], by simp [szD]⟩
theorem sm_bool {b : Bool} : Sm 0 0 (.bool b) := ⟨rfl, by simp [PyData.depth], by simp [szD]⟩
theorem sm_int {i : Int} (h : i.natAbs < 1000000) : Sm 0 21 (.int i) := ⟨decide_eq_true h, by simp [PyData.depth], by simp [szD]⟩
theorem sm_nat {i : Nat} (h : i < 1000000) : Sm 0 21 (.int (i : Int)) := sm_int (by omega)
theorem sms_of {n c : Nat} : ∀ {xs : List D}, (∀ x ∈ xs, Sm n c x) → smAll xs = true ∧ PyData.depthAll xs ≤ n ∧ szAll xs ≤ xs.length * (c + 1)
  | [], _ => by simp [smAll, PyData.depthAll, szAll]
  | x :: xs, h => by
    obtain ⟨a, b, d⟩ := sms_of fun y hy => h y (List.mem_cons_of_mem _ hy)
    have k := h x (List.mem_cons_self ..)
    refine ⟨by simp only [smAll, k.sm, a, Bool.and_self], ?_, ?_⟩
    · rw [PyData.depthAll]; exact Nat.max_le.mpr ⟨k.dp, b⟩
    · rw [szAll, List.length_cons, Nat.succ_mul]
      have := k.sz
      omega
theorem sm_list {n c m : Nat} {xs : List D} (hl : xs.length ≤ m) (h : ∀ x ∈ xs, Sm n c x) : Sm (n + 1) (m * (c + 1)) (.list xs) := by
  obtain ⟨a, b, d⟩ := sms_of h
  refine ⟨a, by rw [PyData.depth]; omega, ?_⟩
  rw [szD]
  exact Nat.le_trans d (Nat.mul_le_mul_right _ hl)
theorem sm_tup {n c m : Nat} {xs : List D} (hl : xs.length ≤ m) (h : ∀ x ∈ xs, Sm n c x) : Sm (n + 1) (m * (c + 1)) (.tuple xs) := by
  obtain ⟨a, b, d⟩ := sms_of h
  refine ⟨a, by rw [PyData.depth]; omega, ?_⟩
  rw [szD]
  exact Nat.le_trans d (Nat.mul_le_mul_right _ hl)
theorem Sm.ok {n c : Nat} {d : D} (h : Sm n c d) (hn : n ≤ 60) : okD d = true := by
  unfold okD
  rw [(sm_facts d h.sm).1, Bool.true_and]
  exact decide_eq_true (Nat.le_trans h.dp hn)
theorem Sm.sh {n c : Nat} {d : D} (h : Sm n c d) (hn : n ≤ 60) (hc : c ≤ 1048576) : shB d = true := by
  obtain ⟨_, b, e, f, g⟩ := sm_facts d h.sm
  unfold shB
  have := PyData.shown_fits (B := 13) (by decide) (by decide) f (Nat.le_trans g (Nat.le_trans h.sz hc))
  simp only [b, e, Bool.not_false, Bool.and_self, Bool.true_and, Bool.and_eq_true, decide_eq_true_eq]
  exact ⟨Nat.le_trans h.dp hn, this⟩
/-! numbers -/
def nats (l : List Nat) : List D := l.map fun (n : Nat) => PyData.int (n : Int)
theorem rng_nat (n : Nat) : rngOf 0 (n : Int) = nats (List.range n) := by
  unfold rngOf nats
  rw [show ((n : Int) - 0).toNat = n by omega]
  refine List.map_congr_left fun k _ => ?_
  rw [Int.zero_add]
theorem rng_nat2 (i n : Nat) : rngOf (i : Int) (n : Int) = nats ((List.range (n - i)).map fun k => i + k) := by
  unfold rngOf nats
  rw [show ((n : Int) - (i : Int)).toNat = n - i by omega, List.map_map]
  refine List.map_congr_left fun k _ => ?_
  simp
theorem rngOk_nat {n : Nat} (h : n ≤ 1000000) : rngOk 0 (n : Int) = true := by
  unfold rngOk
  exact decide_eq_true (by omega)
theorem rngOk_nat2 {i n : Nat} (h : n ≤ 1000000) (k : i ≤ 1000000) : rngOk (i : Int) (n : Int) = true := by
  unfold rngOk
  exact decide_eq_true (by omega)
theorem mem_nats {a : Nat} {l : List Nat} (h : okD (.list (nats l)) = true) : memD (.int (a : Int)) (.list (nats l)) = some (decide (a ∈ l)) := by
  unfold memD
  simp only [ok_int, h, Bool.and_self, if_true, Option.some.injEq]
  rw [Bool.eq_iff_iff, List.any_eq_true, decide_eq_true_eq]
  constructor
  · rintro ⟨z, h1, h2⟩
    obtain ⟨b, h3, rfl⟩ := List.mem_map.mp h1
    rw [eqv_int] at h2
    have := of_decide_eq_true h2
    have : b = a := by omega
    exact this ▸ h3
  · intro h
    exact ⟨_, List.mem_map.mpr ⟨a, h, rfl⟩, by rw [eqv_int]; simp⟩
theorem none_mem_nats {l : List Nat} (h : okD (.list (nats l)) = true) : memD .none (.list (nats l)) = some false := by
  unfold memD
  simp only [ok_non, h, Bool.and_self, if_true, Option.some.injEq]
  rw [List.any_eq_false]
  intro x hx
  obtain ⟨b, _, rfl⟩ := List.mem_map.mp hx
  rw [eqv_int_none]
  simp
theorem sm_nats {l : List Nat} {m : Nat} (hl : l.length ≤ m) (h : ∀ n ∈ l, n < 1000000) : Sm 1 (m * 22) (.list (nats l)) := by
  refine sm_list (n := 0) (c := 21) (by simpa [nats] using hl) fun x hx => ?_
  obtain ⟨b, hb, rfl⟩ := List.mem_map.mp hx
  exact sm_nat (h b hb)
theorem bools_of (l : List Bool) : boolsOf (l.map PyData.bool) = some l := by
  induction l with
  | nil => rfl
  | cons b r ih => simp [boolsOf, ih]
theorem bools_map {α : Type} (f : α → Bool) (l : List α) : boolsOf (l.map (PyData.bool ∘ f)) = some (l.map f) := by rw [← List.map_map]; exact bools_of _
theorem ints_of (l : List Int) : intsOf (l.map PyData.int) = some l := by
  induction l with
  | nil => rfl
  | cons b r ih => simp [intsOf, ih]
theorem sIx_to {n i : Nat} (h : i ≤ n) : HT.sIx n n (some (i : Int)) = i := by
  rw [HT.sIx_nat]; exact Nat.min_eq_left h
theorem wipe_len : ∀ (own : List Nat) (env : Env), (wipeE env own).length = env.length
  | [], _ => rfl
  | i :: r, env => by rw [wipeE, List.length_set, wipe_len r env]
/-! a comprehension, as a function of its source -/
open Classical in
theorem lc_of {α : Type} {Γ : Ctx} {env : Env} {elt cond : ME} {tg : Tg} {it : MI} {own lk : List Nat} {g : Option (Nat × List D)} (enc : α → D) (l : List α) (p : α → Bool) (f : α → D)
    (hs : evI Γ it env = some (⟨l.map enc, lk, g⟩, env)) (hl : lk.all (fun j => decide (j ∉ own)) = true) (hg : gOk g (wipeE env own)) (hb : backOwn env (wipeE env own) own = env)
    (h : ∀ a ∈ l, ∃ e1, bindT lk tg (enc a) (wipeE env own) = some e1 ∧ evC Γ cond e1 = some (p a, e1) ∧ wipeE e1 own = wipeE env own ∧ (p a = true → ((ev Γ elt e1).bind fun (r, e') => fz e' r) = some (f a, e1))) :
    ev Γ (.lc elt tg it cond own) env = some (.v (.own ((l.filter p).map f)), env) := by
  obtain ⟨ys, e, h1, h2, h3⟩ := lc_inv (elt := fun e => (ev Γ elt e).bind fun (r, e') => fz e' r) (cond := fun e => (ev Γ cond e).bind fun (r, e') => (cur e' r).map fun x => (x, e')) (bnd := bindT lk tg) (own := own) (g := g) (xs := l.map enc) (env := wipeE env own)
    (fun i ys e => ys = ((l.take i).filter p).map f ∧ e = wipeE env own) ⟨by simp, rfl⟩
    (by
      rintro i x ys e hx ⟨rfl, rfl⟩
      rw [List.getElem?_map] at hx
      obtain ⟨a, ha, rfl⟩ := Option.map_eq_some_iff.mp hx
      have hm := List.mem_of_getElem? ha
      obtain ⟨e1, q1, q2, q3, q4⟩ := h a hm
      obtain ⟨⟨r, e2⟩, q5, q6⟩ := Option.bind_eq_some_iff.mp (show (ev Γ cond e1).bind _ = _ from q2)
      obtain ⟨b, q7, q8⟩ := Option.map_eq_some_iff.mp q6
      cases q8
      obtain ⟨c, q9, q10⟩ := Option.bind_eq_some_iff.mp (show (cur e1 r).bind truD = _ from q7)
      have tk : l.take (i + 1) = l.take i ++ [a] := by rw [List.take_add_one, ha]; rfl
      refine ⟨hg, e1, c, e1, p a, q1, ?_, q10, fun hk => ?_, fun hk => ?_⟩
      · show (ev Γ cond e1).bind _ = _
        rw [q5]
        show (cur e1 r).map _ = _
        rw [q9]; rfl
      · refine ⟨f a, e1, q4 hk, ?_, q3⟩
        rw [tk, List.filter_append, List.map_append]
        simp [hk]
      · refine ⟨?_, q3⟩
        rw [tk, List.filter_append, List.map_append]
        simp [hk])
    (fun ys e hh => by rw [hh.2]; exact hg)
  rw [List.length_map, List.take_length] at h2
  subst h2 h3
  rw [ev, hs]
  show (if lk.all (fun j => decide (j ∉ own)) = true then _ else _) = _
  rw [if_pos hl]
  refine (congrArg (Option.map _) h1).trans ?_
  show some (Rv.v (Val.own ((l.filter p).map f)), backOwn env (wipeE env own) own) = _
  rw [hb]
/-- .. that changes what it meets -/
theorem lc_run {Γ : Ctx} {env env1 : Env} {elt cond : ME} {tg : Tg} {it : MI} {own lk : List Nat} {g : Option (Nat × List D)} {xs : List D} (hs : evI Γ it env = some (⟨xs, lk, g⟩, env1)) (hl : lk.all (fun j => decide (j ∉ own)) = true)
    (I : Nat → List D → Env → Prop) (h0 : I 0 [] (wipeE env1 own))
    (h : ∀ i x ys e, xs[i]? = some x → I i ys e → gOk g e ∧ ∃ e1 b e2, bindT lk tg x e = some e1 ∧ evC Γ cond e1 = some (b, e2) ∧ (b = true → ∃ y e3, ((ev Γ elt e2).bind fun (r, e') => fz e' r) = some (y, e3) ∧ I (i + 1) (ys ++ [y]) (wipeE e3 own)) ∧ (b = false → I (i + 1) ys (wipeE e2 own))) (hend : ∀ ys e, I xs.length ys e → gOk g e) :
    ∃ ys e, I xs.length ys e ∧ ev Γ (.lc elt tg it cond own) env = some (.v (.own ys), backOwn env1 e own) := by
  obtain ⟨ys, e, h1, h2⟩ := lc_inv (elt := fun e => (ev Γ elt e).bind fun (r, e') => fz e' r) (cond := fun e => (ev Γ cond e).bind fun (r, e') => (cur e' r).map fun x => (x, e')) (bnd := bindT lk tg) (own := own) (g := g) (xs := xs) (env := wipeE env1 own) I h0
    (fun i x ys e hx hI => by
      obtain ⟨g1, e1, b, e2, q1, q2, q3, q4⟩ := h i x ys e hx hI
      obtain ⟨⟨r, e2'⟩, q5, q6⟩ := Option.bind_eq_some_iff.mp (show (ev Γ cond e1).bind _ = _ from q2)
      obtain ⟨b', q7, q8⟩ := Option.map_eq_some_iff.mp q6
      cases q8
      obtain ⟨c, q9, q10⟩ := Option.bind_eq_some_iff.mp (show (cur e2 r).bind truD = _ from q7)
      refine ⟨g1, e1, c, e2, b, q1, ?_, q10, q3, q4⟩
      show (ev Γ cond e1).bind _ = _
      rw [q5]
      show (cur e2 r).map _ = _
      rw [q9]; rfl) hend
  refine ⟨ys, e, h2, ?_⟩
  rw [ev, hs]
  show (if lk.all (fun j => decide (j ∉ own)) = true then _ else _) = _
  rw [if_pos hl]
  exact (congrArg (Option.map _) h1).trans rfl
theorem filter_tt {α : Type} (l : List α) : l.filter (fun _ => true) = l := List.filter_eq_self.mpr fun _ _ => rfl
/-- .. over a counted range -/
theorem evI_rng0 {Γ : Ctx} {env : Env} {e : ME} {i : Int} (h : ev Γ e env = some (.v (.d (.int i)), env)) (hn : rngOk 0 i = true) : evI Γ (.rng [e]) env = some (⟨rngOf 0 i, [], none⟩, env) := by
  simp [evI, evL, h, curs, cur, valD, rngSrc, hn]
theorem evI_rng {Γ : Ctx} {env : Env} {e : ME} {n : Nat} (h : ev Γ e env = some (.v (.d (.int (n : Int))), env)) (hn : n ≤ 1000000) : evI Γ (.rng [e]) env = some (⟨nats (List.range n), [], none⟩, env) := by
  rw [← rng_nat]
  exact evI_rng0 h (rngOk_nat hn)
theorem evI_rng20 {Γ : Ctx} {env : Env} {a b : ME} {i j : Int} (h : ev Γ a env = some (.v (.d (.int i)), env)) (h' : ev Γ b env = some (.v (.d (.int j)), env)) (hn : rngOk i j = true) : evI Γ (.rng [a, b]) env = some (⟨rngOf i j, [], none⟩, env) := by
  simp [evI, evL, h, h', curs, cur, valD, rngSrc, hn]
theorem app_step {Γ : Ctx} {L : List Nat} {env : Env} {i : Nat} {e : ME} {r : Rv} {x : D} {xs : List D} (h0 : rd env i = some (.own xs)) (h : ev Γ e env = some (r, env)) (hf : fz env r = some (x, env)) (hl : xs.length < sizeLine) :
    evS Γ L (.app i e) env = some (.nx (env.set i (some (.own (xs ++ [x]))))) := by
  simp only [evS, h0, isOwn, if_true, h, Option.bind_some, hf, hl]
theorem ext_step {Γ : Ctx} {L : List Nat} {env : Env} {i : Nat} {e : ME} {r : Rv} {xs ys : List D} (h0 : rd env i = some (.own xs)) (h : ev Γ e env = some (r, env)) (hf : cur env r = some (.list ys)) (hl : xs.length + ys.length ≤ sizeLine) :
    evS Γ L (.ext i e) env = some (.nx (env.set i (some (.own (xs ++ ys))))) := by
  simp only [evS, h0, isOwn, if_true, h, Option.bind_some, hf, hl]
theorem asg_step {Γ : Ctx} {L : List Nat} {env : Env} {i : Nat} {e : ME} {w : Val} (h : ev Γ e env = some (.v w, env)) (hi : i ∉ L) (hl : i < env.length) : evS Γ L (.asg (.nm i) e) env = some (.nx (env.set i (some w))) := by
  simp only [evS, h, Option.bind_some, asgn, setV, Option.map_some]
  rw [if_neg (fun z => z.elim hi (fun z => by omega)), Option.map_some]
theorem add_fits {α β : Type} {a : List α} {b : List β} (h : a.length ≤ 1000) (k : b.length ≤ 1000) : a.length + b.length ≤ sizeLine := by
  rw [sizeLine_eq]; omega
theorem cur_v {env : Env} {x : D} : cur env (.v (.d x)) = some x := rfl
theorem sli_to {Γ : Ctx} {env : Env} {a hi : ME} {r : Rv} {x : D} {j : Int} {w : Val} (h1 : ev Γ a env = some (r, env)) (h2 : cur env r = some x) (h3 : ev Γ hi env = some (.v (.d (.int j)), env)) (hn : isNoneC hi = false) (hs : sliD x none (some j) = some w) :
    ev Γ (.sli a (.con .none) hi) env = some (.v w, env) := by
  have h4 : ev Γ (.con .none) env = some (.v (.d .none), env) := by simp [ev]
  have h5 : isNoneC (.con .none) = true := rfl
  rw [ev, h1, Option.bind_some]
  simp [h3, h4, h5, h2, cur_v, part, hn, hs]
theorem sli_from {Γ : Ctx} {env : Env} {a lo : ME} {r : Rv} {x : D} {j : Int} {w : Val} (h1 : ev Γ a env = some (r, env)) (h2 : cur env r = some x) (h3 : ev Γ lo env = some (.v (.d (.int j)), env)) (hn : isNoneC lo = false) (hs : sliD x (some j) none = some w) :
    ev Γ (.sli a lo (.con .none)) env = some (.v w, env) := by
  have h4 : ev Γ (.con .none) env = some (.v (.d .none), env) := by simp [ev]
  have h5 : isNoneC (.con .none) = true := rfl
  rw [ev, h1, Option.bind_some]
  simp [h3, h4, h5, h2, cur_v, part, hn, hs]
theorem cut_to {α : Type} (xs : List α) (i : Nat) (h : i ≤ xs.length) : cut xs none (some (i : Int)) = xs.take i := by
  unfold cut
  rw [HT.sIx_none, HT.sIx_nat]
  simp [Nat.min_eq_left h]
theorem cut_from {α : Type} (xs : List α) (i : Nat) : cut xs (some (i : Int)) none = xs.drop i := by
  unfold cut
  rw [HT.sIx_none, HT.sIx_nat]
  rcases Nat.le_total i xs.length with h | h
  · rw [Nat.min_eq_left h, List.take_of_length_le (by rw [List.length_drop]; exact Nat.le_refl _)]
  · rw [Nat.min_eq_right h, List.drop_length, List.drop_of_length_le h]; simp
theorem back_none {io : List Nat} {keep : Bool} {env : Env} : ∀ {rs : List Rv} {p : Nat} {ws : List Val}, alis rs = [] → backArgs io keep p rs ws env = env
  | [], _, _, _ => by simp [backArgs]
  | .v _ :: rs, p, [], _ => by simp [backArgs]
  | .v _ :: rs, p, _ :: ws, h => by rw [backArgs]; exact back_none (show alis rs = [] from h)
  | .ali _ :: rs, _, _, h => by cases (show _ :: alis rs = [] from h)
theorem call_gen {Γ : Ctx} {env e1 e2 : Env} {f : Nat} {es : List ME} {rs : List Rv} {ws ws' : List Val} {v : Val} (h : evL Γ es env = some (rs, e1)) (hn : (alis rs).Nodup) (hw : argVals e1 (Γ.io f) 0 rs = some ws) (hc : Γ.C f ws = some (v, ws'))
    (hb : backArgs (Γ.io f) (keepB (Γ.io f) v ws') 0 rs ws' e1 = e2) : ev Γ (.call f es) env = some (.v v, e2) := by
  rw [ev, h, Option.bind_some]
  show doCall Γ f rs e1 = _
  rw [doCall, if_pos hn, hw, Option.bind_some, hc, Option.map_some]
  show some (Rv.v v, backArgs (Γ.io f) (keepB (Γ.io f) v ws') 0 rs ws' e1) = _
  rw [hb]
theorem call_pure {Γ : Ctx} {env : Env} {f : Nat} {es : List ME} {rs : List Rv} {ws ws' : List Val} {v : Val} (h : evL Γ es env = some (rs, env)) (hn : alis rs = []) (hw : argVals env (Γ.io f) 0 rs = some ws) (hc : Γ.C f ws = some (v, ws')) : ev Γ (.call f es) env = some (.v v, env) :=
  call_gen h (by rw [hn]; exact List.nodup_nil) hw hc (back_none hn)
theorem ok_intL (xs : List Int) : okD (.list (xs.map .int)) = true := by
  have h1 : PyData.plainAll (xs.map PyData.int) = true := PySem.W.plainAll_map xs
  have h2 : PyData.depthAll (xs.map PyData.int) ≤ 0 := PySem.W.depthAll_map xs
  unfold okD
  simp only [PyData.plain, h1, PyData.depth, Bool.true_and]
  exact decide_eq_true (by omega)
theorem ok_natL (l : List Nat) : okD (.list (nats l)) = true := by
  have e : nats l = (l.map fun n : Nat => (n : Int)).map PyData.int := by simp [nats]
  rw [e]
  exact ok_intL _
theorem cut_toA {α : Type} (xs : List α) (i : Nat) : cut xs none (some (i : Int)) = xs.take i := by
  unfold cut
  rw [HT.sIx_none, HT.sIx_nat]
  rcases Nat.le_total i xs.length with h | h
  · simp [Nat.min_eq_left h]
  · simp [Nat.min_eq_right h, List.take_of_length_le h]
/-! sorted lists of ints -/
def leI (a b : Int) : Bool := decide (a ≤ b)
theorem sortB_ints (l : List Int) : sortB (l.map PyData.int) = true := by
  unfold sortB alikeB
  rw [Bool.and_eq_true, Bool.or_eq_true]
  refine ⟨List.all_eq_true.mpr fun x hx => ?_, .inr (List.all_eq_true.mpr fun x hx => ?_)⟩
  · obtain ⟨a, _, rfl⟩ := List.mem_map.mp hx
    rw [ok_int, Bool.and_true]
    refine List.all_eq_true.mpr fun y hy => ?_
    obtain ⟨b, _, rfl⟩ := List.mem_map.mp hy
    rfl
  · obtain ⟨a, _, rfl⟩ := List.mem_map.mp hx
    rfl
theorem sorted_ints (l : List Int) : biSorted [.list (l.map PyData.int)] = some (.own ((l.mergeSort leI).map PyData.int)) := by
  unfold biSorted
  simp only [sortB_ints, if_true]
  rw [← List.map_mergeSort (r := leI) (s := W.dataLe false id) (f := PyData.int) fun a _ b _ => ?_]
  show decide (a ≤ b) = (!W.dataLt (.int b) (.int a))
  rw [W.dataLt_int]
  by_cases h : a ≤ b
  · rw [decide_eq_true h, decide_eq_false (by omega)]; rfl
  · rw [decide_eq_false h, decide_eq_true (by omega)]; rfl
def leN (a b : Nat) : Bool := decide (a ≤ b)
def sortN (l : List Nat) : List Nat := l.mergeSort leN
theorem sorted_nats (l : List Nat) : biSorted [.list (nats l)] = some (.own (nats (sortN l))) := by
  have e : nats l = (l.map fun n : Nat => (n : Int)).map PyData.int := by simp [nats]
  rw [e, sorted_ints, ← List.map_mergeSort (r := leN) (s := leI) (f := fun n : Nat => (n : Int)) fun a _ b _ => ?_]
  · simp [nats, sortN]
  · show decide (a ≤ b) = decide ((a : Int) ≤ (b : Int))
    exact decide_eq_decide.mpr (by omega)
theorem sortN_perm (l : List Nat) : (sortN l).Perm l := List.mergeSort_perm l leN
theorem sortN_pw (l : List Nat) : (sortN l).Pairwise (· ≤ ·) :=
  (List.pairwise_mergeSort (le := leN) (fun a b c h1 h2 => by
    have h1 : a ≤ b := of_decide_eq_true h1
    have h2 : b ≤ c := of_decide_eq_true h2
    exact decide_eq_true (by omega)) (fun a b => by
    unfold leN
    rcases Nat.le_total a b with h | h
    · rw [decide_eq_true h]; rfl
    · rw [decide_eq_true h]; simp) l).imp fun z => of_decide_eq_true z
theorem ints_nats (l : List Nat) : intsOf (nats l) = some (l.map fun n : Nat => (n : Int)) := by
  have e : nats l = (l.map fun n : Nat => (n : Int)).map PyData.int := by simp [nats]
  rw [e, ints_of]
/-- a rising list is its own set -/
theorem setI_rise {l : List Int} (h : l.Pairwise (· < ·)) : setI l = l := rise_unique (setI_pw l) h fun k => mem_setI
theorem setN_sort {l : List Nat} (h : l.Nodup) : setI ((sortN l).map fun n : Nat => (n : Int)) = (sortN l).map fun n : Nat => (n : Int) := by
  refine setI_rise ?_
  have nd : (sortN l).Nodup := (sortN_perm l).nodup_iff.mpr h
  have pw := sortN_pw l
  rw [List.pairwise_map]
  exact (List.Pairwise.and pw nd).imp fun z => by have := z.1; have := z.2; omega
/-- the set of a list of numbers, rising -/
def setN (X : List Nat) : List Nat := (setI (X.map fun n : Nat => (n : Int))).map Int.toNat
theorem setI_sub : ∀ l : List Int, (setI l).length ≤ l.length
  | [] => by simp [setI]
  | x :: r => by
    have ih := setI_sub r
    have ins : ∀ m : List Int, (insI x m).length ≤ m.length + 1 := fun m => by
      induction m with
      | nil => simp [insI]
      | cons y t ih =>
        unfold insI
        split
        · simp
        · split
          · simp
          · simp only [List.length_cons]; omega
    have := ins (setI r)
    show (insI x (setI r)).length ≤ _
    rw [List.length_cons]
    omega
theorem setN_cast (X : List Nat) : (setN X).map (fun n : Nat => (n : Int)) = setI (X.map fun n : Nat => (n : Int)) := by
  unfold setN
  rw [List.map_map]
  refine (List.map_congr_left fun k hk => ?_).trans (List.map_id _)
  obtain ⟨n, _, rfl⟩ := List.mem_map.mp (mem_setI.mp hk)
  simp
theorem setN_D (X : List Nat) : (setI (X.map fun n : Nat => (n : Int))).map PyData.int = nats (setN X) := by
  rw [← setN_cast]
  simp [nats]
theorem mem_setN {X : List Nat} {k : Nat} : k ∈ setN X ↔ k ∈ X := by
  have h : (k : Int) ∈ (setN X).map (fun n : Nat => (n : Int)) ↔ (k : Int) ∈ X.map fun n : Nat => (n : Int) := by rw [setN_cast]; exact mem_setI
  have e : ∀ l : List Nat, (k : Int) ∈ l.map (fun n : Nat => (n : Int)) ↔ k ∈ l := fun l => by
    rw [List.mem_map]
    exact ⟨fun ⟨n, hn, z⟩ => by have : n = k := by omega
                                exact this ▸ hn, fun hn => ⟨k, hn, rfl⟩⟩
  exact (e _).symm.trans (h.trans (e _))
theorem setN_pw (X : List Nat) : (setN X).Pairwise (· < ·) := by
  have h := setI_pw (X.map fun n : Nat => (n : Int))
  rw [← setN_cast, List.pairwise_map] at h
  exact h.imp fun z => by omega
theorem setN_le (X : List Nat) : (setN X).length ≤ X.length := by
  have := setI_sub (X.map fun n : Nat => (n : Int))
  unfold setN
  rw [List.length_map]
  rwa [List.length_map] at this
theorem ssetD_natsB {X : List Nat} (h : X.length < 1000) (h2 : (setN X).length < 64) : ssetD (.list (nats X)) = some (.own (nats (setN X))) := by
  have hl : (X.map fun n : Nat => (n : Int)).length < 1000 := by rw [List.length_map]; exact h
  have hl2 : (setI (X.map fun n : Nat => (n : Int))).length < 64 := by
    unfold setN at h2
    rwa [List.length_map] at h2
  simp only [ssetD, ints_nats, Option.bind_some]
  rw [← setN_D]
  exact if_pos ⟨hl, hl2⟩
theorem ssetD_nats {X : List Nat} (h : X.length < 64) : ssetD (.list (nats X)) = some (.own (nats (setN X))) :=
  ssetD_natsB (by omega) (Nat.lt_of_le_of_lt (setN_le X) h)
theorem riseN_unique : ∀ {l m : List Nat}, l.Pairwise (· < ·) → m.Pairwise (· < ·) → (∀ k, k ∈ l ↔ k ∈ m) → l = m := fun {l m} h1 h2 h => by
  have a : (l.map fun n : Nat => (n : Int)) = m.map fun n : Nat => (n : Int) := rise_unique (by rw [List.pairwise_map]; exact h1.imp fun z => by omega) (by rw [List.pairwise_map]; exact h2.imp fun z => by omega) fun k => by
    simp only [List.mem_map]
    exact ⟨fun ⟨n, hn, e⟩ => ⟨n, (h n).mp hn, e⟩, fun ⟨n, hn, e⟩ => ⟨n, (h n).mpr hn, e⟩⟩
  have b := congrArg (List.map Int.toNat) a
  have e : ∀ l : List Nat, (l.map fun n : Nat => (n : Int)).map Int.toNat = l := fun l => by
    rw [List.map_map]
    exact (List.map_congr_left fun n _ => by simp).trans (List.map_id l)
  rw [e, e] at b
  exact b
theorem lrg_ev {Γ : Ctx} {env : Env} {e : ME} {k : Nat} (h : ev Γ e env = some (.v (.d (.int (k : Int))), env)) (hk : k ≤ 1000000) : ev Γ (.lrg1 e) env = some (.v (.own (nats (List.range k))), env) := by
  have key : ∀ i : Int, ev Γ e env = some (.v (.d (.int i)), env) → rngOk 0 i = true → ev Γ (.lrg1 e) env = some (.v (.own (rngOf 0 i)), env) := fun i h hi => by
    rw [ev, h]
    simp [cur_v, hi]
  rw [← rng_nat]
  exact key _ h (rngOk_nat hk)
theorem sort_id {l : List Int} (h : l.Pairwise (· ≤ ·)) : l.mergeSort leI = l := List.mergeSort_of_pairwise (h.imp fun z => decide_eq_true z)
theorem sort_pw (l : List Int) : (l.mergeSort leI).Pairwise (· ≤ ·) :=
  (List.pairwise_mergeSort (le := leI) (fun a b c h1 h2 => by
    have h1 : a ≤ b := of_decide_eq_true h1
    have h2 : b ≤ c := of_decide_eq_true h2
    exact decide_eq_true (by omega)) (fun a b => by
    unfold leI
    rcases Int.le_total a b with h | h
    · rw [decide_eq_true h]; rfl
    · rw [decide_eq_true h]; simp) l).imp fun z => of_decide_eq_true z
theorem ints_at {l : List Int} {i : Nat} {x : D} (h : (l.map PyData.int)[i]? = some x) : ∃ c, l[i]? = some c ∧ x = .int c := by
  rw [List.getElem?_map] at h
  obtain ⟨c, h1, h2⟩ := Option.map_eq_some_iff.mp h
  exact ⟨c, h1, h2.symm⟩
theorem ints_ix {l : List Int} {i : Nat} {c : Int} (h : l[i]? = some c) : idxD (.list (l.map PyData.int)) (.int (i : Int)) = some (.int c) := (atI_nat (by rw [List.getElem?_map, h]; rfl) : atI (l.map PyData.int) (i : Int) = _)
/-- how many of the first n hold -/
theorem filter_le {i c : Nat} {p : Nat → Bool} (h : ∀ j, p j = true → i ≤ j ∧ j < i + c) : ∀ n : Nat, ((List.range n).filter p).length ≤ min n (i + c) - i
  | 0 => by simp
  | n + 1 => by
    have ih := filter_le h n
    rw [List.range_succ, List.filter_append, List.length_append]
    by_cases hp : p n = true
    · obtain ⟨h1, h2⟩ := h n hp
      simp only [List.filter_cons, hp, if_true, List.filter_nil, List.length_singleton]
      omega
    · simp only [List.filter_cons, hp, Bool.false_eq_true, if_false, List.filter_nil, List.length_nil]
      omega
theorem filter_lt (r : Nat) : ∀ n : Nat, ((List.range n).filter fun j => decide (j < r)).length = min n r
  | 0 => by simp
  | n + 1 => by
    have ih := filter_lt r n
    rw [List.range_succ, List.filter_append, List.length_append, ih]
    by_cases hp : n < r
    · simp only [List.filter_cons, decide_eq_true hp, if_true, List.filter_nil, List.length_singleton]
      omega
    · simp only [List.filter_cons, decide_eq_false hp, List.filter_nil, List.length_nil]
      simp
      omega
theorem enum_at {xs : List D} : ∀ {k i : Nat} {x : D}, (enumOf k xs)[i]? = some x → ∃ y, xs[i]? = some y ∧ x = .tuple [.int ((k + i : Nat) : Int), y] := by
  induction xs with
  | nil => intro k i x h; simp [enumOf] at h
  | cons y ys ih =>
    intro k i x h
    cases i with
    | zero =>
      simp [enumOf] at h
      exact ⟨y, rfl, h.symm⟩
    | succ i =>
      obtain ⟨z, h1, h2⟩ := ih (k := k + 1) (i := i) (by simpa [enumOf] using h)
      exact ⟨z, by simpa using h1, by rw [h2, show k + 1 + i = k + (i + 1) by omega]⟩
theorem enum_len {xs : List D} : ∀ {k : Nat}, (enumOf k xs).length = xs.length := by
  induction xs with
  | nil => intro k; rfl
  | cons y ys ih => intro k; simp [enumOf, ih]
/-! draws -/
def TakeOk (C : Calls) (f : Nat) : Prop := ∀ (i m : Int) (cs : List Int), cs ≠ [] → 0 < m → m < 1073741824 → ∃ (d : Nat) (i' : Int) (cs' : List Int), (d : Int) < m ∧ cs' ≠ [] ∧ C f [.st i cs, .d (.int m)] = some (.d (.int (d : Int)), [.st i' cs', .d (.int m)])
theorem draw {Γ : Ctx} {env : Env} {f j : Nat} {e : ME} {i m : Int} {cs : List Int} (T : TakeOk Γ.C f) (hio : Γ.io f = [0]) (h0 : rd env j = some (.st i cs)) (hne : cs ≠ []) (h1 : ev Γ e env = some (.v (.d (.int m)), env)) (m0 : 0 < m) (m1 : m < 1073741824) :
    ∃ (d : Nat) (i' : Int) (cs' : List Int), (d : Int) < m ∧ cs' ≠ [] ∧ ev Γ (.call f [.var j, e]) env = some (.v (.d (.int (d : Int))), env.set j (some (.st i' cs'))) := by
  obtain ⟨d, i', cs', a, b, c⟩ := T i m cs hne m0 m1
  refine ⟨d, i', cs', a, b, call_gen (rs := [.ali j, .v (.d (.int m))]) (ws := [.st i cs, .d (.int m)]) (ws' := [.st i' cs', .d (.int m)]) (e1 := env) ?_ (by simp [alis]) ?_ c (by rw [hio]; simp [backArgs])⟩
  · simp [evL, ev, h0, h1]
  · rw [hio]
    simp [argVals, h0, nonIo, valD]
theorem evI_rngS {Γ : Ctx} {env e1 : Env} {e : ME} {i : Int} {n : Nat} (h : ev Γ e env = some (.v (.d (.int i)), e1)) (hi : i = (n : Int)) (hn : n ≤ 1000000) : evI Γ (.rng [e]) env = some (⟨nats (List.range n), [], none⟩, e1) := by
  have k : ∀ j : Int, ev Γ e env = some (.v (.d (.int j)), e1) → rngOk 0 j = true → evI Γ (.rng [e]) env = some (⟨rngOf 0 j, [], none⟩, e1) := fun j h hj => by
    simp [evI, evL, h, curs, cur, valD, rngSrc, hj]
  rw [← rng_nat, ← hi]
  exact k i h (by rw [hi]; exact rngOk_nat hn)
theorem ev_add {Γ : Ctx} {env e1 e2 : Env} {a b : ME} {i j : Int} (h : ev Γ a env = some (.v (.d (.int i)), e1)) (k : ev Γ b e1 = some (.v (.d (.int j)), e2)) : ev Γ (.bin .add a b) env = some (.v (.d (.int (i + j))), e2) := by
  rw [ev, h, Option.bind_some]
  simp [k, cur_v, binD]
theorem ev_con {Γ : Ctx} {env : Env} {c : D} : ev Γ (.con c) env = some (.v (.d c), env) := by rw [ev]
theorem ev_var {Γ : Ctx} {env : Env} {i : Nat} {x : D} (h : rd env i = some (.d x)) : ev Γ (.var i) env = some (.v (.d x), env) := by rw [ev, h]
theorem ev_ali {Γ : Ctx} {env : Env} {i : Nat} {xs : List D} (h : rd env i = some (.own xs)) : ev Γ (.var i) env = some (.ali i, env) := by rw [ev, h]
theorem ev_cmpS {Γ : Ctx} {env e1 e2 : Env} {op : COp} {a b : ME} {x y : D} {c : Bool} (h : ev Γ a env = some (.v (.d x), e1)) (k : ev Γ b e1 = some (.v (.d y), e2)) (hc : cmpD op x y = some c) : ev Γ (.cmp op a b) env = some (.v (.d (.bool c)), e2) := by
  rw [ev, h, Option.bind_some]
  simp [k, cur_v, hc]
theorem ev_sub {Γ : Ctx} {env e1 e2 : Env} {a b : ME} {i j : Int} (h : ev Γ a env = some (.v (.d (.int i)), e1)) (k : ev Γ b e1 = some (.v (.d (.int j)), e2)) : ev Γ (.bin .sub a b) env = some (.v (.d (.int (i - j))), e2) := by
  rw [ev, h, Option.bind_some]
  simp [k, cur_v, binD]
theorem ev_idxA {Γ : Ctx} {env : Env} {i : Nat} {b : ME} {xs : List D} {y z : D} (h : rd env i = some (.own xs)) (k : ev Γ b env = some (.v (.d y), env)) (hz : idxD (.list xs) y = some z) : ev Γ (.idx (.var i) b) env = some (.v (.d z), env) := by
  rw [ev, ev_ali h, Option.bind_some]
  have hc : cur env (.ali i) = some (.list xs) := by simp [cur, h, valD]
  simp [k, cur_v, hc, hz]
theorem ev_idxV {Γ : Ctx} {env e1 e2 : Env} {a b : ME} {x y z : D} (h : ev Γ a env = some (.v (.d x), e1)) (k : ev Γ b e1 = some (.v (.d y), e2)) (hz : idxD x y = some z) : ev Γ (.idx a b) env = some (.v (.d z), e2) := by
  rw [ev, h, Option.bind_some]
  simp [k, cur_v, hz]
theorem evC_b {Γ : Ctx} {env e1 : Env} {c : ME} {b : Bool} (h : ev Γ c env = some (.v (.d (.bool b)), e1)) : evC Γ c env = some (b, e1) := by
  rw [evC, h, Option.bind_some]
  simp [truR, cur_v, truD]
theorem ev_orF {Γ : Ctx} {env e1 : Env} {a b : ME} (h : ev Γ a env = some (.v (.d (.bool false)), e1)) : ev Γ (.orE a b) env = ev Γ b e1 := by
  rw [ev, h, Option.bind_some]
  simp [truR, cur_v, truD]
theorem ev_orT {Γ : Ctx} {env e1 : Env} {a b : ME} (h : ev Γ a env = some (.v (.d (.bool true)), e1)) : ev Γ (.orE a b) env = some (.v (.d (.bool true)), e1) := by
  rw [ev, h, Option.bind_some]
  simp [truR, cur_v, truD]
theorem ev_andT {Γ : Ctx} {env e1 : Env} {a b : ME} (h : ev Γ a env = some (.v (.d (.bool true)), e1)) : ev Γ (.andE a b) env = ev Γ b e1 := by
  rw [ev, h, Option.bind_some]
  simp [truR, cur_v, truD]
theorem ev_andF {Γ : Ctx} {env e1 : Env} {a b : ME} (h : ev Γ a env = some (.v (.d (.bool false)), e1)) : ev Γ (.andE a b) env = some (.v (.d (.bool false)), e1) := by
  rw [ev, h, Option.bind_some]
  simp [truR, cur_v, truD]
theorem ev_not {Γ : Ctx} {env e1 : Env} {a : ME} {b : Bool} (h : ev Γ a env = some (.v (.d (.bool b)), e1)) : ev Γ (.notE a) env = some (.v (.d (.bool (!b))), e1) := by
  rw [ev, h, Option.bind_some]
  simp [truR, cur_v, truD]
theorem asg_stepS {Γ : Ctx} {L : List Nat} {env e1 : Env} {i : Nat} {e : ME} {w : Val} (h : ev Γ e env = some (.v w, e1)) (hi : i ∉ L) (hl : i < e1.length) : evS Γ L (.asg (.nm i) e) env = some (.nx (e1.set i (some w))) := by
  simp only [evS, h, Option.bind_some, asgn, setV, Option.map_some]
  rw [if_neg (fun z => z.elim hi (fun z => by omega)), Option.map_some]
theorem app_stepS {Γ : Ctx} {L : List Nat} {env e1 e2 : Env} {i : Nat} {e : ME} {r : Rv} {x : D} {ys xs : List D} (h0 : rd env i = some (.own ys)) (h : ev Γ e env = some (r, e1)) (hf : fz e1 r = some (x, e2)) (h2 : rd e2 i = some (.own xs)) (hl : xs.length < sizeLine) :
    evS Γ L (.app i e) env = some (.nx (e2.set i (some (.own (xs ++ [x]))))) := by
  simp only [evS, h0, isOwn, if_true, h, Option.bind_some, hf, h2, hl]
theorem tru_evC {Γ : Ctx} {env : Env} : evC Γ (.con (.bool true)) env = some (true, env) := by
  simp [evC, ev, truR, cur, valD, truD]
end Ev

namespace Ev
open PySem L2
/-! law-neutral helpers of the pure side -/
abbrev dn (n : Nat) : Option Val := some (.d (.int (n : Int)))
abbrev di (i : Int) : Option Val := some (.d (.int i))
theorem ev_binS {Γ : Ctx} {env e1 e2 : Env} {op : BOp} {a b : ME} {x y : D} {w : Val} (h : ev Γ a env = some (.v (.d x), e1)) (k : ev Γ b e1 = some (.v (.d y), e2)) (hw : binD op x y = some w) : ev Γ (.bin op a b) env = some (.v w, e2) := by
  rw [ev, h, Option.bind_some]
  simp [k, cur_v, hw]
theorem nats_at {l : List Nat} {i : Nat} {x : D} (h : (nats l)[i]? = some x) : ∃ c, l[i]? = some c ∧ x = .int (c : Int) := by
  unfold nats at h
  rw [List.getElem?_map] at h
  obtain ⟨c, h1, h2⟩ := Option.map_eq_some_iff.mp h
  exact ⟨c, h1, h2.symm⟩
theorem nats_len (l : List Nat) : (nats l).length = l.length := by simp [nats]
theorem nats_app (l : List Nat) (n : Nat) : nats l ++ [PyData.int (n : Int)] = nats (l ++ [n]) := by simp [nats]
theorem nats_cat (l m : List Nat) : nats l ++ nats m = nats (l ++ m) := by simp [nats]
theorem nats_ix {l : List Nat} {i c : Nat} (h : l[i]? = some c) : idxD (.list (nats l)) (.int (i : Int)) = some (.int (c : Int)) := (atI_nat (by rw [nats, List.getElem?_map, h]; rfl) : atI (nats l) (i : Int) = _)
theorem first_bad {p : Nat → Bool} : ∀ m, p m = true → ∃ j, j ≤ m ∧ p j = true ∧ ∀ i, i < j → p i = false := fun m => by
  induction m using Nat.strongRecOn with
  | _ m ih =>
    intro h
    by_cases z : ∃ i, i < m ∧ p i = true
    · obtain ⟨i, hi, hp⟩ := z
      obtain ⟨j, h1, h2, h3⟩ := ih i hi hp
      exact ⟨j, by omega, h2, h3⟩
    · exact ⟨m, Nat.le_refl _, h, fun i hi => by
        cases q : p i
        · rfl
        · exact absurd ⟨i, hi, q⟩ z⟩
/-- the first of a rising list that holds the least one -/
theorem find_rise {p : Nat → Bool} : ∀ {l : List Nat}, l.Pairwise (· < ·) → ∀ {m : Nat}, m ∈ l → p m = true → (∀ i, i < m → p i = false) → l.find? p = some m
  | [], _, _, h, _, _ => by cases h
  | a :: r, hp, m, hm, h1, h2 => by
    obtain ⟨q1, q2⟩ := List.pairwise_cons.mp hp
    rw [List.find?_cons]
    rcases List.mem_cons.mp hm with e | e
    · subst e; rw [h1]
    · rw [h2 a (q1 m e)]
      exact find_rise q2 e h1 h2
theorem drop_at {α : Type} {l : List α} {i : Nat} {c : α} (h : l[i]? = some c) : l.drop i = c :: l.drop (i + 1) := by
  obtain ⟨h1, h2⟩ := List.getElem?_eq_some_iff.mp h
  rw [← h2]
  exact List.drop_eq_getElem_cons h1
def enc2 (f : Nat → Int) (m : Nat) : D := .tuple [.int (f m), .int (m : Int)]
theorem min_enc (f : Nat → Int) : ∀ (r : List Nat) (a : Nat), ∃ c ∈ a :: r, W.minD (enc2 f a) (r.map (enc2 f)) = enc2 f c ∧ ∀ x ∈ a :: r, f c ≤ f x
  | [], a => ⟨a, by simp, rfl, by simp⟩
  | y :: r, a => by
    have e : W.minD (enc2 f a) ((y :: r).map (enc2 f)) = W.minD (if W.dataLt (enc2 f y) (enc2 f a) then enc2 f y else enc2 f a) (r.map (enc2 f)) := rfl
    have hd : W.dataLt (enc2 f y) (enc2 f a) = decide (f y < f a ∨ (f y = f a ∧ (y : Int) < (a : Int))) := W.dataLt_ii ..
    rw [e, hd]
    by_cases h : f y < f a ∨ (f y = f a ∧ (y : Int) < (a : Int))
    · rw [decide_eq_true h, if_pos rfl]
      obtain ⟨c, hc, h1, h2⟩ := min_enc f r y
      refine ⟨c, List.mem_cons_of_mem _ hc, h1, fun x hx => ?_⟩
      rcases List.mem_cons.mp hx with q | q
      · subst q
        have := h2 y (List.mem_cons_self ..)
        omega
      · exact h2 x q
    · rw [decide_eq_false h, if_neg (by decide)]
      obtain ⟨c, hc, h1, h2⟩ := min_enc f r a
      refine ⟨c, ?_, h1, fun x hx => ?_⟩
      · rcases List.mem_cons.mp hc with q | q
        · rw [q]; simp
        · simp [q]
      · rcases List.mem_cons.mp hx with q | q
        · subst q; exact h2 x (List.mem_cons_self ..)
        · rcases List.mem_cons.mp q with q | q
          · subst q
            have := h2 a (List.mem_cons_self ..)
            omega
          · exact h2 x (List.mem_cons_of_mem _ q)
theorem minB_enc (f : Nat → Int) (l : List Nat) : minB (l.map (enc2 f)) = true := by
  unfold minB alikeB
  rw [Bool.and_eq_true]
  refine ⟨List.all_eq_true.mpr fun x hx => ?_, List.all_eq_true.mpr fun x hx => ?_⟩
  · obtain ⟨a, _, rfl⟩ := List.mem_map.mp hx
    rw [Bool.and_eq_true]
    refine ⟨List.all_eq_true.mpr fun y hy => ?_, by simp [okD, enc2, PyData.plain, PyData.plainAll, PyData.depth, PyData.depthAll]⟩
    obtain ⟨b, _, rfl⟩ := List.mem_map.mp hy
    simp [enc2, W.alike, W.alikeAll]
  · obtain ⟨a, _, rfl⟩ := List.mem_map.mp hx
    rfl
theorem log_i {i : Int} (h : i.natAbs < 2 ^ 900) : i.natAbs.log2 ≤ 900 := by
  rcases Nat.eq_zero_or_pos i.natAbs with z | z
  · rw [z]; simp [Nat.log2_zero]
  · exact Nat.le_of_lt ((Nat.log2_lt (by omega)).mpr h)
theorem mul_i {a b : Int} (ha : a.natAbs < 100000) (hb : b.natAbs < 100000) : binD .mul (.int a) (.int b) = some (.d (.int (a * b))) := by
  have up : (100000 : Nat) < 2 ^ 900 := Nat.lt_of_lt_of_le (show 100000 < 2 ^ 17 by decide) (Nat.pow_le_pow_right (by decide) (by decide))
  have h1 := log_i (Nat.lt_trans ha up)
  have h2 := log_i (Nat.lt_trans hb up)
  have : MulB a b := .inl (by omega)
  simp only [binD, this, if_true]
theorem all_ev {Γ : Ctx} {env : Env} {me : ME} {α : Type} {l : List α} {p : α → Bool} (h : ev Γ me env = some (.v (.own (l.map fun k => .bool (p k))), env)) : ev Γ (.bi .all [me]) env = some (.v (.d (.bool (l.all p))), env) := by
  have hb := bools_map p l
  have he : (l.map fun k => PyData.bool (p k)) = l.map (PyData.bool ∘ p) := rfl
  rw [ev, evL, h, Option.bind_some]
  simp only [evL, Option.map_some, Option.bind_some, curs, cur, valD, biD, biAll, he, hb, List.all_map]
  rfl
theorem len_ev {Γ : Ctx} {env : Env} {me : ME} {xs : List D} (h : ev Γ me env = some (.v (.own xs), env)) : ev Γ (.bi .len [me]) env = some (.v (.d (.int (xs.length : Int))), env) := by
  rw [ev, evL, h, Option.bind_some]
  simp only [evL, Option.map_some, Option.bind_some, curs, cur, valD, biD, biLen]
theorem ne_own {Γ : Ctx} {env : Env} {a b : ME} {xs ys : List Nat} (h : ev Γ a env = some (.v (.own (nats xs)), env)) (k : ∃ r, ev Γ b env = some (r, env) ∧ cur env r = some (.list (nats ys))) : ev Γ (.cmp .ne a b) env = some (.v (.d (.bool (!(PyData.list (nats xs)).eqv (.list (nats ys))))), env) := by
  obtain ⟨r, k1, k2⟩ := k
  rw [ev, h, Option.bind_some]
  have hc : cur env (.v (.own (nats xs))) = some (.list (nats xs)) := rfl
  simp only [k1, Option.bind_some, hc, k2, cmp_ne (ok_natL xs) (ok_natL ys), Option.map_some]
theorem pos_all {α : Type} (l : List α) (p : α → Bool) : decide (0 < ((l.filter p).length : Int)) = !l.all fun x => !p x := by
  cases h : l.all fun x => !p x with
  | true =>
    have : l.filter p = [] := List.filter_eq_nil_iff.mpr fun x hx => by
      have := List.all_eq_true.mp h x hx
      simpa using this
    rw [this]; rfl
  | false =>
    obtain ⟨x, hx, hf⟩ := List.all_eq_false.mp h
    have hm : x ∈ l.filter p := List.mem_filter.mpr ⟨hx, by simpa using hf⟩
    have := List.length_pos_of_mem hm
    rw [decide_eq_true (by omega)]
    rfl
/-- the greatest of a bounded set -/
theorem greatest {p : Nat → Prop} : ∀ b, p 0 → ∃ T, T ≤ b ∧ p T ∧ ∀ m, m ≤ b → p m → m ≤ T
  | 0, h => ⟨0, by omega, h, fun m hm _ => hm⟩
  | b + 1, h => by
    by_cases z : p (b + 1)
    · exact ⟨b + 1, by omega, z, fun m hm _ => hm⟩
    · obtain ⟨T, h1, h2, h3⟩ := greatest b h
      exact ⟨T, by omega, h2, fun m hm q => h3 m (by
        rcases Nat.lt_or_ge b m with w | w
        · exact absurd (by rw [show b + 1 = m by omega]; exact q) z
        · exact w) q⟩
theorem split_len {α : Type} (l : List α) (p : α → Bool) : l.length = (l.filter p).length + (l.filter fun x => !p x).length := by
  induction l with
  | nil => rfl
  | cons a r ih =>
    cases h : p a with
    | true => rw [List.filter_cons_of_pos h, List.filter_cons_of_neg (by simp [h])]; simp only [List.length_cons]; omega
    | false => rw [List.filter_cons_of_neg (by simp [h]), List.filter_cons_of_pos (by simp [h])]; simp only [List.length_cons]; omega
theorem nodup_len {l m : List Nat} (hl : l.Nodup) (h : ∀ a ∈ l, a ∈ m) : l.length ≤ m.length := by
  induction l generalizing m with
  | nil => exact Nat.zero_le _
  | cons a r ih =>
    have hm := h a (List.mem_cons_self ..)
    obtain ⟨q1, q2⟩ := List.nodup_cons.mp hl
    have := ih (m := m.erase a) q2 fun b hb => (List.mem_erase_of_ne (by rintro rfl; exact q1 hb)).mpr (h b (List.mem_cons_of_mem _ hb))
    rw [List.length_erase_of_mem hm] at this
    have := List.length_pos_of_mem hm
    rw [List.length_cons]
    omega
theorem lst_ix {Γ : Ctx} {env e1 : Env} {es : List ME} {k : ME} {xs : List D} {c : Nat} {x : D} (h : ev Γ (.lst es) env = some (.v (.own xs), env)) (hk : ev Γ k env = some (.v (.d (.int (c : Int))), e1)) (hx : xs[c]? = some x) : ev Γ (.idx (.lst es) k) env = some (.v (.d x), e1) := by
  have h1 : cur e1 (.v (.own xs)) = some (.list xs) := rfl
  have h2 : cur e1 (.v (.d (.int (c : Int)))) = some (.int (c : Int)) := rfl
  have h3 : idxD (.list xs) (.int (c : Int)) = some x := (atI_nat hx : atI xs (c : Int) = _)
  rw [ev, h, Option.bind_some]
  simp only [hk, Option.bind_some, h1, h2, h3, Option.map_some]
theorem list_ix {Γ : Ctx} {env : Env} {i : Nat} {x : D} {j : Int} {xs : List D} (h : rd env i = some (.d x)) (hx : idxD x (.int j) = some (.list xs)) : ev Γ (.bi .list [(.idx (.var i) (.con (.int j)))]) env = some (.v (.own xs), env) := by
  rw [ev, evL, ev_idxV (ev_var h) ev_con hx, Option.bind_some]
  simp only [evL, Option.map_some, Option.bind_some, curs, cur_v, biD, biList]
theorem call_pureS {Γ : Ctx} {env e1 : Env} {f : Nat} {es : List ME} {rs : List Rv} {ws ws' : List Val} {v : Val} (h : evL Γ es env = some (rs, e1)) (hn : alis rs = []) (hw : argVals e1 (Γ.io f) 0 rs = some ws) (hc : Γ.C f ws = some (v, ws')) : ev Γ (.call f es) env = some (.v v, e1) :=
  call_gen h (by rw [hn]; exact List.nodup_nil) hw hc (back_none hn)
theorem ev_addL {Γ : Ctx} {env : Env} {a m : ME} {ra rb : Rv} {x y : List Nat} (h : ev Γ a env = some (ra, env)) (hc : cur env ra = some (.list (nats x))) (k : ev Γ m env = some (rb, env)) (kc : cur env rb = some (.list (nats y))) (hl : x.length ≤ 1000) (hl' : y.length ≤ 1000) :
    ev Γ (.bin .add a m) env = some (.v (.own (nats (x ++ y))), env) := by
  have fits : (nats x).length + (nats y).length ≤ sizeLine := add_fits (by rw [nats_len]; exact hl) (by rw [nats_len]; exact hl')
  rw [ev, h, Option.bind_some]
  simp only [k, Option.bind_some, hc, kc, binD, fits, if_true, Option.map_some, nats_cat]
/-! conditions -/
section
variable {Γ : Ctx} {env e1 : Env}
theorem evC_inv {c : ME} {p : Bool} (h : evC Γ c env = some (p, e1)) : ∃ r, ev Γ c env = some (r, e1) ∧ truR e1 r = some p := by
  unfold evC at h
  obtain ⟨⟨r, e⟩, h1, h2⟩ := Option.bind_eq_some_iff.mp h
  obtain ⟨k, h3, h4⟩ := Option.map_eq_some_iff.mp h2
  cases h4
  exact ⟨r, h1, h3⟩
theorem evC_r {c : ME} {p : Bool} {r : Rv} (h : ev Γ c env = some (r, e1)) (k : truR e1 r = some p) : evC Γ c env = some (p, e1) := by
  rw [evC, h, Option.bind_some]
  simp only [k, Option.map_some]
theorem evC_and {a b : ME} {p q : Bool} (h : evC Γ a env = some (p, env)) (k : p = true → evC Γ b env = some (q, env)) : evC Γ (.andE a b) env = some (p && q, env) := by
  obtain ⟨r, h1, h2⟩ := evC_inv h
  cases p with
  | true =>
    have e : ev Γ (.andE a b) env = ev Γ b env := by
      rw [ev, h1, Option.bind_some]
      simp only [h2, Option.bind_some, if_true]
    rw [evC, e]
    exact k rfl
  | false =>
    refine evC_r (r := r) ?_ h2
    rw [ev, h1, Option.bind_some]
    simp only [h2, Option.bind_some, Bool.false_eq_true, if_false]
theorem evC_or {a b : ME} {p q : Bool} (h : evC Γ a env = some (p, env)) (k : p = false → evC Γ b env = some (q, env)) : evC Γ (.orE a b) env = some (p || q, env) := by
  obtain ⟨r, h1, h2⟩ := evC_inv h
  cases p with
  | false =>
    have e : ev Γ (.orE a b) env = ev Γ b env := by
      rw [ev, h1, Option.bind_some]
      simp only [h2, Option.bind_some, Bool.false_eq_true, if_false]
    rw [evC, e]
    exact k rfl
  | true =>
    refine evC_r (r := r) ?_ h2
    rw [ev, h1, Option.bind_some]
    simp only [h2, Option.bind_some, if_true]
theorem ev_notC {a : ME} {p : Bool} (h : evC Γ a env = some (p, e1)) : ev Γ (.notE a) env = some (.v (.d (.bool (!p))), e1) := by
  obtain ⟨r, h1, h2⟩ := evC_inv h
  rw [ev, h1, Option.bind_some]
  simp only [h2, Option.map_some]
theorem evC_not {a : ME} {p : Bool} (h : evC Γ a env = some (p, e1)) : evC Γ (.notE a) env = some (!p, e1) := evC_b (ev_notC h)
theorem ev_ite {c a b : ME} {p : Bool} (h : evC Γ c env = some (p, e1)) : ev Γ (.ite c a b) env = if p then ev Γ a e1 else ev Γ b e1 := by
  obtain ⟨r, h1, h2⟩ := evC_inv h
  rw [ev, h1, Option.bind_some]
  simp only [h2, Option.bind_some]
theorem evC_ite {c a b : ME} {p : Bool} (h : evC Γ c env = some (p, e1)) : evC Γ (.ite c a b) env = if p then evC Γ a e1 else evC Γ b e1 := by
  rw [evC, ev_ite h]
  cases p <;> rfl
theorem evC_list {i : Nat} {xs : List D} (h : rd env i = some (.own xs) ∨ rd env i = some (.d (.list xs))) : evC Γ (.var i) env = some (!xs.isEmpty, env) := by
  rcases h with h | h
  · refine evC_r (ev_ali h) ?_
    simp [truR, cur, h, valD, truD]
  · refine evC_r (ev_var h) ?_
    simp [truR, cur_v, truD]
theorem evC_cmp {op : COp} {a b : ME} {x y : D} {c : Bool} {e2 : Env} (h : ev Γ a env = some (.v (.d x), e1)) (k : ev Γ b e1 = some (.v (.d y), e2)) (hc : cmpD op x y = some c) : evC Γ (.cmp op a b) env = some (c, e2) := evC_b (ev_cmpS h k hc)
theorem ev_bool {c : ME} {p : Bool} (h : ev Γ c env = some (.v (.d (.bool p)), e1)) : evC Γ c env = some (p, e1) := evC_b h
theorem ev_chain {op op' : COp} {a b c : ME} {x y z : D} {p q : Bool} (h1 : ev Γ a env = some (.v (.d x), env)) (h2 : ev Γ b env = some (.v (.d y), env)) (h3 : ev Γ c env = some (.v (.d z), env)) (k1 : cmpD op x y = some p) (k2 : cmpD op' y z = some q) :
    ev Γ (.chain op op' a b c) env = some (.v (.d (.bool (p && q))), env) := by
  rw [ev, h1, Option.bind_some]
  simp only [h2, Option.bind_some, cur_v, k1]
  cases p with
  | false => simp
  | true =>
    simp only [if_true, h3, Option.bind_some, cur_v, k2, Option.map_some, Bool.true_and]
theorem any_ev {me : ME} {α : Type} {l : List α} {p : α → Bool} (h : ev Γ me env = some (.v (.own (l.map fun k => .bool (p k))), e1)) : ev Γ (.bi .any [me]) env = some (.v (.d (.bool (l.any p))), e1) := by
  have hb := bools_map p l
  have he : (l.map fun k => PyData.bool (p k)) = l.map (PyData.bool ∘ p) := rfl
  rw [ev, evL, h, Option.bind_some]
  simp only [evL, Option.map_some, Option.bind_some, curs, cur, valD, biD, biAny, he, hb, List.any_map]
  rfl
theorem len_evR {me : ME} {r : Rv} {xs : List D} (h : ev Γ me env = some (r, e1)) (hc : cur e1 r = some (.list xs)) : ev Γ (.bi .len [me]) env = some (.v (.d (.int (xs.length : Int))), e1) := by
  rw [ev, evL, h, Option.bind_some]
  simp only [evL, Option.map_some, Option.bind_some, curs, hc, biD, biLen]
theorem len_var {i : Nat} {xs : List D} (h : rd env i = some (.own xs) ∨ rd env i = some (.d (.list xs))) : ev Γ (.bi .len [(.var i)]) env = some (.v (.d (.int (xs.length : Int))), env) := by
  rcases h with h | h
  · exact len_evR (ev_ali h) (by simp [cur, h, valD])
  · exact len_evR (ev_var h) cur_v
theorem idx_var {i : Nat} {b : ME} {xs : List D} {y z : D} (h : rd env i = some (.own xs) ∨ rd env i = some (.d (.list xs))) (k : ev Γ b env = some (.v (.d y), env)) (hz : idxD (.list xs) y = some z) : ev Γ (.idx (.var i) b) env = some (.v (.d z), env) := by
  rcases h with h | h
  · exact ev_idxA h k hz
  · exact ev_idxV (ev_var h) k hz
end
theorem cmp_neB {p q : Bool} : cmpD .ne (.bool p) (.bool q) = some (p != q) := by
  rw [cmp_ne ok_bool ok_bool, eqv_bool]
  cases p <;> cases q <;> rfl
theorem ge_nat {a b : Nat} : cmpD .ge (.int (a : Int)) (.int (b : Int)) = some (decide (b ≤ a)) := by
  simp only [cmpD, Option.some.injEq]; exact decide_eq_decide.mpr (by omega)
theorem gt_nat {a b : Nat} : cmpD .gt (.int (a : Int)) (.int (b : Int)) = some (decide (b < a)) := by
  simp only [cmpD, Option.some.injEq]; exact decide_eq_decide.mpr (by omega)
theorem le_nat {a b : Nat} : cmpD .le (.int (a : Int)) (.int (b : Int)) = some (decide (a ≤ b)) := by
  simp only [cmpD, Option.some.injEq]; exact decide_eq_decide.mpr (by omega)
theorem lt_nat {a b : Nat} : cmpD .lt (.int (a : Int)) (.int (b : Int)) = some (decide (a < b)) := by
  simp only [cmpD, Option.some.injEq]; exact decide_eq_decide.mpr (by omega)
theorem eq_nat {a b : Nat} : cmpD .eq (.int (a : Int)) (.int (b : Int)) = some (decide (a = b)) := by
  rw [cmp_eq ok_int ok_int, eqv_int]; exact congrArg some (decide_eq_decide.mpr (by omega))
theorem ne_nat {a b : Nat} : cmpD .ne (.int (a : Int)) (.int (b : Int)) = some (!decide (a = b)) := by
  rw [cmp_ne ok_int ok_int, eqv_int]; exact congrArg (fun z => some (!z)) (decide_eq_decide.mpr (by omega))
theorem mem_natsI {a : Int} {l : List Nat} : memD (.int a) (.list (nats l)) = some (l.any fun m => decide ((m : Int) = a)) := by
  unfold memD
  simp only [ok_int, ok_natL l, Bool.and_self, if_true, Option.some.injEq]
  unfold nats
  rw [List.any_map]
  simp only [Function.comp_def, eqv_int]
/-! least and greatest -/
theorem minB_nats (l : List Nat) : minB (nats l) = true := by
  unfold minB alikeB nats
  rw [Bool.and_eq_true]
  refine ⟨List.all_eq_true.mpr fun x hx => ?_, List.all_eq_true.mpr fun x hx => ?_⟩
  · obtain ⟨a, _, rfl⟩ := List.mem_map.mp hx
    rw [Bool.and_eq_true]
    refine ⟨List.all_eq_true.mpr fun y hy => ?_, ok_int⟩
    obtain ⟨b, _, rfl⟩ := List.mem_map.mp hy
    simp [W.alike]
  · obtain ⟨a, _, rfl⟩ := List.mem_map.mp hx
    rfl
theorem fold_min : ∀ (l : List Nat) (a : Nat), (l.map fun n : Nat => (n : Int)).foldl min (a : Int) = ((l.foldl min a : Nat) : Int)
  | [], a => rfl
  | x :: r, a => by
    rw [List.map_cons, List.foldl_cons, List.foldl_cons, show min (a : Int) (x : Int) = ((min a x : Nat) : Int) by omega, fold_min r (min a x)]
theorem fold_max : ∀ (l : List Nat) (a : Nat), (l.map fun n : Nat => (n : Int)).foldl max (a : Int) = ((l.foldl max a : Nat) : Int)
  | [], a => rfl
  | x :: r, a => by
    rw [List.map_cons, List.foldl_cons, List.foldl_cons, show max (a : Int) (x : Int) = ((max a x : Nat) : Int) by omega, fold_max r (max a x)]
theorem min_nats {l : List Nat} {m : Nat} (h : l.min? = some m) : biMin1 [.list (nats l)] = some (.d (.int (m : Int))) := by
  cases l with
  | nil => cases h
  | cons a r =>
    rw [List.min?_cons'] at h
    cases h
    have e : biMin1 [.list (nats (a :: r))] = if minB (nats (a :: r)) then some (.d (W.minD (.int (a : Int)) (nats r))) else none := rfl
    have e2 : nats r = (r.map fun n : Nat => (n : Int)).map PyData.int := by simp [nats]
    rw [e, minB_nats, if_pos rfl, e2, W.minD_ints, fold_min]
theorem max_nats {l : List Nat} {m : Nat} (h : l.max? = some m) : biMax1 [.list (nats l)] = some (.d (.int (m : Int))) := by
  cases l with
  | nil => cases h
  | cons a r =>
    rw [List.max?_cons'] at h
    cases h
    have e : biMax1 [.list (nats (a :: r))] = if minB (nats (a :: r)) then some (.d (W.maxD (.int (a : Int)) (nats r))) else none := rfl
    have e2 : nats r = (r.map fun n : Nat => (n : Int)).map PyData.int := by simp [nats]
    rw [e, minB_nats, if_pos rfl, e2, W.maxD_ints, fold_max]
theorem min_some {l : List Nat} (h : l ≠ []) : ∃ m, l.min? = some m ∧ m ∈ l ∧ ∀ x ∈ l, m ≤ x := by
  cases e : l.min? with
  | none => exact absurd (List.min?_eq_none_iff.mp e) h
  | some m => exact ⟨m, rfl, (List.min?_eq_some_iff.mp e).1, (List.min?_eq_some_iff.mp e).2⟩
theorem max_some {l : List Nat} (h : l ≠ []) : ∃ m, l.max? = some m ∧ m ∈ l ∧ ∀ x ∈ l, x ≤ m := by
  cases e : l.max? with
  | none => exact absurd (List.max?_eq_none_iff.mp e) h
  | some m => exact ⟨m, rfl, (List.max?_eq_some_iff.mp e).1, (List.max?_eq_some_iff.mp e).2⟩
theorem bi1_var {Γ : Ctx} {env : Env} {b : Bi} {i : Nat} {xs : List D} {w : Val} (h : rd env i = some (.own xs) ∨ rd env i = some (.d (.list xs))) (hw : biD b [.list xs] = some w) : ev Γ (.bi b [(.var i)]) env = some (.v w, env) := by
  rcases h with h | h
  · rw [ev, evL, ev_ali h, Option.bind_some]
    have hc : cur env (.ali i) = some (.list xs) := by simp [cur, h, valD]
    simp only [evL, Option.map_some, Option.bind_some, curs, hc, hw]
  · rw [ev, evL, ev_var h, Option.bind_some]
    simp only [evL, Option.map_some, Option.bind_some, curs, cur_v, hw]
/-! loops that go on or tell the first -/
def fsI {α : Type} (res : Nat → α → Option D) : Nat → List α → Option D
  | _, [] => none
  | i, a :: r => match res i a with
    | some d => some d
    | none => fsI res (i + 1) r
def fsE (J : Env → Prop) : Option D → Res → Prop
  | some d, r => ∃ e, r = .rt (.v (.d d)) e
  | none, r => ∃ e, J e ∧ r = .nx e
theorem for_first {α : Type} {Γ : Ctx} {L lk : List Nat} {g : Option (Nat × List D)} {tg : Tg} {it : MI} {b : List MS} {env e1 : Env} {items : List D} (enc : Nat → α → D) (l : List α) (res : Nat → α → Option D) (J : Env → Prop)
    (hs : evI Γ it env = some (⟨items, lk, g⟩, e1)) (hi : ∀ i x, items[i]? = some x → ∃ a, l[i]? = some a ∧ x = enc i a) (hlen : items.length = l.length) (hg : ∀ e, J e → gOk g e) (h0 : J e1)
    (h : ∀ i a e, l[i]? = some a → J e → ∃ e2, bindT (lk ++ L) tg (enc i a) e = some e2 ∧ OK (evSs Γ (lk ++ L) b e2) (fsE J (res i a))) : OK (evS Γ L (.for_ tg it b) env) (fsE J (fsI res 0 l)) := by
  refine ok_for hs (fun i e => J e ∧ fsI res 0 l = fsI res i (l.drop i)) ⟨h0, rfl⟩ ?_ ?_
  · rintro i x e hx ⟨hJ, hf⟩
    obtain ⟨a, ha, rfl⟩ := hi i x hx
    obtain ⟨e2, b1, r, b2, b3⟩ := h i a e ha hJ
    refine ⟨hg e hJ, e2, b1, r, b2, ?_⟩
    rw [drop_at ha, fsI] at hf
    cases hr : res i a with
    | some d =>
      rw [hr] at b3 hf
      obtain ⟨e', rfl⟩ := b3
      show fsE J (fsI res 0 l) _
      rw [hf]
      exact ⟨e', rfl⟩
    | none =>
      rw [hr] at b3 hf
      obtain ⟨e', c1, rfl⟩ := b3
      exact ⟨c1, hf⟩
  · rintro e ⟨hJ, hf⟩
    have hf : fsI res 0 l = fsI res items.length (l.drop items.length) := hf
    rw [hlen, List.drop_length] at hf
    refine ⟨hg e hJ, ?_⟩
    rw [hf]
    exact ⟨e, hJ, rfl⟩
theorem fsI_none {α : Type} {res : Nat → α → Option D} : ∀ {l : List α} {i : Nat}, fsI res i l = none ↔ ∀ k a, l[k]? = some a → res (i + k) a = none
  | [], i => by simp [fsI]
  | a :: r, i => by
    rw [fsI]
    cases h : res i a with
    | some d =>
      refine ⟨(fun z => nomatch z), fun z => ?_⟩
      have := z 0 a rfl
      rw [Nat.add_zero, h] at this
      cases this
    | none =>
      simp only
      rw [fsI_none]
      constructor
      · intro z k b hb
        cases k with
        | zero => cases hb; exact h
        | succ k => rw [show i + (k + 1) = i + 1 + k by omega]; exact z k b hb
      · intro z k b hb
        rw [show i + 1 + k = i + (k + 1) by omega]
        exact z (k + 1) b hb
theorem fsI_congr {α β : Type} {res : Nat → α → Option D} {res' : Nat → β → Option D} : ∀ {l : List α} {l' : List β} {i j : Nat}, l.length = l'.length → (∀ k a b, l[k]? = some a → l'[k]? = some b → res (i + k) a = res' (j + k) b) → fsI res i l = fsI res' j l'
  | [], [], _, _, _, _ => rfl
  | [], b :: r', _, _, h, _ => by simp at h
  | a :: r, [], _, _, h, _ => by simp at h
  | a :: r, b :: r', i, j, h, k => by
    have h0 := k 0 a b rfl rfl
    rw [Nat.add_zero, Nat.add_zero] at h0
    rw [fsI, fsI, h0]
    have := fsI_congr (l := r) (l' := r') (i := i + 1) (j := j + 1) (by simpa using h) fun n x y hx hy => by
      have := k (n + 1) x y hx hy
      rw [show i + 1 + n = i + (n + 1) by omega, show j + 1 + n = j + (n + 1) by omega]
      exact this
    rw [this]
end Ev

namespace Ev
open PySem L2
/-! ### typed values: what they are as data -/
class En (α : Type) where
  e : α → D
class Eo (α : Type) [En α] where
  dep : Nat
  pl : ∀ a : α, (En.e a).plain = true
  dp : ∀ a : α, (En.e a).depth ≤ dep
  ij : ∀ a b : α, (En.e a).eqv (En.e b) = true ↔ a = b
/-- never None -/
class Nn (α : Type) [En α] : Prop where
  nn : ∀ a : α, isNon (En.e a) = false
/-- no list within -/
class Fl (α : Type) [En α] : Prop where
  fl : ∀ a : α, noList (En.e a) = true
/-- always a list within -/
class Nf (α : Type) [En α] : Prop where
  nf : ∀ a : α, noList (En.e a) = false
class Ak (α : Type) [En α] : Prop where
  ak : ∀ a b : α, W.alike (En.e a) (En.e b) = true
structure T1 (α : Type) where
  a : α
  deriving DecidableEq
structure T3 (α β γ : Type) where
  a : α
  b : β
  c : γ
  deriving DecidableEq
structure T4 (α β γ δ : Type) where
  a : α
  b : β
  c : γ
  d : δ
  deriving DecidableEq
structure T5 (α β γ δ ε : Type) where
  a : α
  b : β
  c : γ
  d : δ
  e : ε
  deriving DecidableEq
structure T6 (α β γ δ ε ζ : Type) where
  a : α
  b : β
  c : γ
  d : δ
  e : ε
  f : ζ
  deriving DecidableEq
/-- a word and numbers behind it -/
structure Wd where
  w : Str
  ns : List Int
  deriving DecidableEq
structure Tp (α : Type) where
  l : List α
  deriving DecidableEq
instance : En Int := ⟨PyData.int⟩
instance : En Bool := ⟨PyData.bool⟩
instance : En Str := ⟨PyData.str⟩
instance : En D := ⟨fun x => x⟩
instance : En Unit := ⟨fun _ => PyData.none⟩
instance {α : Type} [En α] : En (List α) := ⟨fun l => PyData.list (l.map En.e)⟩
instance {α : Type} [En α] : En (Tp α) := ⟨fun l => PyData.tuple (l.l.map En.e)⟩
instance {α β : Type} [En α] [En β] : En (α × β) := ⟨fun p => PyData.tuple [En.e p.1, En.e p.2]⟩
instance {α : Type} [En α] : En (T1 α) := ⟨fun p => PyData.tuple [En.e p.a]⟩
instance {α β γ : Type} [En α] [En β] [En γ] : En (T3 α β γ) := ⟨fun p => PyData.tuple [En.e p.a, En.e p.b, En.e p.c]⟩
instance {α β γ δ : Type} [En α] [En β] [En γ] [En δ] : En (T4 α β γ δ) := ⟨fun p => PyData.tuple [En.e p.a, En.e p.b, En.e p.c, En.e p.d]⟩
instance {α β γ δ ε : Type} [En α] [En β] [En γ] [En δ] [En ε] : En (T5 α β γ δ ε) := ⟨fun p => PyData.tuple [En.e p.a, En.e p.b, En.e p.c, En.e p.d, En.e p.e]⟩
instance {α β γ δ ε ζ : Type} [En α] [En β] [En γ] [En δ] [En ε] [En ζ] : En (T6 α β γ δ ε ζ) := ⟨fun p => PyData.tuple [En.e p.a, En.e p.b, En.e p.c, En.e p.d, En.e p.e, En.e p.f]⟩
instance : En Wd := ⟨fun p => PyData.tuple (PyData.str p.w :: p.ns.map PyData.int)⟩
instance {α : Type} [En α] : En (Option α) := ⟨fun o => match o with
  | none => PyData.none
  | some a => En.e a⟩
section
variable {α β γ δ ε ζ : Type} [En α] [En β] [En γ] [En δ] [En ε] [En ζ]
theorem eo_pls [Eo α] : ∀ l : List α, PyData.plainAll (l.map En.e) = true
  | [] => rfl
  | a :: r => by simp only [List.map_cons, PyData.plainAll, Eo.pl a, eo_pls r, Bool.and_self]
theorem eo_dps [Eo α] : ∀ l : List α, PyData.depthAll (l.map En.e) ≤ Eo.dep α
  | [] => by simp [PyData.depthAll]
  | a :: r => by
    have := eo_dps r
    have := Eo.dp a
    simp only [List.map_cons, PyData.depthAll]
    omega
theorem eo_ijs [Eo α] : ∀ l m : List α, PyData.eqvAll (l.map En.e) (m.map En.e) = true ↔ l = m
  | [], [] => by simp [PyData.eqvAll]
  | [], b :: s => by simp [PyData.eqvAll]
  | a :: r, [] => by simp [PyData.eqvAll]
  | a :: r, b :: s => by
    simp only [List.map_cons, PyData.eqvAll, Bool.and_eq_true, Eo.ij a b, eo_ijs r s, List.cons.injEq]
instance : Eo Int where
  dep := 0
  pl _ := rfl
  dp _ := by simp [En.e, PyData.depth]
  ij a b := by simp [En.e, PyData.eqv]
instance : Eo Bool where
  dep := 0
  pl _ := rfl
  dp _ := by simp [En.e, PyData.depth]
  ij a b := by simp [En.e, PyData.eqv]
instance : Eo Str where
  dep := 0
  pl _ := rfl
  dp _ := by simp [En.e, PyData.depth]
  ij a b := by simp [En.e, PyData.eqv]
instance : Eo Unit where
  dep := 0
  pl _ := rfl
  dp _ := by simp [En.e, PyData.depth]
  ij a b := by simp [En.e, PyData.eqv]
instance [Eo α] : Eo (List α) where
  dep := Eo.dep α + 1
  pl l := by simp only [En.e, PyData.plain]; exact eo_pls l
  dp l := by simp only [En.e, PyData.depth]; have := eo_dps l; omega
  ij a b := by simp only [En.e, PyData.eqv]; exact eo_ijs a b
instance [Eo α] : Eo (Tp α) where
  dep := Eo.dep α + 1
  pl l := by simp only [En.e, PyData.plain]; exact eo_pls l.l
  dp l := by simp only [En.e, PyData.depth]; have := eo_dps l.l; omega
  ij a b := by
    simp only [En.e, PyData.eqv]
    rw [eo_ijs a.l b.l]
    cases a; cases b; simp
instance [Eo α] [Eo β] : Eo (α × β) where
  dep := max (Eo.dep α) (Eo.dep β) + 1
  pl p := by simp only [En.e, PyData.plain, PyData.plainAll, Eo.pl, Bool.and_self]
  dp p := by
    have := Eo.dp p.1; have := Eo.dp p.2
    simp only [En.e, PyData.depth, PyData.depthAll] at *; omega
  ij a b := by
    cases a; cases b
    simp only [En.e, PyData.eqv, PyData.eqvAll, Bool.and_eq_true, Prod.mk.injEq, and_true]
    exact and_congr (Eo.ij _ _) (Eo.ij _ _)
instance [Eo α] : Eo (T1 α) where
  dep := Eo.dep α + 1
  pl p := by simp only [En.e, PyData.plain, PyData.plainAll, Eo.pl, Bool.and_self]
  dp p := by
    have := Eo.dp p.a
    simp only [En.e, PyData.depth, PyData.depthAll] at *; omega
  ij a b := by
    cases a; cases b
    simp only [En.e, PyData.eqv, PyData.eqvAll, Bool.and_eq_true, T1.mk.injEq, and_true]
    exact Eo.ij _ _
instance [Eo α] [Eo β] [Eo γ] : Eo (T3 α β γ) where
  dep := max (Eo.dep α) (max (Eo.dep β) (Eo.dep γ)) + 1
  pl p := by simp only [En.e, PyData.plain, PyData.plainAll, Eo.pl, Bool.and_self]
  dp p := by
    have := Eo.dp p.a; have := Eo.dp p.b; have := Eo.dp p.c
    simp only [En.e, PyData.depth, PyData.depthAll] at *; omega
  ij a b := by
    cases a; cases b
    simp only [En.e, PyData.eqv, PyData.eqvAll, Bool.and_eq_true, T3.mk.injEq, and_true]
    exact and_congr (Eo.ij _ _) (and_congr (Eo.ij _ _) (Eo.ij _ _))
instance [Eo α] [Eo β] [Eo γ] [Eo δ] : Eo (T4 α β γ δ) where
  dep := max (Eo.dep α) (max (Eo.dep β) (max (Eo.dep γ) (Eo.dep δ))) + 1
  pl p := by simp only [En.e, PyData.plain, PyData.plainAll, Eo.pl, Bool.and_self]
  dp p := by
    have := Eo.dp p.a; have := Eo.dp p.b; have := Eo.dp p.c; have := Eo.dp p.d
    simp only [En.e, PyData.depth, PyData.depthAll] at *; omega
  ij a b := by
    cases a; cases b
    simp only [En.e, PyData.eqv, PyData.eqvAll, Bool.and_eq_true, T4.mk.injEq, and_true]
    exact and_congr (Eo.ij _ _) (and_congr (Eo.ij _ _) (and_congr (Eo.ij _ _) (Eo.ij _ _)))
instance : Eo Wd where
  dep := 1
  pl p := by simp only [En.e, PyData.plain, PyData.plainAll, Bool.true_and]; exact eo_pls p.ns
  dp p := by
    have : PyData.depthAll (p.ns.map PyData.int) ≤ 0 := eo_dps p.ns
    simp only [En.e, PyData.depth, PyData.depthAll] at *; omega
  ij a b := by
    cases a; cases b
    simp only [En.e, PyData.eqv, PyData.eqvAll, Bool.and_eq_true, Wd.mk.injEq]
    exact and_congr (by simp) (eo_ijs _ _)
instance [Eo α] [Nn α] : Eo (Option α) where
  dep := Eo.dep α
  pl o := by
    cases o with
    | none => rfl
    | some a => exact Eo.pl a
  dp o := by
    cases o with
    | none => simp [En.e, PyData.depth]
    | some a => exact Eo.dp a
  ij o u := by
    cases o with
    | none =>
      cases u with
      | none => simp [En.e, PyData.eqv]
      | some b =>
        have h := Nn.nn b
        have : PyData.eqv .none (En.e b) = false := by
          cases q : En.e b <;> simp [PyData.eqv, isNon, q] at h ⊢
        simp only [En.e] at this ⊢
        rw [this]; simp
    | some a =>
      cases u with
      | none =>
        have h := Nn.nn a
        have : PyData.eqv (En.e a) .none = false := by
          cases q : En.e a <;> simp [PyData.eqv, isNon, q] at h ⊢
        simp only [En.e] at this ⊢
        rw [this]; simp
      | some b => exact (Eo.ij a b).trans (by simp)
instance : Nn Int := ⟨fun _ => rfl⟩
instance : Nn Bool := ⟨fun _ => rfl⟩
instance : Nn Str := ⟨fun _ => rfl⟩
instance : Nn (List α) := ⟨fun _ => rfl⟩
instance : Nn (Tp α) := ⟨fun _ => rfl⟩
instance : Nn (α × β) := ⟨fun _ => rfl⟩
instance : Nn (T1 α) := ⟨fun _ => rfl⟩
instance : Nn (T3 α β γ) := ⟨fun _ => rfl⟩
instance : Nn (T4 α β γ δ) := ⟨fun _ => rfl⟩
instance : Nn (T5 α β γ δ ε) := ⟨fun _ => rfl⟩
instance : Nn (T6 α β γ δ ε ζ) := ⟨fun _ => rfl⟩
instance : Nn Wd := ⟨fun _ => rfl⟩
theorem fl_alls [Fl α] : ∀ l : List α, noListL (l.map En.e) = true
  | [] => rfl
  | a :: r => by simp only [List.map_cons, noListL, Fl.fl a, fl_alls r, Bool.and_self]
instance : Fl Int := ⟨fun _ => rfl⟩
instance : Fl Bool := ⟨fun _ => rfl⟩
instance : Fl Str := ⟨fun _ => rfl⟩
instance : Fl Unit := ⟨fun _ => rfl⟩
instance [Fl α] : Fl (Tp α) := ⟨fun l => by simp only [En.e, noList]; exact fl_alls _⟩
instance [Fl α] [Fl β] : Fl (α × β) := ⟨fun p => by simp only [En.e, noList, noListL, Fl.fl, Bool.and_self]⟩
instance [Fl α] : Fl (T1 α) := ⟨fun p => by simp only [En.e, noList, noListL, Fl.fl, Bool.and_self]⟩
instance [Fl α] [Fl β] [Fl γ] : Fl (T3 α β γ) := ⟨fun p => by simp only [En.e, noList, noListL, Fl.fl, Bool.and_self]⟩
instance [Fl α] [Fl β] [Fl γ] [Fl δ] : Fl (T4 α β γ δ) := ⟨fun p => by simp only [En.e, noList, noListL, Fl.fl, Bool.and_self]⟩
instance : Fl Wd := ⟨fun p => by simp only [En.e, noList, noListL, Bool.true_and]; exact fl_alls p.ns⟩
instance [Fl α] : Fl (Option α) := ⟨fun o => by
  cases o with
  | none => rfl
  | some a => exact Fl.fl a⟩
instance : Nf (List α) := ⟨fun _ => rfl⟩
instance nf_1 [Nf α] : Nf (α × β) := ⟨fun p => by simp only [En.e, noList, noListL, Nf.nf, Bool.false_and]⟩
instance nf_2 [Nf β] : Nf (α × β) := ⟨fun p => by simp only [En.e, noList, noListL, Nf.nf, Bool.false_and, Bool.and_false]⟩
instance nf_31 [Nf α] : Nf (T3 α β γ) := ⟨fun p => by simp only [En.e, noList, noListL, Nf.nf, Bool.false_and, Bool.and_false]⟩
instance nf_32 [Nf β] : Nf (T3 α β γ) := ⟨fun p => by simp only [En.e, noList, noListL, Nf.nf, Bool.false_and, Bool.and_false]⟩
instance nf_33 [Nf γ] : Nf (T3 α β γ) := ⟨fun p => by simp only [En.e, noList, noListL, Nf.nf, Bool.false_and, Bool.and_false]⟩
instance nf_41 [Nf α] : Nf (T4 α β γ δ) := ⟨fun p => by simp only [En.e, noList, noListL, Nf.nf, Bool.false_and, Bool.and_false]⟩
instance nf_42 [Nf β] : Nf (T4 α β γ δ) := ⟨fun p => by simp only [En.e, noList, noListL, Nf.nf, Bool.false_and, Bool.and_false]⟩
instance nf_43 [Nf γ] : Nf (T4 α β γ δ) := ⟨fun p => by simp only [En.e, noList, noListL, Nf.nf, Bool.false_and, Bool.and_false]⟩
instance nf_44 [Nf δ] : Nf (T4 α β γ δ) := ⟨fun p => by simp only [En.e, noList, noListL, Nf.nf, Bool.false_and, Bool.and_false]⟩
instance nf_51 [Nf α] : Nf (T5 α β γ δ ε) := ⟨fun p => by simp only [En.e, noList, noListL, Nf.nf, Bool.false_and, Bool.and_false]⟩
instance nf_61 [Nf α] : Nf (T6 α β γ δ ε ζ) := ⟨fun p => by simp only [En.e, noList, noListL, Nf.nf, Bool.false_and, Bool.and_false]⟩
theorem ak_alls [Ak α] : ∀ l m : List α, W.alikeAll (l.map En.e) (m.map En.e) = true
  | [], _ => by simp [W.alikeAll]
  | _ :: _, [] => by simp [W.alikeAll]
  | a :: r, b :: s => by simp only [List.map_cons, W.alikeAll, Ak.ak a b, ak_alls r s, Bool.and_self]
instance : Ak Int := ⟨fun _ _ => rfl⟩
instance : Ak Bool := ⟨fun _ _ => rfl⟩
instance : Ak Str := ⟨fun _ _ => rfl⟩
instance [Ak α] : Ak (List α) := ⟨fun l m => by simp only [En.e, W.alike]; exact ak_alls l m⟩
instance [Ak α] : Ak (Tp α) := ⟨fun l m => by simp only [En.e, W.alike]; exact ak_alls l.l m.l⟩
instance [Ak α] [Ak β] : Ak (α × β) := ⟨fun p q => by simp only [En.e, W.alike, W.alikeAll, Ak.ak, Bool.and_self]⟩
instance [Ak α] [Ak β] [Ak γ] : Ak (T3 α β γ) := ⟨fun p q => by simp only [En.e, W.alike, W.alikeAll, Ak.ak, Bool.and_self]⟩
instance [Ak α] [Ak β] [Ak γ] [Ak δ] : Ak (T4 α β γ δ) := ⟨fun p q => by simp only [En.e, W.alike, W.alikeAll, Ak.ak, Bool.and_self]⟩
theorem okEn [Eo α] (h : Eo.dep α ≤ 60) (a : α) : okD (En.e a) = true := by
  unfold okD
  rw [Eo.pl a, Bool.true_and]
  exact decide_eq_true (Nat.le_trans (Eo.dp a) h)
theorem e_inj [Eo α] {a b : α} (h : En.e a = En.e b) : a = b := (Eo.ij a b).mp (by rw [h]; exact eqv_self _ (Eo.pl b))
theorem eqvE [Eo α] [DecidableEq α] (a b : α) : (En.e a).eqv (En.e b) = decide (a = b) := by
  by_cases h : a = b
  · rw [decide_eq_true h]; exact (Eo.ij a b).mpr h
  · rw [decide_eq_false h]
    cases q : (En.e a).eqv (En.e b)
    · rfl
    · exact absurd ((Eo.ij a b).mp q) h
open Classical in
noncomputable def decO (α : Type) [En α] (x : D) : Option α := if h : ∃ a : α, En.e a = x then some (choose h) else none
theorem decO_some {x : D} {a : α} (h : decO α x = some a) : En.e a = x := by
  unfold decO at h
  split at h
  · rename_i q
    cases h
    exact Classical.choose_spec q
  · cases h
theorem decO_e [Eo α] (a : α) : decO α (En.e a) = some a := by
  have q : ∃ b : α, En.e b = En.e a := ⟨a, rfl⟩
  unfold decO
  rw [dif_pos q]
  exact congrArg some (e_inj (Classical.choose_spec q))
/-! ### what the words do on typed values -/
def atO {α : Type} (xs : List α) (i : Int) : Option α := atI xs i
def catO {α : Type} (xs ys : List α) : Option (List α) := if xs.length + ys.length ≤ sizeLine then some (xs ++ ys) else none
def appO {α : Type} (xs : List α) (x : α) : Option (List α) := if xs.length < sizeLine then some (xs ++ [x]) else none
def setO {α : Type} (xs : List α) (i : Int) (v : α) : Option (List α) := (ixN xs.length i).map fun j => xs.set j v
def mulO (i j : Int) : Option Int := if MulB i j then some (i * j) else none
def fdivO (i j : Int) : Option Int := if 0 < j ∧ j.natAbs.log2 < 9000 then some (i / j) else none
def modO (i j : Int) : Option Int := if 0 < j then some (i % j) else none
def powO (i j : Int) : Option Int := if 0 ≤ j ∧ j ≤ 1000000 ∧ i.natAbs < 2 ^ 64 then some (i ^ j.toNat) else none
def rngT (i j : Int) : List Int := (List.range (j - i).toNat).map fun k : Nat => i + (k : Int)
def rngO (i j : Int) : Option (List Int) := if rngOk i j then some (rngT i j) else none
def dnT (i j : Int) : List Int := (List.range (i - j).toNat).map fun k : Nat => i + (k : Int) * (-1)
def dnO (i j : Int) : Option (List Int) := if rngOk i j then some (dnT i j) else none
def enumT {α : Type} : Nat → List α → List (Int × α)
  | _, [] => []
  | k, x :: xs => ((k : Int), x) :: enumT (k + 1) xs
def ltT (a b : α) : Bool := W.dataLt (En.e a) (En.e b)
def leT (a b : α) : Bool := !ltT b a
def minO : List α → Option α
  | [] => none
  | x :: xs => some (xs.foldl (fun a y => if ltT y a then y else a) x)
def maxO : List α → Option α
  | [] => none
  | x :: xs => some (xs.foldl (fun a y => if ltT a y then y else a) x)
def sortT (xs : List α) : List α := xs.mergeSort leT
def setO' (xs : List Int) : Option (List Int) := if xs.length < 1000 ∧ (setI xs).length < 64 then some (setI xs) else none
def lsetO (xs : List Int) : Option Int := if xs.length < 1000 then some (((setI xs).length : Nat) : Int) else none
def min2 (i j : Int) : Int := if j < i then j else i
def max2 (i j : Int) : Int := if i < j then j else i
def absT (i : Int) : Int := if i < 0 then -i else i
def b2T (b : Bool) : Int := if b then 1 else 0
def strO (x y : Str) : Option Str := if x.length + y.length ≤ sizeLine then some (x ++ y) else none
def reprO (x : α) : Option Str := if shB (En.e x) then some (En.e x).shown else none
def eqO (x y : D) : Option Bool := cmpD .eq x y
def lenDO : D → Option Int
  | .list xs => some xs.length
  | .tuple xs => some xs.length
  | _ => none
def mapO {α β : Type} (f : α → Option β) : List α → Option (List β)
  | [] => some []
  | a :: r => (f a).bind fun y => (mapO f r).map fun ys => y :: ys
def lcO {α β : Type} (c : α → Option Bool) (f : α → Option β) : List α → Option (List β)
  | [] => some []
  | a :: r => (c a).bind fun p => if p then (f a).bind fun y => (lcO c f r).map fun ys => y :: ys else lcO c f r
def lcS {α β σ : Type} (c : α → σ → Option (Bool × σ)) (f : α → σ → Option (β × σ)) : List α → σ → Option (List β × σ)
  | [], s => some ([], s)
  | a :: r, s => (c a s).bind fun p => if p.1 then (f a p.2).bind fun y => (lcS c f r y.2).map fun ys => (y.1 :: ys.1, ys.2) else lcS c f r p.2
inductive St (σ ρ : Type) where
  | nx (s : σ)
  | bk (s : σ)
  | rt (v : ρ)
def St.go {σ ρ β : Type} (r : St σ ρ) (f : σ → Option β) (g : ρ → Option β) : Option β := match r with
  | .nx s => f s
  | .bk s => f s
  | .rt v => g v
def foldO {α σ : Type} (f : α → σ → Option σ) : List α → σ → Option σ
  | [], s => some s
  | a :: r, s => (f a s).bind fun s' => foldO f r s'
def forT {α σ ρ : Type} (f : α → σ → Option (St σ ρ)) : List α → σ → Option (St σ ρ)
  | [], s => some (.nx s)
  | a :: r, s => (f a s).bind fun u => match u with
    | .nx s' => forT f r s'
    | .bk s' => some (.nx s')
    | .rt v => some (.rt v)
def whF {σ ρ : Type} (c : σ → Option Bool) (b : σ → Option (St σ ρ)) : Nat → σ → Option (St σ ρ)
  | 0, _ => none
  | n + 1, s => (c s).bind fun k => if k then (b s).bind fun u => match u with
      | .nx s' => whF c b n s'
      | .bk s' => some (.nx s')
      | .rt v => some (.rt v)
    else some (.nx s)
open Classical in
noncomputable def whT {σ ρ : Type} (c : σ → Option Bool) (b : σ → Option (St σ ρ)) (s : σ) : Option (St σ ρ) := if h : ∃ n, (whF c b n s).isSome = true then whF c b (choose h) s else none
/-- the state of the draws -/
structure DS where
  i : Int
  cs : List Int
def dsV (s : DS) : Val := .st s.i s.cs
def mixT (c i : Int) : Int := ((c * 48271 + i * 69621) % 2147483647 * 16807 + i * 7919) % 1000000007 / 7
def takeO (s : DS) (m : Int) : Option (Int × DS) := if 0 < m ∧ m < 1073741824 then (s.cs[(s.i % (s.cs.length : Int)).toNat]?).map fun c =>
      if 1000000000000000000 ≤ c then (c % m, ⟨s.i, s.cs.set (s.i % (s.cs.length : Int)).toNat (c / m)⟩)
      else (mixT c (s.i + 1) % m, ⟨s.i + 1, s.cs⟩) else none
def cellsT (ns : List Int) : List Int := if ns.length = 0 then [0] else ns.map fun x => if x < 0 then -x else x
def stateO (ns : List Int) : Option DS := if ns.length ≤ 63 then some ⟨0, cellsT ns⟩ else none
end
end Ev

namespace Ev
open PySem L2
/-! ### the rules: what an expression tells, by typed values -/
section
variable {α β γ : Type} [En α] [En β] [En γ] {Γ : Ctx} {L : List Nat} {env e0 e1 e2 e3 e4 : Env} {a b c me lo hi : ME} {i j : Nat} {P : Res → Prop}
abbrev JD {α : Type} [En α] (Γ : Ctx) (env : Env) (me : ME) (e1 : Env) (v : α) : Prop := ev Γ me env = some (.v (.d (En.e v)), e1)
abbrev JO {α : Type} [En α] (Γ : Ctx) (env : Env) (me : ME) (e1 : Env) (v : List α) : Prop := ev Γ me env = some (.v (.own (v.map En.e)), e1)
/-- reads so, seen from e2 -/
def JX {α : Type} [En α] (Γ : Ctx) (env : Env) (me : ME) (e1 e2 : Env) (v : α) : Prop := ∃ r, ev Γ me env = some (r, e1) ∧ cur e2 r = some (En.e v)
def JF {α : Type} [En α] (Γ : Ctx) (env : Env) (me : ME) (e1 : Env) (v : α) : Prop := ((ev Γ me env).bind fun (r, e') => fz e' r) = some (En.e v, e1)
def JP (Γ : Ctx) (env : Env) (me : ME) (e1 : Env) (o : Option Int) : Prop := ∃ r x, ev Γ me env = some (r, e1) ∧ cur e1 r = some x ∧ part (isNoneC me) x = some o
abbrev JC (Γ : Ctx) (env : Env) (me : ME) (e1 : Env) (p : Bool) : Prop := evC Γ me env = some (p, e1)
theorem jx_d {v : α} (h : JD Γ env me e1 v) : JX Γ env me e1 e2 v := ⟨_, h, rfl⟩
theorem jx_o {v : List α} (h : JO Γ env me e1 v) : JX Γ env me e1 e2 v := ⟨_, h, rfl⟩
theorem jx_own {v : List α} (h : rd env i = some (.own (v.map En.e))) (k : rd e2 i = some (.own (v.map En.e))) : JX Γ env (.var i) env e2 v := ⟨.ali i, by rw [ev, h], by show (rd e2 i).bind valD = _; rw [k]; rfl⟩
theorem jx_own' {v : List α} (h : rd env i = some (.own (v.map En.e))) (k : rd e2 i = some (.d (En.e v))) : JX Γ env (.var i) env e2 v := ⟨.ali i, by rw [ev, h], by show (rd e2 i).bind valD = _; rw [k]; rfl⟩
theorem jd_var {v : α} (h : rd env i = some (.d (En.e v))) : JD Γ env (.var i) env v := by show ev _ _ _ = _; rw [ev, h]
theorem ja_var {xs : List D} (h : rd env i = some (.own xs)) : ev Γ (.var i) env = some (.ali i, env) := by rw [ev, h]
theorem jd_con {x : D} {v : α} (h : x = En.e v) : JD Γ env (.con x) env v := by show ev _ _ _ = _; rw [ev, h]
theorem jd_glb {v : α} (h : Γ.G[i]? = some (En.e v)) : JD Γ env (.glb i) env v := by show ev _ _ _ = _; rw [ev, h]; rfl
theorem jd_cast {v : α} {w : β} (h : JD Γ env me e1 v) (k : En.e v = En.e w) : JD Γ env me e1 w := by show ev _ _ _ = _; rw [← k]; exact h
theorem jx_cast {v : α} {w : β} (h : JX Γ env me e1 e2 v) (k : En.e v = En.e w) : JX Γ env me e1 e2 w := by obtain ⟨r, h1, h2⟩ := h; exact ⟨r, h1, by rw [← k]; exact h2⟩
theorem jd_eqv {v w : α} (h : JD Γ env me e1 v) (k : v = w) : JD Γ env me e1 w := k ▸ h
theorem jd_som {v w : α} (h : JD Γ env me e1 v) (k : some v = some w) : JD Γ env me e1 w := Option.some.inj k ▸ h
theorem jo_som {v w : List α} (h : JO Γ env me e1 v) (k : some v = some w) : JO Γ env me e1 w := Option.some.inj k ▸ h
/-! words of two -/
theorem jw_bin {op : BOp} {x : α} {y : β} {w : Val} (ha : JX Γ env a e1 e2 x) (hb : JX Γ e1 b e2 e2 y) (h : binD op (En.e x) (En.e y) = some w) : ev Γ (.bin op a b) env = some (.v w, e2) := by
  obtain ⟨r, h1, h2⟩ := ha
  obtain ⟨s, h3, h4⟩ := hb
  rw [ev, h1, Option.bind_some]
  simp only [h3, Option.bind_some, h2, h4, h, Option.map_some]
theorem jd_add {x y : Int} (ha : JX Γ env a e1 e2 x) (hb : JX Γ e1 b e2 e2 y) : JD Γ env (.bin .add a b) e2 (x + y) := jw_bin ha hb rfl
theorem jd_sub {x y : Int} (ha : JX Γ env a e1 e2 x) (hb : JX Γ e1 b e2 e2 y) : JD Γ env (.bin .sub a b) e2 (x - y) := jw_bin ha hb rfl
theorem jd_mul {x y w : Int} (ha : JX Γ env a e1 e2 x) (hb : JX Γ e1 b e2 e2 y) (h : mulO x y = some w) : JD Γ env (.bin .mul a b) e2 w := jw_bin ha hb (by
  unfold mulO at h
  split at h
  · rename_i q; cases h; simp only [En.e, binD]; rw [if_pos q]
  · cases h)
theorem jd_fdiv {x y w : Int} (ha : JX Γ env a e1 e2 x) (hb : JX Γ e1 b e2 e2 y) (h : fdivO x y = some w) : JD Γ env (.bin .fdiv a b) e2 w := jw_bin ha hb (by
  unfold fdivO at h
  split at h
  · rename_i q; cases h; simp only [En.e, binD]; rw [if_pos q]
  · cases h)
theorem jd_mod {x y w : Int} (ha : JX Γ env a e1 e2 x) (hb : JX Γ e1 b e2 e2 y) (h : modO x y = some w) : JD Γ env (.bin .md a b) e2 w := jw_bin ha hb (by
  unfold modO at h
  split at h
  · rename_i q; cases h; simp only [En.e, binD]; rw [if_pos q]
  · cases h)
theorem jd_pow {x y w : Int} (ha : JX Γ env a e1 e2 x) (hb : JX Γ e1 b e2 e2 y) (h : powO x y = some w) : JD Γ env (.bin .pow a b) e2 w := jw_bin ha hb (by
  unfold powO at h
  split at h
  · rename_i q; cases h; simp only [En.e, binD]; rw [if_pos q]
  · cases h)
theorem jo_cat {x y w : List α} (ha : JX Γ env a e1 e2 x) (hb : JX Γ e1 b e2 e2 y) (h : catO x y = some w) : JO Γ env (.bin .add a b) e2 w := jw_bin ha hb (by
  unfold catO at h
  split at h
  · rename_i q; cases h; simp only [En.e, binD, List.length_map]; rw [if_pos q, List.map_append]
  · cases h)
theorem jd_catT {x y w : List α} (ha : JX Γ env a e1 e2 (Tp.mk x)) (hb : JX Γ e1 b e2 e2 (Tp.mk y)) (h : catO x y = some w) : JD Γ env (.bin .add a b) e2 (Tp.mk w) := jw_bin ha hb (by
  unfold catO at h
  split at h
  · rename_i q; cases h; simp only [En.e, binD, List.length_map]; rw [if_pos q, List.map_append]
  · cases h)
theorem jd_strO {x y w : Str} (ha : JX Γ env a e1 e2 x) (hb : JX Γ e1 b e2 e2 y) (h : strO x y = some w) : JD Γ env (.bin .add a b) e2 w := jw_bin ha hb (by
  unfold strO at h
  split at h
  · rename_i q; cases h; simp only [En.e, binD]; rw [if_pos q]
  · cases h)
theorem jd_neg {x : Int} (ha : JX Γ env a e1 e1 x) : JD Γ env (.neg a) e1 (-x) := by
  obtain ⟨r, h1, h2⟩ := ha
  show ev _ _ _ = _
  rw [ev, h1, Option.bind_some]
  simp only [h2, Option.bind_some, En.e]
/-! comparing -/
theorem jd_cmp {op : COp} {x : α} {y : β} {p : Bool} (ha : JX Γ env a e1 e2 x) (hb : JX Γ e1 b e2 e2 y) (h : cmpD op (En.e x) (En.e y) = some p) : JD Γ env (.cmp op a b) e2 p := by
  obtain ⟨r, h1, h2⟩ := ha
  obtain ⟨s, h3, h4⟩ := hb
  show ev _ _ _ = _
  rw [ev, h1, Option.bind_some]
  simp only [h3, Option.bind_some, h2, h4, h, Option.map_some]
  rfl
theorem jd_lt {x y : Int} (ha : JX Γ env a e1 e2 x) (hb : JX Γ e1 b e2 e2 y) : JD Γ env (.cmp .lt a b) e2 (decide (x < y)) := jd_cmp ha hb rfl
theorem jd_le {x y : Int} (ha : JX Γ env a e1 e2 x) (hb : JX Γ e1 b e2 e2 y) : JD Γ env (.cmp .le a b) e2 (decide (x ≤ y)) := jd_cmp ha hb rfl
theorem jd_gt {x y : Int} (ha : JX Γ env a e1 e2 x) (hb : JX Γ e1 b e2 e2 y) : JD Γ env (.cmp .gt a b) e2 (decide (y < x)) := jd_cmp ha hb rfl
theorem jd_ge {x y : Int} (ha : JX Γ env a e1 e2 x) (hb : JX Γ e1 b e2 e2 y) : JD Γ env (.cmp .ge a b) e2 (decide (y ≤ x)) := jd_cmp ha hb rfl
theorem jd_eq [Eo α] [DecidableEq α] {x y : α} (hd : Eo.dep α ≤ 60) (ha : JX Γ env a e1 e2 x) (hb : JX Γ e1 b e2 e2 y) : JD Γ env (.cmp .eq a b) e2 (decide (x = y)) := jd_cmp ha hb (by rw [cmp_eq (okEn hd x) (okEn hd y), eqvE])
theorem jd_ne [Eo α] [DecidableEq α] {x y : α} (hd : Eo.dep α ≤ 60) (ha : JX Γ env a e1 e2 x) (hb : JX Γ e1 b e2 e2 y) : JD Γ env (.cmp .ne a b) e2 (!decide (x = y)) := jd_cmp ha hb (by rw [cmp_ne (okEn hd x) (okEn hd y), eqvE])
theorem any_mem [Eo α] [DecidableEq α] (x : α) (l : List α) : ((l.map En.e).any fun z => z.eqv (En.e x)) = decide (x ∈ l) := by
  induction l with
  | nil => rfl
  | cons y r ih =>
    rw [List.map_cons, List.any_cons, ih, eqvE]
    by_cases h : y = x
    · subst h; simp
    · have h' : ¬ x = y := fun z => h z.symm
      simp [h, h']
theorem mem_cmp [Eo α] [DecidableEq α] {x : α} {l : List α} (hd : Eo.dep α < 60) : cmpD .mem (En.e x) (En.e l) = some (decide (x ∈ l)) := by
  have h1 := okEn (Nat.le_of_lt hd) x
  have h2 : okD (En.e l) = true := okEn (α := List α) (by show Eo.dep α + 1 ≤ 60; omega) l
  have e : cmpD .mem (En.e x) (En.e l) = memD (En.e x) (.list (l.map En.e)) := by cases En.e x <;> rfl
  have h2' : okD (.list (l.map En.e)) = true := h2
  rw [e, memD, h1, h2', ← any_mem]
  rfl
theorem nmem_cmp [Eo α] [DecidableEq α] {x : α} {l : List α} (hd : Eo.dep α < 60) : cmpD .nmem (En.e x) (En.e l) = some (!decide (x ∈ l)) := by
  have h := mem_cmp (x := x) (l := l) hd
  have e : cmpD .mem (En.e x) (En.e l) = memD (En.e x) (.list (l.map En.e)) := by cases En.e x <;> rfl
  have e' : cmpD .nmem (En.e x) (En.e l) = (memD (En.e x) (.list (l.map En.e))).map not := by cases En.e x <;> rfl
  rw [e', ← e, h]
  rfl
theorem jd_mem [Eo α] [DecidableEq α] {x : α} {l : List α} [hx : Decidable (x ∈ l)] (hd : Eo.dep α < 60) (ha : JX Γ env a e1 e2 x) (hb : JX Γ e1 b e2 e2 l) : JD Γ env (.cmp .mem a b) e2 (decide (x ∈ l)) := by
  have hh := jd_cmp ha hb (mem_cmp (x := x) (l := l) hd)
  rwa [show @decide (x ∈ l) (List.instDecidableMemOfLawfulBEq x l) = @decide (x ∈ l) hx by congr] at hh
theorem jd_nmem [Eo α] [DecidableEq α] {x : α} {l : List α} [hx : Decidable (x ∈ l)] (hd : Eo.dep α < 60) (ha : JX Γ env a e1 e2 x) (hb : JX Γ e1 b e2 e2 l) : JD Γ env (.cmp .nmem a b) e2 (!decide (x ∈ l)) := by
  have hh := jd_cmp ha hb (nmem_cmp (x := x) (l := l) hd)
  rwa [show @decide (x ∈ l) (List.instDecidableMemOfLawfulBEq x l) = @decide (x ∈ l) hx by congr] at hh
theorem memT_cmp [Eo α] [DecidableEq α] {x : α} {l : List α} (hd : Eo.dep α < 60) : cmpD .mem (En.e x) (En.e (Tp.mk l)) = some (decide (x ∈ l)) := by
  have h1 := okEn (Nat.le_of_lt hd) x
  have h2 : okD (En.e (Tp.mk l)) = true := okEn (α := Tp α) (by show Eo.dep α + 1 ≤ 60; omega) _
  have e : cmpD .mem (En.e x) (En.e (Tp.mk l)) = memD (En.e x) (.tuple (l.map En.e)) := by cases En.e x <;> rfl
  have h2' : okD (.tuple (l.map En.e)) = true := h2
  rw [e, memD, h1, h2', ← any_mem]
  rfl
theorem jd_memT [Eo α] [DecidableEq α] {x : α} {l : List α} (hd : Eo.dep α < 60) (ha : JX Γ env a e1 e2 x) (hb : JX Γ e1 b e2 e2 (Tp.mk l)) : JD Γ env (.cmp .mem a b) e2 (decide (x ∈ l)) := jd_cmp ha hb (memT_cmp hd)
theorem jd_isN [Nn α] {x : Option α} (ha : JX Γ env a e1 e2 x) (hb : ev Γ b e1 = some (.v (.d .none), e2)) : JD Γ env (.cmp .isN a b) e2 x.isNone := jd_cmp (y := ()) ha (jx_d hb) (by
  cases x with
  | none => rfl
  | some x =>
    have h := Nn.nn x
    have h' : isNon (En.e (some x)) = false := h
    have e : cmpD .isN (En.e (some x)) (En.e ()) = some (isNon (En.e (some x))) := by
      generalize En.e (some x) = d
      cases d <;> rfl
    rw [e, h']; rfl)
theorem jd_notN [Nn α] {x : Option α} (ha : JX Γ env a e1 e2 x) (hb : ev Γ b e1 = some (.v (.d .none), e2)) : JD Γ env (.cmp .notN a b) e2 x.isSome := jd_cmp (y := ()) ha (jx_d hb) (by
  cases x with
  | none => rfl
  | some x =>
    have h := Nn.nn x
    have h' : isNon (En.e (some x)) = false := h
    have e : cmpD .notN (En.e (some x)) (En.e ()) = some (!isNon (En.e (some x))) := by
      generalize En.e (some x) = d
      cases d <;> rfl
    rw [e, h']; rfl)
theorem jd_isND {x : D} (ha : JX Γ env a e1 e2 x) (hb : ev Γ b e1 = some (.v (.d .none), e2)) : JD Γ env (.cmp .isN a b) e2 (isNon x) := jd_cmp (y := ()) ha (jx_d hb) (by
  show cmpD .isN x .none = _
  cases x <;> rfl)
theorem jd_notND {x : D} (ha : JX Γ env a e1 e2 x) (hb : ev Γ b e1 = some (.v (.d .none), e2)) : JD Γ env (.cmp .notN a b) e2 (!isNon x) := jd_cmp (y := ()) ha (jx_d hb) (by
  show cmpD .notN x .none = _
  cases x <;> rfl)
theorem jd_chain {op op' : COp} {x : α} {y : β} {z : γ} {p q : Bool} (h1 : JX Γ env a env env x) (h2 : JX Γ env b env env y) (h3 : JX Γ env c env env z) (k1 : cmpD op (En.e x) (En.e y) = some p) (k2 : cmpD op' (En.e y) (En.e z) = some q) :
    JD Γ env (.chain op op' a b c) env (p && q) := by
  obtain ⟨r, h1, g1⟩ := h1
  obtain ⟨s, h2, g2⟩ := h2
  obtain ⟨t, h3, g3⟩ := h3
  show ev _ _ _ = _
  rw [ev, h1, Option.bind_some]
  simp only [h2, Option.bind_some, g1, g2, k1]
  cases p with
  | false => simp [En.e]
  | true => simp only [if_true, h3, Option.bind_some, g2, g3, k2, Option.map_some, Bool.true_and]; rfl
/-! conditions -/
theorem jc_d {p : Bool} (h : JD Γ env me e1 p) : JC Γ env me e1 p := evC_b h
theorem jc_x {x : α} {p : Bool} (h : JX Γ env me e1 e1 x) (k : truD (En.e x) = some p) : JC Γ env me e1 p := by
  obtain ⟨r, h1, h2⟩ := h
  exact evC_r h1 (by unfold truR; rw [h2]; exact k)
theorem jc_list {x : List α} (h : JX Γ env me e1 e1 x) : JC Γ env me e1 (!x.isEmpty) := jc_x h (by cases x <;> rfl)
theorem jc_int {x : Int} (h : JX Γ env me e1 e1 x) : JC Γ env me e1 (x != 0) := jc_x h rfl
theorem jc_inv {p : Bool} (h : JC Γ env me e1 p) : ∃ r, ev Γ me env = some (r, e1) ∧ truR e1 r = some p := evC_inv h
theorem jc_not {p : Bool} (h : JC Γ env a e1 p) : JC Γ env (.notE a) e1 (!p) := evC_not h
theorem jc_and {p q : Bool} (h : JC Γ env a env p) (k : JC Γ env b env q) : JC Γ env (.andE a b) env (p && q) := evC_and h fun _ => k
theorem jc_or {p q : Bool} (h : JC Γ env a env p) (k : JC Γ env b env q) : JC Γ env (.orE a b) env (p || q) := evC_or h fun _ => k
theorem jc_andP {p : Bool} {R : Option (Bool × Env)} (h : JC Γ env a e1 p) (k : p = true → evC Γ b e1 = R) (k' : p = false → R = some (false, e1)) : evC Γ (.andE a b) env = R := by
  obtain ⟨r, h1, h2⟩ := evC_inv h
  cases p with
  | true =>
    have e : ev Γ (.andE a b) env = ev Γ b e1 := by
      rw [ev, h1, Option.bind_some]
      simp only [h2, Option.bind_some, if_true]
    rw [evC, e]
    exact k rfl
  | false =>
    rw [k' rfl]
    refine evC_r (r := r) ?_ h2
    rw [ev, h1, Option.bind_some]
    simp only [h2, Option.bind_some, Bool.false_eq_true, if_false]
theorem jc_orP {p : Bool} {R : Option (Bool × Env)} (h : JC Γ env a e1 p) (k : p = false → evC Γ b e1 = R) (k' : p = true → R = some (true, e1)) : evC Γ (.orE a b) env = R := by
  obtain ⟨r, h1, h2⟩ := evC_inv h
  cases p with
  | false =>
    have e : ev Γ (.orE a b) env = ev Γ b e1 := by
      rw [ev, h1, Option.bind_some]
      simp only [h2, Option.bind_some, Bool.false_eq_true, if_false]
    rw [evC, e]
    exact k rfl
  | true =>
    rw [k' rfl]
    refine evC_r (r := r) ?_ h2
    rw [ev, h1, Option.bind_some]
    simp only [h2, Option.bind_some, if_true]
theorem jd_andP {p : Bool} {R : Option (Rv × Env)} (h : JD Γ env a e1 p) (k : p = true → ev Γ b e1 = R) (k' : p = false → R = some (.v (.d (En.e false)), e1)) : ev Γ (.andE a b) env = R := by
  rw [ev, h, Option.bind_some]
  cases p with
  | true => simp only [truR, cur, valD, En.e, truD, Option.bind_some, if_true]; exact k rfl
  | false => simp only [truR, cur, valD, En.e, truD, Option.bind_some, Bool.false_eq_true, if_false]; exact (k' rfl).symm
theorem jd_orP {p : Bool} {R : Option (Rv × Env)} (h : JD Γ env a e1 p) (k : p = false → ev Γ b e1 = R) (k' : p = true → R = some (.v (.d (En.e true)), e1)) : ev Γ (.orE a b) env = R := by
  rw [ev, h, Option.bind_some]
  cases p with
  | false => simp only [truR, cur, valD, En.e, truD, Option.bind_some, Bool.false_eq_true, if_false]; exact k rfl
  | true => simp only [truR, cur, valD, En.e, truD, Option.bind_some, if_true]; exact (k' rfl).symm
theorem jd_and {p q : Bool} (h : JD Γ env a env p) (k : JD Γ env b env q) : JD Γ env (.andE a b) env (p && q) := jd_andP h (fun z => by rw [z]; exact k) fun z => by rw [z]; rfl
theorem jd_or {p q : Bool} (h : JD Γ env a env p) (k : JD Γ env b env q) : JD Γ env (.orE a b) env (p || q) := jd_orP h (fun z => by rw [z]; exact k) fun z => by rw [z]; rfl
theorem jd_not {p : Bool} (h : JC Γ env a e1 p) : JD Γ env (.notE a) e1 (!p) := ev_notC h
theorem jw_iteP {p : Bool} {R : Option (Rv × Env)} (h : JC Γ env c e1 p) (k : p = true → ev Γ a e1 = R) (k' : p = false → ev Γ b e1 = R) : ev Γ (.ite c a b) env = R := by
  obtain ⟨r, h1, h2⟩ := evC_inv h
  rw [ev, h1, Option.bind_some]
  simp only [h2, Option.bind_some]
  cases p with
  | true => exact k rfl
  | false => exact k' rfl
theorem jd_ite {p : Bool} {x y : α} (h : JC Γ env c e1 p) (k : JD Γ e1 a e2 x) (k' : JD Γ e1 b e2 y) : JD Γ env (.ite c a b) e2 (if p then x else y) := jw_iteP h (fun z => by rw [z]; exact k) fun z => by rw [z]; exact k'
theorem jo_ite {p : Bool} {x y : List α} (h : JC Γ env c e1 p) (k : JO Γ e1 a e2 x) (k' : JO Γ e1 b e2 y) : JO Γ env (.ite c a b) e2 (if p then x else y) := jw_iteP h (fun z => by rw [z]; exact k) fun z => by rw [z]; exact k'
theorem jc_ite {p q q' : Bool} (h : JC Γ env c e1 p) (k : JC Γ e1 a e2 q) (k' : JC Γ e1 b e2 q') : JC Γ env (.ite c a b) e2 (if p then q else q') := by
  show evC _ _ _ = _
  rw [evC_ite h]
  cases p with
  | true => exact k
  | false => exact k'
/-! rows -/
theorem jf_d {v : α} (h : JD Γ env me e1 v) : JF Γ env me e1 v := by unfold JF; rw [h]; rfl
theorem jf_o {v : List α} (h : JO Γ env me e1 v) : JF Γ env me e1 v := by unfold JF; rw [h]; rfl
theorem jd_fz {v : α} (h : JF Γ env me e1 v) : JD Γ env (.fz me) e1 v := by
  unfold JF at h
  show ev Γ (.fz me) env = _
  rw [ev]
  cases q : ev Γ me env with
  | none => rw [q] at h; cases h
  | some z =>
    rw [q] at h
    simp only [Option.bind_some] at h ⊢
    rw [h]; rfl
theorem jf_a {v : List α} (h : rd env i = some (.own (v.map En.e))) (k : env.set i (some (.d (En.e v))) = e1) : JF Γ env (.var i) e1 v := by
  unfold JF
  rw [ev, h]
  simp only [Option.bind_some, fz, h, valD, Option.map_some]
  rw [← k]; rfl
theorem jf_cast {v : α} {w : β} (h : JF Γ env me e1 v) (k : En.e v = En.e w) : JF Γ env me e1 w := by unfold JF at h ⊢; rw [← k]; exact h
theorem ef_nil : evF Γ [] env = some ([], env) := by rw [evF]
theorem ef_cons {v : α} {es : List ME} {xs : List D} (h : JF Γ env me e1 v) (k : evF Γ es e1 = some (xs, e2)) : evF Γ (me :: es) env = some (En.e v :: xs, e2) := by
  unfold JF at h
  obtain ⟨⟨r, e'⟩, h1, h2⟩ := Option.bind_eq_some_iff.mp h
  have h2 : fz e' r = some (En.e v, e1) := h2
  rw [evF, h1, Option.bind_some]
  simp only [h2, Option.bind_some, k, Option.map_some]
theorem jd_tup {v : α} {es : List ME} {xs : List D} (k : evF Γ es env = some (xs, e1)) (hx : PyData.tuple xs = En.e v) : JD Γ env (.tup es) e1 v := by
  show ev _ _ _ = _
  rw [ev, k, Option.map_some]
  show some (Rv.v (.d (.tuple xs)), e1) = _
  rw [hx]
theorem jo_lst {v : List α} {es : List ME} {xs : List D} (k : evF Γ es env = some (xs, e1)) (hx : xs = v.map En.e) : JO Γ env (.lst es) e1 v := by
  show ev _ _ _ = _
  rw [ev, k, Option.map_some]
  show some (Rv.v (.own xs), e1) = _
  rw [hx]
theorem jd_idx {x : α} {y : β} {v : γ} (ha : JX Γ env a e1 e2 x) (hb : JX Γ e1 b e2 e2 y) (h : idxD (En.e x) (En.e y) = some (En.e v)) : JD Γ env (.idx a b) e2 v := by
  obtain ⟨r, h1, h2⟩ := ha
  obtain ⟨s, h3, h4⟩ := hb
  show ev _ _ _ = _
  rw [ev, h1, Option.bind_some]
  simp only [h3, Option.bind_some, h2, h4, h, Option.map_some]
theorem atI_map {α β : Type} (f : α → β) (l : List α) (k : Int) : atI (l.map f) k = (atI l k).map f := by
  unfold atI
  rw [List.length_map]
  cases ixN l.length k with
  | none => rfl
  | some m => simp only [Option.bind_some, List.getElem?_map]
theorem at_idx {l : List α} {k : Int} {v : α} (h : atO l k = some v) : idxD (En.e l) (En.e k) = some (En.e v) := by
  show atI (l.map En.e) k = _
  rw [atI_map]
  unfold atO at h
  rw [h]; rfl
theorem at_idxT {l : List α} {k : Int} {v : α} (h : atO l k = some v) : idxD (En.e (Tp.mk l)) (En.e k) = some (En.e v) := by
  show atI (l.map En.e) k = _
  rw [atI_map]
  unfold atO at h
  rw [h]; rfl
theorem jd_at {l : List α} {k : Int} {v : α} (ha : JX Γ env a e1 e2 l) (hb : JX Γ e1 b e2 e2 k) (h : atO l k = some v) : JD Γ env (.idx a b) e2 v := jd_idx ha hb (at_idx h)
theorem jd_atT {l : List α} {k : Int} {v : α} (ha : JX Γ env a e1 e2 (Tp.mk l)) (hb : JX Γ e1 b e2 e2 k) (h : atO l k = some v) : JD Γ env (.idx a b) e2 v := jd_idx ha hb (at_idxT h)
theorem jd_dec {x : D} {v : α} (ha : JD Γ env a e1 x) (h : decO α x = some v) : JD Γ env a e1 v := by
  show ev _ _ _ = _
  rw [decO_some h]; exact ha
theorem jx_dec {x : D} {v : α} (ha : JX Γ env a e1 e2 x) (h : decO α x = some v) : JX Γ env a e1 e2 v := by
  obtain ⟨r, h1, h2⟩ := ha
  exact ⟨r, h1, by rw [decO_some h]; exact h2⟩
theorem jp_none : JP Γ env (.con .none) env none := ⟨_, .none, by rw [ev], rfl, rfl⟩
theorem jp_some {x : Int} (h : JX Γ env me e1 e1 x) (hn : isNoneC me = false) : JP Γ env me e1 (some x) := by
  obtain ⟨r, h1, h2⟩ := h
  exact ⟨r, _, h1, h2, by unfold part; rw [hn]; rfl⟩
theorem jw_sli {x : α} {l' h' : Option Int} {w : Val} (ha : JX Γ env a e1 e3 x) (hl : JP Γ e1 lo e2 l') (hh : JP Γ e2 hi e3 h') (h : sliD (En.e x) l' h' = some w) : ev Γ (.sli a lo hi) env = some (.v w, e3) := by
  obtain ⟨r, h1, h2⟩ := ha
  obtain ⟨s, y, g1, g2, g3⟩ := hl
  obtain ⟨t, z, k1, k2, k3⟩ := hh
  rw [ev, h1, Option.bind_some]
  simp only [g1, k1, Option.bind_some, h2, g2, g3, k2, k3, h, Option.map_some]
theorem cut_map {α β : Type} (f : α → β) (l : List α) (lo hi : Option Int) : cut (l.map f) lo hi = (cut l lo hi).map f := by
  unfold cut
  rw [List.length_map, List.map_take, List.map_drop]
theorem jo_sli {x : List α} {l' h' : Option Int} (ha : JX Γ env a e1 e3 x) (hl : JP Γ e1 lo e2 l') (hh : JP Γ e2 hi e3 h') : JO Γ env (.sli a lo hi) e3 (cut x l' h') := jw_sli ha hl hh (by
  show some (Val.own (cut (x.map En.e) l' h')) = _
  rw [cut_map])
theorem jd_sliT {x : List α} {l' h' : Option Int} (ha : JX Γ env a e1 e3 (Tp.mk x)) (hl : JP Γ e1 lo e2 l') (hh : JP Γ e2 hi e3 h') : JD Γ env (.sli a lo hi) e3 (Tp.mk (cut x l' h')) := jw_sli ha hl hh (by
  show some (Val.d (.tuple (cut (x.map En.e) l' h'))) = _
  rw [cut_map]; rfl)
/-! the built-in words -/
theorem jw_bi1 {k : Bi} {x : α} {w : Val} (ha : JX Γ env a e1 e1 x) (h : biD k [En.e x] = some w) : ev Γ (.bi k [a]) env = some (.v w, e1) := by
  obtain ⟨r, h1, h2⟩ := ha
  rw [ev, evL, h1, Option.bind_some]
  simp only [evL, Option.map_some, Option.bind_some, curs, h2, h]
theorem jw_bi2 {k : Bi} {x : α} {y : β} {w : Val} (ha : JX Γ env a e1 e2 x) (hb : JX Γ e1 b e2 e2 y) (h : biD k [En.e x, En.e y] = some w) : ev Γ (.bi k [a, b]) env = some (.v w, e2) := by
  obtain ⟨r, h1, h2⟩ := ha
  obtain ⟨s, h3, h4⟩ := hb
  rw [ev, evL, h1, Option.bind_some]
  simp only [evL, h3, Option.map_some, Option.bind_some, curs, h2, h4, h]
theorem jd_len {x : List α} (ha : JX Γ env a e1 e1 x) : JD Γ env (.bi .len [a]) e1 ((x.length : Nat) : Int) := jw_bi1 ha (by
  show some (Val.d (.int (((x.map En.e).length : Nat) : Int))) = _
  rw [List.length_map]; rfl)
theorem jd_lenT {x : List α} (ha : JX Γ env a e1 e1 (Tp.mk x)) : JD Γ env (.bi .len [a]) e1 ((x.length : Nat) : Int) := jw_bi1 ha (by
  show some (Val.d (.int (((x.map En.e).length : Nat) : Int))) = _
  rw [List.length_map]; rfl)
theorem jd_abs {x : Int} (ha : JX Γ env a e1 e1 x) : JD Γ env (.bi .abs [a]) e1 (absT x) := jw_bi1 ha rfl
theorem jd_int {x : Int} (ha : JX Γ env a e1 e1 x) : JD Γ env (.bi .int [a]) e1 x := jw_bi1 ha rfl
theorem jd_b2i {x : Bool} (ha : JX Γ env a e1 e1 x) : JD Γ env (.bi .int [a]) e1 (b2T x) := jw_bi1 ha rfl
theorem jd_min2 {x y : Int} (ha : JX Γ env a e1 e2 x) (hb : JX Γ e1 b e2 e2 y) : JD Γ env (.bi .min2 [a, b]) e2 (min2 x y) := jw_bi2 ha hb rfl
theorem jd_max2 {x y : Int} (ha : JX Γ env a e1 e2 x) (hb : JX Γ e1 b e2 e2 y) : JD Γ env (.bi .max2 [a, b]) e2 (max2 x y) := jw_bi2 ha hb rfl
theorem jd_sum {x : List Int} (ha : JX Γ env a e1 e1 x) : JD Γ env (.bi .sum [a]) e1 x.sum := jw_bi1 ha (by
  show (intsOf (x.map PyData.int)).map _ = _
  rw [ints_of]; rfl)
theorem jd_any {x : List Bool} (ha : JX Γ env a e1 e1 x) : JD Γ env (.bi .any [a]) e1 (x.any id) := jw_bi1 ha (by
  show (boolsOf (x.map PyData.bool)).map _ = _
  rw [bools_of]; rfl)
theorem jd_all {x : List Bool} (ha : JX Γ env a e1 e1 x) : JD Γ env (.bi .all [a]) e1 (x.all id) := jw_bi1 ha (by
  show (boolsOf (x.map PyData.bool)).map _ = _
  rw [bools_of]; rfl)
theorem jo_list {x : List α} (ha : JX Γ env a e1 e1 x) : JO Γ env (.bi .list [a]) e1 x := jw_bi1 ha rfl
theorem jo_listT {x : List α} (ha : JX Γ env a e1 e1 (Tp.mk x)) : JO Γ env (.bi .list [a]) e1 x := jw_bi1 ha rfl
theorem jd_tuple {x : List α} (ha : JX Γ env a e1 e1 x) : JD Γ env (.bi .tuple [a]) e1 (Tp.mk x) := jw_bi1 ha rfl
theorem minB_e [Eo α] [Ak α] [Nn α] (hd : Eo.dep α ≤ 60) (l : List α) : minB (l.map En.e) = true := by
  unfold minB alikeB
  rw [Bool.and_eq_true]
  refine ⟨List.all_eq_true.mpr fun x hx => ?_, List.all_eq_true.mpr fun x hx => ?_⟩
  · obtain ⟨a, _, rfl⟩ := List.mem_map.mp hx
    rw [Bool.and_eq_true]
    refine ⟨List.all_eq_true.mpr fun y hy => ?_, okEn hd a⟩
    obtain ⟨b, _, rfl⟩ := List.mem_map.mp hy
    exact Ak.ak a b
  · obtain ⟨a, _, rfl⟩ := List.mem_map.mp hx
    rw [Nn.nn a]; rfl
theorem minD_e (x : α) (l : List α) : W.minD (En.e x) (l.map En.e) = En.e (l.foldl (fun a y => if ltT y a then y else a) x) := by
  unfold W.minD
  induction l generalizing x with
  | nil => rfl
  | cons y r ih =>
    rw [List.map_cons, List.foldl_cons, List.foldl_cons, ← ih]
    congr 1
    unfold ltT
    split <;> rfl
theorem maxD_e (x : α) (l : List α) : W.maxD (En.e x) (l.map En.e) = En.e (l.foldl (fun a y => if ltT a y then y else a) x) := by
  unfold W.maxD
  induction l generalizing x with
  | nil => rfl
  | cons y r ih =>
    rw [List.map_cons, List.foldl_cons, List.foldl_cons, ← ih]
    congr 1
    unfold ltT
    split <;> rfl
theorem jd_min1 [Eo α] [Ak α] [Nn α] {x : List α} {v : α} (hd : Eo.dep α ≤ 60) (ha : JX Γ env a e1 e1 x) (h : minO x = some v) : JD Γ env (.bi .min1 [a]) e1 v := jw_bi1 ha (by
  cases x with
  | nil => cases h
  | cons y r =>
    cases h
    have e : biD .min1 [En.e (y :: r)] = if minB ((y :: r).map En.e) then some (.d (W.minD (En.e y) (r.map En.e))) else none := rfl
    rw [e, minB_e hd, if_pos rfl, minD_e])
theorem jd_max1 [Eo α] [Ak α] [Nn α] {x : List α} {v : α} (hd : Eo.dep α ≤ 60) (ha : JX Γ env a e1 e1 x) (h : maxO x = some v) : JD Γ env (.bi .max1 [a]) e1 v := jw_bi1 ha (by
  cases x with
  | nil => cases h
  | cons y r =>
    cases h
    have e : biD .max1 [En.e (y :: r)] = if minB ((y :: r).map En.e) then some (.d (W.maxD (En.e y) (r.map En.e))) else none := rfl
    rw [e, minB_e hd, if_pos rfl, maxD_e])
/-- all tuples with something in them, or none -/
class So (α : Type) [En α] : Prop where
  so : (∀ a : α, isTup1 (En.e a) = true) ∨ (∀ a : α, isOther (En.e a) = true)
instance : So Int := ⟨.inr fun _ => rfl⟩
instance : So Bool := ⟨.inr fun _ => rfl⟩
instance : So Str := ⟨.inr fun _ => rfl⟩
instance : So (List α) := ⟨.inr fun _ => rfl⟩
instance : So (α × β) := ⟨.inl fun _ => rfl⟩
instance : So (T1 α) := ⟨.inl fun _ => rfl⟩
instance : So (T3 α β γ) := ⟨.inl fun _ => rfl⟩
theorem sortB_e [Eo α] [Ak α] [So α] (hd : Eo.dep α ≤ 60) (l : List α) : sortB (l.map En.e) = true := by
  unfold sortB alikeB
  rw [Bool.and_eq_true, Bool.or_eq_true]
  refine ⟨List.all_eq_true.mpr fun x hx => ?_, ?_⟩
  · obtain ⟨a, _, rfl⟩ := List.mem_map.mp hx
    rw [Bool.and_eq_true]
    refine ⟨List.all_eq_true.mpr fun y hy => ?_, okEn hd a⟩
    obtain ⟨b, _, rfl⟩ := List.mem_map.mp hy
    exact Ak.ak a b
  · rcases So.so (α := α) with h | h
    · exact .inl (List.all_eq_true.mpr fun x hx => by obtain ⟨a, _, rfl⟩ := List.mem_map.mp hx; exact h a)
    · exact .inr (List.all_eq_true.mpr fun x hx => by obtain ⟨a, _, rfl⟩ := List.mem_map.mp hx; exact h a)
theorem jo_sorted [Eo α] [Ak α] [So α] {x : List α} (hd : Eo.dep α ≤ 60) (ha : JX Γ env a e1 e1 x) : JO Γ env (.bi .sorted [a]) e1 (sortT x) := jw_bi1 ha (by
  have e : biD .sorted [En.e x] = if sortB (x.map En.e) then some (.own ((x.map En.e).mergeSort (W.dataLe false id))) else none := rfl
  rw [e, sortB_e hd, if_pos rfl, sortT]
  rw [← List.map_mergeSort (r := leT) (s := W.dataLe false id) (f := En.e) fun a _ b _ => ?_]
  rfl)
theorem jd_repr {x : α} {v : Str} (ha : JX Γ env a e1 e1 x) (h : reprO x = some v) : JD Γ env (.bi .repr [a]) e1 v := jw_bi1 ha (by
  unfold reprO at h
  split at h
  · rename_i q
    cases h
    exact if_pos q
  · cases h)
theorem jo_sset {x w : List Int} (ha : JX Γ env a e1 e1 x) (h : setO' x = some w) : JO Γ env (.sset a) e1 w := by
  obtain ⟨r, h1, h2⟩ := ha
  show ev _ _ _ = _
  rw [ev, h1, Option.bind_some]
  simp only [h2, Option.bind_some]
  have e : ssetD (En.e x) = (intsOf (x.map PyData.int)).bind fun ns => if ns.length < 1000 ∧ (setI ns).length < 64 then some (.own ((setI ns).map PyData.int)) else none := rfl
  rw [e, ints_of, Option.bind_some]
  unfold setO' at h
  split at h
  · rename_i q; cases h; rw [if_pos q]; rfl
  · cases h
theorem jd_lset {x : List Int} {w : Int} (ha : JX Γ env a e1 e1 x) (h : lsetO x = some w) : JD Γ env (.lset a) e1 w := by
  obtain ⟨r, h1, h2⟩ := ha
  show ev _ _ _ = _
  rw [ev, h1, Option.bind_some]
  simp only [h2, Option.bind_some]
  have e : lsetD (En.e x) = (intsOf (x.map PyData.int)).bind fun ns => if ns.length < 1000 then some (.d (.int ((setI ns).length : Nat))) else none := rfl
  rw [e, ints_of, Option.bind_some]
  unfold lsetO at h
  split at h
  · rename_i q; cases h; rw [if_pos q]; rfl
  · cases h
theorem jo_rev {x : List α} (ha : JX Γ env a e1 e1 x) : JO Γ env (.rev a) e1 x.reverse := by
  obtain ⟨r, h1, h2⟩ := ha
  show ev _ _ _ = _
  rw [ev, h1, Option.bind_some]
  simp only [h2, Option.bind_some]
  show (some (Val.own (x.map En.e).reverse)).map _ = _
  rw [← List.map_reverse]; rfl
theorem rngOf_e (i j : Int) : rngOf i j = (rngT i j).map En.e := by
  unfold rngOf rngT
  rw [List.map_map]; rfl
theorem rngDn_e (i j : Int) : rngDn i j = (dnT i j).map En.e := by
  unfold rngDn dnT
  rw [List.map_map]; rfl
theorem jo_lrg1 {n : Int} {w : List Int} (ha : JX Γ env a e1 e1 n) (h : rngO 0 n = some w) : JO Γ env (.lrg1 a) e1 w := by
  obtain ⟨r, h1, h2⟩ := ha
  unfold rngO at h
  split at h
  · rename_i q
    cases h
    show ev _ _ _ = _
    rw [ev, h1, Option.bind_some]
    simp only [h2, Option.bind_some, En.e, q, if_true]
    rw [rngOf_e]; rfl
  · cases h
theorem jo_lrg2 {m n : Int} {w : List Int} (ha : JX Γ env a e1 e2 m) (hb : JX Γ e1 b e2 e2 n) (h : rngO m n = some w) : JO Γ env (.lrg2 a b) e2 w := by
  obtain ⟨r, h1, h2⟩ := ha
  obtain ⟨s, h3, h4⟩ := hb
  unfold rngO at h
  split at h
  · rename_i q
    cases h
    show ev _ _ _ = _
    rw [ev, h1, Option.bind_some]
    simp only [h3, h2, h4, Option.bind_some, En.e, q, if_true]
    rw [rngOf_e]; rfl
  · cases h
/-! what a loop goes over -/
theorem ji_d {l : List α} (h : JD Γ env me e1 l) : evI Γ (.seq me) env = some (⟨l.map En.e, [], none⟩, e1) := by rw [evI, h]; rfl
theorem ji_o {l : List α} (h : JO Γ env me e1 l) : evI Γ (.seq me) env = some (⟨l.map En.e, [], none⟩, e1) := by rw [evI, h]; rfl
theorem ji_t {l : List α} (h : JD Γ env me e1 (Tp.mk l)) : evI Γ (.seq me) env = some (⟨l.map En.e, [], none⟩, e1) := by rw [evI, h]; rfl
theorem ji_a {l : List α} (h : rd env i = some (.own (l.map En.e))) : evI Γ (.seq (.var i)) env = some (⟨l.map En.e, [i], some (i, l.map En.e)⟩, env) := by
  rw [evI, ja_var h, Option.bind_some]
  simp only [srcOf, h, Option.map_some]
theorem evL1 {r : Rv} (h : ev Γ a env = some (r, e1)) : evL Γ [a] env = some ([r], e1) := by
  rw [evL, h, Option.bind_some]; simp only [evL, Option.map_some]
theorem evL2 {r s : Rv} (h : ev Γ a env = some (r, e1)) (k : ev Γ b e1 = some (s, e2)) : evL Γ [a, b] env = some ([r, s], e2) := by
  rw [evL, h, Option.bind_some]; simp only [evL1 k, Option.map_some]
theorem ji_rng1 {n : Int} {w : List Int} (ha : JX Γ env a e1 e1 n) (h : rngO 0 n = some w) : evI Γ (.rng [a]) env = some (⟨w.map En.e, [], none⟩, e1) := by
  obtain ⟨r, h1, h2⟩ := ha
  unfold rngO at h
  split at h
  · rename_i q
    cases h
    rw [evI, evL1 h1, Option.bind_some]
    simp only [curs, h2, Option.bind_some, Option.map_some, rngSrc, En.e, q, if_true]
    rw [rngOf_e]; rfl
  · cases h
theorem ji_rng2 {m n : Int} {w : List Int} (ha : JX Γ env a e1 e2 m) (hb : JX Γ e1 b e2 e2 n) (h : rngO m n = some w) : evI Γ (.rng [a, b]) env = some (⟨w.map En.e, [], none⟩, e2) := by
  obtain ⟨r, h1, h2⟩ := ha
  obtain ⟨s, h3, h4⟩ := hb
  unfold rngO at h
  split at h
  · rename_i q
    cases h
    rw [evI, evL2 h1 h3, Option.bind_some]
    simp only [curs, h2, h4, Option.bind_some, Option.map_some, rngSrc, En.e, q, if_true]
    rw [rngOf_e]; rfl
  · cases h
theorem ji_rng3 {m n : Int} {w : List Int} (ha : JX Γ env a e1 e2 m) (hb : JX Γ e1 b e2 e2 n) (h : dnO m n = some w) : evI Γ (.rng [a, b, .neg (.con (.int 1))]) env = some (⟨w.map En.e, [], none⟩, e2) := by
  obtain ⟨r, h1, h2⟩ := ha
  obtain ⟨s, h3, h4⟩ := hb
  unfold dnO at h
  split at h
  · rename_i q
    cases h
    have e3 : ev Γ (.neg (.con (.int 1))) e2 = some (.v (.d (.int (-1))), e2) := by simp [ev, cur_v]
    have e4 : evL Γ [a, b, .neg (.con (.int 1))] env = some ([r, s, .v (.d (.int (-1)))], e2) := by
      rw [evL, h1, Option.bind_some]
      simp only [evL2 h3 e3, Option.map_some]
    rw [evI, e4, Option.bind_some]
    simp only [curs, h2, h4, cur_v, Option.bind_some, Option.map_some, rngSrc, En.e, q, and_self, if_true]
    rw [rngDn_e]; rfl
  · cases h
theorem enumOf_e (l : List α) : ∀ k, enumOf k (l.map En.e) = (enumT k l).map En.e := by
  induction l with
  | nil => intro k; rfl
  | cons x r ih => intro k; rw [List.map_cons, enumOf, enumT, List.map_cons, ih]; rfl
theorem ji_enum {l : List α} {w : Val} (h : ev Γ me env = some (.v w, e1)) (hw : valD w = some (En.e l)) : evI Γ (.enum me) env = some (⟨(enumT 0 l).map En.e, [], none⟩, e1) := by
  rw [evI, h, Option.bind_some]
  have hw : valD w = some (.list (l.map En.e)) := hw
  simp only [srcL, hw, Option.map_some]
  rw [enumOf_e]
theorem ji_enumA {l : List α} (h : rd env i = some (.own (l.map En.e))) : evI Γ (.enum (.var i)) env = some (⟨(enumT 0 l).map En.e, [i], some (i, l.map En.e)⟩, env) := by
  rw [evI, ja_var h, Option.bind_some]
  simp only [srcL, h, Option.map_some]
  rw [enumOf_e]
theorem zipOf_e (l : List α) : ∀ m : List β, zipOf (l.map En.e) (m.map En.e) = (l.zip m).map En.e := by
  induction l with
  | nil => intro m; cases m <;> rfl
  | cons x r ih =>
    intro m
    cases m with
    | nil => rfl
    | cons y s => rw [List.map_cons, List.map_cons, zipOf, ih]; rfl
theorem ji_zip {l : List α} {m : List β} (h : JD Γ env a e1 l) (k : JD Γ e1 b e2 m) : evI Γ (.zip a b) env = some (⟨(l.zip m).map En.e, [], none⟩, e2) := by
  rw [evI, h, Option.bind_some]
  simp only [k, Option.bind_some]
  show some (Src.mk (zipOf (l.map En.e) (m.map En.e)) [] none, e2) = _
  rw [zipOf_e]
/-! list comprehensions -/
theorem jo_lc {α β : Type} [En α] [En β] {elt cond : ME} {tg : Tg} {it : MI} {own lk : List Nat} {g : Option (Nat × List D)} {l : List α} (p : α → Bool) (f : α → β)
    (hs : evI Γ it env = some (⟨l.map En.e, lk, g⟩, e1)) (hl : lk.all (fun j => decide (j ∉ own)) = true) (hg : gOk g (wipeE e1 own)) (hb : backOwn e1 (wipeE e1 own) own = e2)
    (h : ∀ a ∈ l, ∃ e4, bindT lk tg (En.e a) (wipeE e1 own) = some e4 ∧ JC Γ e4 cond e4 (p a) ∧ wipeE e4 own = wipeE e1 own ∧ JF Γ e4 elt e4 (f a)) :
    JO Γ env (.lc elt tg it cond own) e2 ((l.filter p).map f) := by
  obtain ⟨ys, e, ⟨h1, h2⟩, h3⟩ := lc_run (elt := elt) (cond := cond) (tg := tg) hs hl (fun i ys e => ys = ((l.take i).filter p).map (fun a => En.e (f a)) ∧ e = wipeE e1 own) ⟨by simp, rfl⟩ (by
    rintro i x ys e hx ⟨rfl, rfl⟩
    rw [List.getElem?_map] at hx
    obtain ⟨a, ha, rfl⟩ := Option.map_eq_some_iff.mp hx
    have hm := List.mem_of_getElem? ha
    obtain ⟨e4, q1, q2, q3, q4⟩ := h a hm
    have ht : l.take (i + 1) = l.take i ++ [a] := by rw [List.take_add_one, ha]; rfl
    refine ⟨hg, e4, p a, e4, q1, q2, fun hp => ⟨_, e4, q4, ?_, q3⟩, fun hp => ⟨?_, q3⟩⟩
    · rw [ht]; simp [hp]
    · rw [ht]; simp [hp]) (by rintro ys e ⟨_, rfl⟩; exact hg)
  show ev _ _ _ = _
  rw [h3, h2, hb, h1, List.length_map, List.take_length, List.map_map]
  rfl
theorem jo_lcO {α β : Type} [En α] [En β] {elt cond : ME} {tg : Tg} {it : MI} {own lk : List Nat} {g : Option (Nat × List D)} {l : List α} {w : List β} {p : α → Option Bool} {f : α → Option β}
    (hs : evI Γ it env = some (⟨l.map En.e, lk, g⟩, e1)) (hl : lk.all (fun j => decide (j ∉ own)) = true) (hg : gOk g (wipeE e1 own)) (hb : backOwn e1 (wipeE e1 own) own = e2) (hw : lcO p f l = some w)
    (h : ∀ a ∈ l, ∃ e4, bindT lk tg (En.e a) (wipeE e1 own) = some e4 ∧ wipeE e4 own = wipeE e1 own ∧ (∀ q, p a = some q → JC Γ e4 cond e4 q) ∧ (∀ y, f a = some y → JF Γ e4 elt e4 y)) :
    JO Γ env (.lc elt tg it cond own) e2 w := by
  obtain ⟨ys, e, ⟨h1, h2⟩, h3⟩ := lc_run (elt := elt) (cond := cond) (tg := tg) hs hl (fun i ys e => (∃ zs us, ys = zs.map En.e ∧ lcO p f (l.drop i) = some us ∧ w = zs ++ us) ∧ e = wipeE e1 own) ⟨⟨[], w, rfl, by rw [List.drop_zero]; exact hw, rfl⟩, rfl⟩ (by
    rintro i x ys e hx ⟨⟨zs, us, rfl, hu, hc⟩, rfl⟩
    rw [List.getElem?_map] at hx
    obtain ⟨a, ha, rfl⟩ := Option.map_eq_some_iff.mp hx
    have hm := List.mem_of_getElem? ha
    obtain ⟨e4, q1, q3, q2, q4⟩ := h a hm
    rw [drop_at ha, lcO] at hu
    obtain ⟨q, hq, hu⟩ := Option.bind_eq_some_iff.mp hu
    refine ⟨hg, e4, q, e4, q1, q2 q hq, fun hp => ?_, fun hp => ⟨⟨zs, us, rfl, ?_, hc⟩, q3⟩⟩
    · rw [hp, if_pos rfl] at hu
      obtain ⟨y, hy, hu⟩ := Option.bind_eq_some_iff.mp hu
      obtain ⟨us', hu, he⟩ := Option.map_eq_some_iff.mp hu
      exact ⟨_, e4, q4 y hy, ⟨zs ++ [y], us', by simp, hu, by rw [hc, ← he]; simp⟩, q3⟩
    · rw [hp] at hu
      simpa using hu) (by rintro ys e ⟨_, rfl⟩; exact hg)
  obtain ⟨zs, us, rfl, hu, hc⟩ := h1
  rw [List.length_map, List.drop_length] at hu
  cases hu
  rw [List.append_nil] at hc
  show ev _ _ _ = _
  rw [h3, h2, hb, hc]
theorem jo_lcS {α β σ : Type} [En α] [En β] {elt cond : ME} {tg : Tg} {it : MI} {own lk : List Nat} {g : Option (Nat × List D)} {l : List α} {w : List β} {s0 s1 : σ} {p : α → σ → Option (Bool × σ)} {f : α → σ → Option (β × σ)} (E : σ → Env)
    (hs : evI Γ it env = some (⟨l.map En.e, lk, g⟩, E s0)) (hl : lk.all (fun j => decide (j ∉ own)) = true) (hg : ∀ s, gOk g (wipeE (E s) own)) (hb : backOwn (E s0) (wipeE (E s1) own) own = e2) (hw : lcS p f l s0 = some (w, s1))
    (h : ∀ a ∈ l, ∀ s, ∃ e4, bindT lk tg (En.e a) (wipeE (E s) own) = some e4 ∧ (∀ q, p a s = some q → ∃ e5, JC Γ e4 cond e5 q.1 ∧ wipeE e5 own = wipeE (E q.2) own ∧ (∀ y, f a q.2 = some y → ∃ e6, JF Γ e5 elt e6 y.1 ∧ wipeE e6 own = wipeE (E y.2) own))) :
    JO Γ env (.lc elt tg it cond own) e2 w := by
  obtain ⟨ys, e, h1, h3⟩ := lc_run (elt := elt) (cond := cond) (tg := tg) hs hl (fun i ys e => ∃ zs us s, ys = zs.map En.e ∧ lcS p f (l.drop i) s = some (us, s1) ∧ w = zs ++ us ∧ e = wipeE (E s) own) ⟨[], w, s0, rfl, by rw [List.drop_zero]; exact hw, rfl, rfl⟩ (by
    rintro i x ys e hx ⟨zs, us, s, rfl, hu, hc, rfl⟩
    rw [List.getElem?_map] at hx
    obtain ⟨a, ha, rfl⟩ := Option.map_eq_some_iff.mp hx
    have hm := List.mem_of_getElem? ha
    obtain ⟨e4, q1, q2⟩ := h a hm s
    rw [drop_at ha, lcS] at hu
    obtain ⟨q, hq, hu⟩ := Option.bind_eq_some_iff.mp hu
    obtain ⟨e5, k1, k2, k3⟩ := q2 q hq
    refine ⟨hg s, e4, q.1, e5, q1, k1, fun hp => ?_, fun hp => ⟨zs, us, q.2, rfl, ?_, hc, k2⟩⟩
    · rw [hp, if_pos rfl] at hu
      obtain ⟨y, hy, hu⟩ := Option.bind_eq_some_iff.mp hu
      obtain ⟨us', hu', he⟩ := Option.map_eq_some_iff.mp hu
      obtain ⟨e6, k4, k5⟩ := k3 y hy
      cases he
      exact ⟨_, e6, k4, zs ++ [y.1], us'.1, y.2, by simp, hu', by rw [hc]; simp, k5⟩
    · rw [hp] at hu
      simpa using hu) (by rintro ys e ⟨_, _, s, _, _, _, rfl⟩; exact hg s)
  obtain ⟨zs, us, s, rfl, hu, hc, rfl⟩ := h1
  rw [List.length_map, List.drop_length, lcS] at hu
  cases hu
  rw [List.append_nil] at hc
  show ev _ _ _ = _
  rw [h3, hb, hc]
/-! calls -/
theorem jl_nil : evL Γ [] env = some ([], env) := by rw [evL]
theorem jl_cons {r : Rv} {es : List ME} {rs : List Rv} (h : ev Γ a env = some (r, e1)) (k : evL Γ es e1 = some (rs, e2)) : evL Γ (a :: es) env = some (r :: rs, e2) := by
  rw [evL, h, Option.bind_some]; simp only [k, Option.map_some]
theorem jw_callP {f : Nat} {es : List ME} {rs : List Rv} {ws ws' : List Val} {v : Val} (h : evL Γ es env = some (rs, e1)) (hn : alis rs = []) (hw : argVals e1 (Γ.io f) 0 rs = some ws) (hc : Γ.C f ws = some (v, ws')) : ev Γ (.call f es) env = some (.v v, e1) := call_pureS h hn hw hc
theorem jw_call {f : Nat} {es : List ME} {rs : List Rv} {ws ws' : List Val} {v : Val} (keep : Bool) (h : evL Γ es env = some (rs, e1)) (hn : (alis rs).Nodup) (hw : argVals e1 (Γ.io f) 0 rs = some ws) (hc : Γ.C f ws = some (v, ws')) (hk : keepB (Γ.io f) v ws' = keep)
    (hb : backArgs (Γ.io f) keep 0 rs ws' e1 = e2) : ev Γ (.call f es) env = some (.v v, e2) := call_gen h hn hw hc (by rw [hk]; exact hb)
theorem fl_v [Fl α] {v : α} {io : List Nat} {ws : List Val} (h : (!io.contains 1000 && flatAll io 0 ws) = true) : keepB io (.d (En.e v)) ws = true := by
  rw [Bool.and_eq_true] at h; unfold keepB; rw [h.1, h.2]; show (true && (noList (En.e v) && true)) = true; rw [Fl.fl v]; rfl
theorem fl_o [Fl α] {v : List α} {io : List Nat} {ws : List Val} (h : (!io.contains 1000 && flatAll io 0 ws) = true) : keepB io (.own (v.map En.e)) ws = true := by
  rw [Bool.and_eq_true] at h; unfold keepB; rw [h.1, h.2]; show (true && (noListL (v.map En.e) && true)) = true; rw [fl_alls]; rfl
theorem nf_v [Nf α] {v : α} {io : List Nat} {ws : List Val} : keepB io (.d (En.e v)) ws = false := by unfold keepB; show (_ && (noList (En.e v) && _)) = false; rw [Nf.nf v]; cases (!io.contains 1000) <;> rfl
theorem fz_v {v : Val} {io : List Nat} {ws : List Val} (h : io.contains 1000 = true) : keepB io v ws = false := by unfold keepB; rw [h]; rfl
/-! steps -/
theorem st_asg {ss : List MS} {w : Val} (h : ev Γ me env = some (.v w, e1)) (hi : decide (i ∈ L) = false) (hl : Nat.blt i e1.length = true) (he : e1.set i (some w) = e2) (k : OK (evSs Γ L ss e2) P) : OK (evSs Γ L (.asg (.nm i) me :: ss) env) P := by
  refine ok_step ?_ k
  rw [← he]
  exact asg_stepS h (of_decide_eq_false hi) (Nat.le_of_ble_eq_true hl)
theorem st_asgA {ss : List MS} {xs : List D} (h : rd env j = some (.own xs)) (hi : decide (i ∈ L) = false) (hl : Nat.blt i env.length = true) (he : (env.set j (some (.d (.list xs)))).set i (some (.d (.list xs))) = e2) (k : OK (evSs Γ L ss e2) P) : OK (evSs Γ L (.asg (.nm i) (.var j) :: ss) env) P := by
  refine ok_step ?_ k
  have hi := of_decide_eq_false hi
  have hl : i < env.length := Nat.le_of_ble_eq_true hl
  simp only [evS, ja_var h, Option.bind_some, asgn, fz, h, valD, Option.map_some, setV, List.length_set]
  rw [if_neg (fun z => z.elim hi (fun z => by omega)), Option.map_some, ← he]
theorem st_asgT {ss : List MS} {ts : List Tg} {v : α} (h : JF Γ env me e1 v) (hb : bindT L (.tup ts) (En.e v) e1 = some e2) (k : OK (evSs Γ L ss e2) P) : OK (evSs Γ L (.asg (.tup ts) me :: ss) env) P := by
  refine ok_step ?_ k
  unfold JF at h
  obtain ⟨⟨r, e'⟩, h1, h2⟩ := Option.bind_eq_some_iff.mp h
  have h2 : fz e' r = some (En.e v, e1) := h2
  simp only [evS, h1, Option.bind_some, asgn, h2, hb, Option.map_some]
theorem st_par {ss : List MS} {is : List Nat} {es : List ME} {rs : List Rv} {ws : List Val} (h : evL Γ es env = some (rs, e1)) (hf : fzAs e1 rs = some (ws, e2)) (hb : setVs L is ws e2 = some e3) (k : OK (evSs Γ L ss e3) P) : OK (evSs Γ L (.par is es :: ss) env) P := by
  refine ok_step ?_ k
  simp only [evS, h, Option.bind_some, hf, hb, Option.map_some]
theorem st_app {ss : List MS} {v : α} {l w : List α} (h0 : isOwn (rd env i) = true) (h : JF Γ env me e1 v) (h2 : rd e1 i = some (.own (l.map En.e))) (hw : appO l v = some w) (he : e1.set i (some (.own (w.map En.e))) = e2) (k : OK (evSs Γ L ss e2) P) : OK (evSs Γ L (.app i me :: ss) env) P := by
  refine ok_step ?_ k
  unfold JF at h
  obtain ⟨⟨r, e'⟩, h3, h4⟩ := Option.bind_eq_some_iff.mp h
  have h4 : fz e' r = some (En.e v, e1) := h4
  unfold appO at hw
  split at hw
  · rename_i q
    cases hw
    have q' : (l.map En.e).length < sizeLine := by rw [List.length_map]; exact q
    simp only [evS, h0, if_true, h3, Option.bind_some, h4, h2, q']
    rw [← he, List.map_append]; rfl
  · cases hw
theorem st_ext {ss : List MS} {v l w : List α} (h0 : isOwn (rd env i) = true) (h : JX Γ env me e1 e1 v) (h2 : rd e1 i = some (.own (l.map En.e))) (hw : catO l v = some w) (he : e1.set i (some (.own (w.map En.e))) = e2) (k : OK (evSs Γ L ss e2) P) : OK (evSs Γ L (.ext i me :: ss) env) P := by
  refine ok_step ?_ k
  obtain ⟨r, h3, h4⟩ := h
  have h4 : cur e1 r = some (.list (v.map En.e)) := h4
  unfold catO at hw
  split at hw
  · rename_i q
    cases hw
    have q' : (l.map En.e).length + (v.map En.e).length ≤ sizeLine := by rw [List.length_map, List.length_map]; exact q
    simp only [evS, h0, if_true, h3, Option.bind_some, h4, h2, q']
    rw [← he, List.map_append]
  · cases hw
theorem st_seti {ss : List MS} {v : α} {n : Int} {l w : List α} {x0 : Val} (h : JF Γ env b e1 v) (h0 : rd e1 i = some x0) (hk : JX Γ e1 a e2 e2 n) (h2 : rd e2 i = some (.own (l.map En.e))) (hw : setO l n v = some w) (he : e2.set i (some (.own (w.map En.e))) = e3) (k : OK (evSs Γ L ss e3) P) : OK (evSs Γ L (.seti i a b :: ss) env) P := by
  refine ok_step ?_ k
  unfold JF at h
  obtain ⟨⟨r, e'⟩, h3, h4⟩ := Option.bind_eq_some_iff.mp h
  have h4 : fz e' r = some (En.e v, e1) := h4
  obtain ⟨s, h5, h6⟩ := hk
  have h6 : cur e2 s = some (.int n) := h6
  unfold setO at hw
  obtain ⟨m, h7, h8⟩ := Option.map_eq_some_iff.mp hw
  have h7 : ixN (l.map En.e).length n = some m := by rw [List.length_map]; exact h7
  simp only [evS, h3, Option.bind_some, h4, h0, h5, h6, h2, h7, Option.map_some]
  rw [← he, ← h8, List.map_set]
theorem st_ifs {ss x y : List MS} {p : Bool} (h : JC Γ env c e1 p) (k : p = true → OK (evSs Γ L x e1) (thenP Γ L ss P)) (k' : p = false → OK (evSs Γ L y e1) (thenP Γ L ss P)) : OK (evSs Γ L (.ifs c x y :: ss) env) P := ok_cons (ok_ifs h k k')
theorem st_ret {ss : List MS} {r : Rv} (h : ev Γ me env = some (r, e1)) (k : P (.rt r e1)) : OK (evSs Γ L (.ret me :: ss) env) P := ok_ret h k
theorem st_retN {ss : List MS} (k : P (.rt (.v (.d .none)) env)) : OK (evSs Γ L (.retN :: ss) env) P := ok_cons ⟨.rt (.v (.d .none)) env, by rw [evS], k⟩
theorem st_brk {ss : List MS} (k : P (.bk env)) : OK (evSs Γ L (.brk :: ss) env) P := ok_cons ⟨.bk env, by rw [evS], k⟩
theorem st_cnt {ss : List MS} (k : P (.ct env)) : OK (evSs Γ L (.cnt :: ss) env) P := ok_cons ⟨.ct env, by rw [evS], k⟩
theorem st_pass {ss : List MS} (k : OK (evSs Γ L ss env) P) : OK (evSs Γ L (.pass :: ss) env) P := ok_step (by rw [evS]) k
theorem st_ex {ss : List MS} {r : Rv} (h : ev Γ me env = some (r, e1)) (k : OK (evSs Γ L ss e1) P) : OK (evSs Γ L (.ex me :: ss) env) P := ok_step (by rw [evS, h]; rfl) k
/-! loops -/
def Ref {σ ρ : Type} (Rel : σ → Env → Prop) (Fin : ρ → Res → Prop) : St σ ρ → Res → Prop
  | .nx s, .nx e => Rel s e
  | .nx s, .ct e => Rel s e
  | .bk s, .bk e => Rel s e
  | .rt v, .rt r e => Fin v (.rt r e)
  | _, _ => False
def RefS {σ : Type} (Rel : σ → Env → Prop) (s : σ) : Res → Prop
  | .nx e => Rel s e
  | .ct e => Rel s e
  | _ => False
theorem st_forT {σ ρ : Type} {ss x : List MS} {tg : Tg} {it : MI} {lk : List Nat} {g : Option (Nat × List D)} {l : List α} {f : α → σ → Option (St σ ρ)} {s0 : σ} {r0 : St σ ρ} (Rel : σ → Env → Prop) (Fin : ρ → Res → Prop)
    (h : forT f l s0 = some r0) (hs : evI Γ it env = some (⟨l.map En.e, lk, g⟩, e1)) (h0 : Rel s0 e1) (hg : ∀ s e, Rel s e → gOk g e)
    (hb : ∀ a s e r, a ∈ l → Rel s e → f a s = some r → ∃ e2, bindT (lk ++ L) tg (En.e a) e = some e2 ∧ OK (evSs Γ (lk ++ L) x e2) (Ref Rel Fin r))
    (k : ∀ s e, r0 = .nx s → Rel s e → OK (evSs Γ L ss e) P) (k' : ∀ v r e, r0 = .rt v → Fin v (.rt r e) → P (.rt r e)) : OK (evSs Γ L (.for_ tg it x :: ss) env) P := by
  refine ok_cons (ok_for hs (fun i e => ∃ s, Rel s e ∧ forT f (l.drop i) s = some r0) ⟨s0, h0, by rw [List.drop_zero]; exact h⟩ ?_ ?_)
  · rintro i d e hx ⟨s, hR, hf⟩
    have hx : (l.map En.e)[i]? = some d := hx
    rw [List.getElem?_map] at hx
    obtain ⟨a, ha, rfl⟩ := Option.map_eq_some_iff.mp hx
    rw [drop_at ha, forT] at hf
    obtain ⟨u, hu, hf⟩ := Option.bind_eq_some_iff.mp hf
    obtain ⟨e2, b1, r, b2, b3⟩ := hb a s e u (List.mem_of_getElem? ha) hR hu
    refine ⟨hg s e hR, e2, b1, r, b2, ?_⟩
    cases u with
    | nx s' =>
      cases r with
      | nx e' => exact ⟨s', b3, hf⟩
      | ct e' => exact ⟨s', b3, hf⟩
      | bk e' => exact b3.elim
      | rt v e' => exact b3.elim
    | bk s' =>
      cases hf
      cases r with
      | bk e' => exact k s' e' rfl b3
      | nx e' => exact b3.elim
      | ct e' => exact b3.elim
      | rt v e' => exact b3.elim
    | rt v =>
      cases hf
      cases r with
      | rt w e' => exact k' v w e' rfl b3
      | nx e' => exact b3.elim
      | ct e' => exact b3.elim
      | bk e' => exact b3.elim
  · rintro e ⟨s, hR, hf⟩
    refine ⟨hg s e hR, ?_⟩
    have hf : forT f (l.drop (l.map En.e).length) s = some r0 := hf
    rw [List.length_map, List.drop_length] at hf
    cases hf
    exact k s e rfl hR
theorem st_foldO {σ : Type} {ss x : List MS} {tg : Tg} {it : MI} {lk : List Nat} {g : Option (Nat × List D)} {l : List α} {f : α → σ → Option σ} {s0 s1 : σ} (Rel : σ → Env → Prop)
    (h : foldO f l s0 = some s1) (hs : evI Γ it env = some (⟨l.map En.e, lk, g⟩, e1)) (h0 : Rel s0 e1) (hg : ∀ s e, Rel s e → gOk g e)
    (hb : ∀ a s e r, a ∈ l → Rel s e → f a s = some r → ∃ e2, bindT (lk ++ L) tg (En.e a) e = some e2 ∧ OK (evSs Γ (lk ++ L) x e2) (RefS Rel r))
    (k : ∀ e, Rel s1 e → OK (evSs Γ L ss e) P) : OK (evSs Γ L (.for_ tg it x :: ss) env) P := by
  refine ok_cons (ok_for hs (fun i e => ∃ s, Rel s e ∧ foldO f (l.drop i) s = some s1) ⟨s0, h0, by rw [List.drop_zero]; exact h⟩ ?_ ?_)
  · rintro i d e hx ⟨s, hR, hf⟩
    have hx : (l.map En.e)[i]? = some d := hx
    rw [List.getElem?_map] at hx
    obtain ⟨a, ha, rfl⟩ := Option.map_eq_some_iff.mp hx
    rw [drop_at ha, foldO] at hf
    obtain ⟨u, hu, hf⟩ := Option.bind_eq_some_iff.mp hf
    obtain ⟨e2, b1, r, b2, b3⟩ := hb a s e u (List.mem_of_getElem? ha) hR hu
    refine ⟨hg s e hR, e2, b1, r, b2, ?_⟩
    cases r with
    | nx e' => exact ⟨u, b3, hf⟩
    | ct e' => exact ⟨u, b3, hf⟩
    | bk e' => exact b3.elim
    | rt v e' => exact b3.elim
  · rintro e ⟨s, hR, hf⟩
    refine ⟨hg s e hR, ?_⟩
    have hf : foldO f (l.drop (l.map En.e).length) s = some s1 := hf
    rw [List.length_map, List.drop_length] at hf
    cases hf
    exact k e hR
theorem whT_of {σ ρ : Type} {c : σ → Option Bool} {b : σ → Option (St σ ρ)} {s : σ} {r : St σ ρ} (h : whT c b s = some r) : ∃ n, whF c b n s = some r := by
  unfold whT at h
  split at h
  · exact ⟨_, h⟩
  · cases h
theorem st_whT {σ ρ : Type} {ss x : List MS} {f : σ → Option Bool} {g : σ → Option (St σ ρ)} {s0 : σ} {r0 : St σ ρ} (Rel : σ → Env → Prop) (Fin : ρ → Res → Prop)
    (h : whT f g s0 = some r0) (h0 : Rel s0 env)
    (hc : ∀ s e p, Rel s e → f s = some p → ∃ e1, JC Γ e c e1 p ∧ Rel s e1)
    (hb : ∀ s e r, Rel s e → g s = some r → OK (evSs Γ L x e) (Ref Rel Fin r))
    (k : ∀ s e, r0 = .nx s → Rel s e → OK (evSs Γ L ss e) P) (k' : ∀ v r e, r0 = .rt v → Fin v (.rt r e) → P (.rt r e)) : OK (evSs Γ L (.whl c x :: ss) env) P := by
  obtain ⟨n, hn⟩ := whT_of h
  refine ok_cons (ok_whl (fun m e => ∃ s, Rel s e ∧ whF f g m s = some r0) ?_ ⟨s0, h0, hn⟩)
  rintro m e ⟨s, hR, hf⟩
  cases m with
  | zero => cases hf
  | succ m =>
    rw [whF] at hf
    obtain ⟨p, hp, hf⟩ := Option.bind_eq_some_iff.mp hf
    obtain ⟨e1, q1, q2⟩ := hc s e p hR hp
    refine ⟨p, e1, q1, fun hpt => ?_, fun hpf => ?_⟩
    · rw [hpt, if_pos rfl] at hf
      obtain ⟨u, hu, hf⟩ := Option.bind_eq_some_iff.mp hf
      obtain ⟨r, b2, b3⟩ := hb s e1 u q2 hu
      refine ⟨r, b2, ?_⟩
      cases u with
      | nx s' =>
        cases r with
        | nx e' => exact ⟨m, Nat.lt_succ_self m, s', b3, hf⟩
        | ct e' => exact ⟨m, Nat.lt_succ_self m, s', b3, hf⟩
        | bk e' => exact b3.elim
        | rt v e' => exact b3.elim
      | bk s' =>
        cases hf
        cases r with
        | bk e' => exact k s' e' rfl b3
        | nx e' => exact b3.elim
        | ct e' => exact b3.elim
        | rt v e' => exact b3.elim
      | rt v =>
        cases hf
        cases r with
        | rt w e' => exact k' v w e' rfl b3
        | nx e' => exact b3.elim
        | ct e' => exact b3.elim
        | bk e' => exact b3.elim
    · rw [hpf] at hf
      have hf : some (St.nx s) = some r0 := by simpa using hf
      cases hf
      exact k s e1 rfl q2
theorem bnd {α β : Type} {o : Option α} {f : α → Option β} {y : β} (h : o.bind f = some y) : ∃ x, o = some x ∧ f x = some y := Option.bind_eq_some_iff.mp h
theorem go_nx {σ ρ β : Type} {s : σ} {f : σ → Option β} {g : ρ → Option β} : (St.nx s : St σ ρ).go f g = f s := rfl
theorem go_rt {σ ρ β : Type} {v : ρ} {f : σ → Option β} {g : ρ → Option β} : (St.rt v : St σ ρ).go f g = g v := rfl
end
end Ev

namespace Ev
open PySem L2
section
variable {α β γ : Type} [En α] [En β] [En γ] {Γ : Ctx} {L : List Nat} {env e0 e1 e2 e3 e4 : Env} {a b c me lo hi : ME} {i j : Nat} {P : Res → Prop}
def owb (b : Bool) (l : List D) : Val := match b with
  | true => .own l
  | false => .d (.list l)
def bkJ (o : Option Val) : Option Val := match o with
  | some (.d x) => some (.d x)
  | _ => none
def jd (o : Option D) : Option Val := o.map Val.d
theorem bkJ_jd (o : Option D) : bkJ (jd o) = jd o := by cases o <;> rfl
theorem ja_st {s : DS} (h : rd env i = some (dsV s)) : ev Γ (.var i) env = some (.ali i, env) := by rw [ev, h]; rfl
theorem ja_scr {ns : List Int} (h : rd env i = some (.scr ns)) : ev Γ (.var i) env = some (.ali i, env) := by rw [ev, h]
theorem if_t {α : Type} {p : Bool} {x y : Option α} {r : α} (h : (if p = true then x else y) = some r) (hp : p = true) : x = some r := by rw [if_pos hp] at h; exact h
theorem if_f {α : Type} {p : Bool} {x y : Option α} {r : α} (h : (if p = true then x else y) = some r) (hp : p = false) : y = some r := by rw [hp] at h; simpa using h
theorem ok_nilT {ss : List MS} (h : OK (evSs Γ L ss env) P) : OK (evSs Γ L [] env) (thenP Γ L ss P) := ok_nil h
theorem goN {σ ρ β : Type} {s : σ} {f : σ → Option β} {g : ρ → Option β} {r : β} (h : (St.nx s : St σ ρ).go f g = some r) : f s = some r := h
theorem goR {σ ρ β : Type} {v : ρ} {f : σ → Option β} {g : ρ → Option β} {r : β} (h : (St.rt v : St σ ρ).go f g = some r) : g v = some r := h
theorem jd_idxW {p : Wd} {k m v : Int} (ha : JX Γ env a e1 e2 p) (hb : JX Γ e1 b e2 e2 k) (hk : k = m + 1) (hm : 0 ≤ m) (h : atO p.ns m = some v) : JD Γ env (.idx a b) e2 v := jd_idx ha hb (by
  subst hk
  have e : idxD (En.e p) (En.e (m + 1)) = atI (.str p.w :: p.ns.map PyData.int) (m + 1) := rfl
  unfold atO atI at h
  obtain ⟨q, h1, h2⟩ := Option.bind_eq_some_iff.mp h
  have hl : m < p.ns.length ∧ q = m.toNat := by
    unfold ixN at h1
    rw [if_pos hm] at h1
    split at h1
    · rename_i z; cases h1; exact ⟨z, rfl⟩
    · cases h1
  rw [e]
  unfold atI
  have e2 : ixN (PyData.str p.w :: p.ns.map PyData.int).length (m + 1) = some (q + 1) := by
    unfold ixN
    rw [if_pos (by omega), if_pos (by simp; omega)]
    congr 1
    omega
  rw [e2, Option.bind_some, List.getElem?_cons_succ, List.getElem?_map, h2]
  rfl)
theorem jd_catW {p : Wd} {ns w : List Int} {x : D} (ha : JX Γ env a e1 e2 p) (hb : JX Γ e1 b e2 e2 x) (hx : x = .tuple (ns.map PyData.int)) (h : catO p.ns ns = some w) (hl : p.ns.length + 1 + ns.length ≤ sizeLine) : JD Γ env (.bin .add a b) e2 (Wd.mk p.w w) := jw_bin ha hb (by
  unfold catO at h
  split at h
  · rename_i q
    cases h
    subst hx
    have e : binD .add (En.e p) (En.e (PyData.tuple (ns.map PyData.int))) = if (PyData.str p.w :: p.ns.map PyData.int).length + (ns.map PyData.int).length ≤ sizeLine then some (.d (.tuple ((PyData.str p.w :: p.ns.map PyData.int) ++ ns.map PyData.int))) else none := rfl
    rw [e, if_pos (by simp; omega)]
    show some (Val.d (.tuple ((PyData.str p.w :: p.ns.map PyData.int) ++ ns.map PyData.int))) = some (Val.d (.tuple (PyData.str p.w :: (p.ns ++ ns).map PyData.int)))
    rw [List.map_append]; rfl
  · cases h)
theorem jw_iteT {p : Bool} {R : Option (Rv × Env)} (h : JC Γ env c e1 p) (hp : p = true) (k : ev Γ a e1 = R) : ev Γ (.ite c a b) env = R := jw_iteP h (fun _ => k) fun z => by rw [hp] at z; cases z
theorem jw_iteF {p : Bool} {R : Option (Rv × Env)} (h : JC Γ env c e1 p) (hp : p = false) (k : ev Γ b e1 = R) : ev Γ (.ite c a b) env = R := jw_iteP h (fun z => by rw [hp] at z; cases z) fun _ => k
theorem jc_som {p q : Bool} (h : JC Γ env me e1 p) (k : some p = some q) : JC Γ env me e1 q := Option.some.inj k ▸ h
theorem jf_som {v w : α} (h : JF Γ env me e1 v) (k : some v = some w) : JF Γ env me e1 w := Option.some.inj k ▸ h
theorem jo_lcM {α β : Type} [En α] [En β] {elt : ME} {tg : Tg} {it : MI} {own lk : List Nat} {g : Option (Nat × List D)} {l : List α} (f : α → β)
    (hs : evI Γ it env = some (⟨l.map En.e, lk, g⟩, e1)) (hl : lk.all (fun j => decide (j ∉ own)) = true) (hg : gOk g (wipeE e1 own)) (hb : backOwn e1 (wipeE e1 own) own = e2)
    (h : ∀ a ∈ l, ∃ e4, bindT lk tg (En.e a) (wipeE e1 own) = some e4 ∧ wipeE e4 own = wipeE e1 own ∧ JF Γ e4 elt e4 (f a)) :
    JO Γ env (.lc elt tg it (.con (.bool true)) own) e2 (l.map f) := by
  have q := jo_lc (fun _ => true) f hs hl hg hb fun a ha => by obtain ⟨e4, h1, h2, h3⟩ := h a ha; exact ⟨e4, h1, tru_evC, h2, h3⟩
  rwa [filter_tt] at q
theorem jo_lcF {α : Type} [En α] {elt cond : ME} {tg : Tg} {it : MI} {own lk : List Nat} {g : Option (Nat × List D)} {l : List α} (p : α → Bool)
    (hs : evI Γ it env = some (⟨l.map En.e, lk, g⟩, e1)) (hl : lk.all (fun j => decide (j ∉ own)) = true) (hg : gOk g (wipeE e1 own)) (hb : backOwn e1 (wipeE e1 own) own = e2)
    (h : ∀ a ∈ l, ∃ e4, bindT lk tg (En.e a) (wipeE e1 own) = some e4 ∧ JC Γ e4 cond e4 (p a) ∧ wipeE e4 own = wipeE e1 own ∧ JF Γ e4 elt e4 a) :
    JO Γ env (.lc elt tg it cond own) e2 (l.filter p) := by
  have q := jo_lc p (fun a => a) hs hl hg hb h
  rwa [List.map_id'] at q
theorem jo_lcI {α : Type} [En α] {elt : ME} {tg : Tg} {it : MI} {own lk : List Nat} {g : Option (Nat × List D)} {l : List α}
    (hs : evI Γ it env = some (⟨l.map En.e, lk, g⟩, e1)) (hl : lk.all (fun j => decide (j ∉ own)) = true) (hg : gOk g (wipeE e1 own)) (hb : backOwn e1 (wipeE e1 own) own = e2)
    (h : ∀ a ∈ l, ∃ e4, bindT lk tg (En.e a) (wipeE e1 own) = some e4 ∧ wipeE e4 own = wipeE e1 own ∧ JF Γ e4 elt e4 a) :
    JO Γ env (.lc elt tg it (.con (.bool true)) own) e2 l := by
  have q := jo_lcM (fun a => a) hs hl hg hb h
  rwa [List.map_id'] at q
theorem jx_ali {v : List α} (h : ev Γ me env = some (.ali i, e1)) (k : rd e2 i = some (.own (v.map En.e))) : JX Γ env me e1 e2 v := ⟨.ali i, h, by show (rd e2 i).bind valD = _; rw [k]; rfl⟩
theorem jx_som {v w : α} (h : JX Γ env me e1 e2 v) (k : some v = some w) : JX Γ env me e1 e2 w := Option.some.inj k ▸ h
def wszO (p ns : List Int) : Option Unit := if p.length + 1 + ns.length ≤ sizeLine then some () else none
theorem jd_catW2 {p : Wd} {ns w : List Int} {x : α} {z : Unit} (ha : JX Γ env a e1 e2 p) (hb : JX Γ e1 b e2 e2 x) (hx : En.e x = .tuple (ns.map PyData.int)) (h : catO p.ns ns = some w) (hz : wszO p.ns ns = some z) : JD Γ env (.bin .add a b) e2 (Wd.mk p.w w) := by
  have hl : p.ns.length + 1 + ns.length ≤ sizeLine := by
    unfold wszO at hz
    split at hz
    · assumption
    · cases hz
  exact jd_catW (x := En.e x) ha (jx_cast hb rfl) hx h hl
theorem idxW0 (p : Wd) : idxD (En.e p) (En.e (0 : Int)) = some (En.e p.w) := by
  have e : idxD (En.e p) (En.e (0 : Int)) = atI (.str p.w :: p.ns.map PyData.int) (((0 : Nat) : Int)) := rfl
  rw [e]
  exact atI_nat rfl
theorem joinK {s : MS} {ss : List MS} (P' : Env → Prop) (h1 : (∀ e, P' e → OK (evSs Γ L ss e) P) → OK (evSs Γ L (s :: ss) env) P) (h2 : ∀ e, P' e → OK (evSs Γ L ss e) P) : OK (evSs Γ L (s :: ss) env) P := h1 h2
theorem jo_lcE {v w : List α} (h : JO Γ env me e1 v) (k : v = w) : JO Γ env me e1 w := k ▸ h
theorem jw_callK {f : Nat} {es : List ME} {rs : List Rv} {ws ws' : List Val} {v : Val} (h : evL Γ es env = some (rs, e1)) (hn : (alis rs).Nodup) (hw : argVals e1 (Γ.io f) 0 rs = some ws) (hc : Γ.C f ws = some (v, ws'))
    (hb : ∀ k, backArgs (Γ.io f) k 0 rs ws' e1 = e2) : ev Γ (.call f es) env = some (.v v, e2) := call_gen h hn hw hc (hb _)
end
end Ev

namespace Ev
open PySem L2
section
variable {α β γ : Type} [En α] [En β] [En γ] {Γ : Ctx} {L : List Nat} {env e0 e1 e2 e3 e4 : Env} {a b c me lo hi : ME} {i j : Nat} {P : Res → Prop}
/-! two sources -/
def szO {α : Type} (l : List α) : Option (List α) := if l.length ≤ sizeLine then some l else none
def lc2O {α γ : Type} (c : α → Option Bool) (f : α → Option (List γ)) : List α → Option (List γ)
  | [] => some []
  | a :: r => (c a).bind fun p => if p then (f a).bind fun ys => (lc2O c f r).map fun zs => ys ++ zs else lc2O c f r
theorem lcO_tot {α β : Type} (p : α → Bool) (f : α → β) : ∀ l : List α, lcO (fun x => some (p x)) (fun x => some (f x)) l = some ((l.filter p).map f)
  | [] => rfl
  | a :: r => by
    rw [lcO, lcO_tot p f r, Option.bind_some, Option.bind_some]
    cases h : p a with
    | true => rw [if_pos rfl, List.filter_cons_of_pos h]; rfl
    | false => rw [List.filter_cons_of_neg (by simp [h])]; rfl
theorem lc2O_tot {α γ : Type} (p : α → Bool) (f : α → List γ) : ∀ l : List α, lc2O (fun x => some (p x)) (fun x => some (f x)) l = some ((l.filter p).flatMap f)
  | [] => rfl
  | a :: r => by
    rw [lc2O, lc2O_tot p f r, Option.bind_some, Option.bind_some]
    cases h : p a with
    | true => rw [if_pos rfl, List.filter_cons_of_pos h]; rfl
    | false => rw [List.filter_cons_of_neg (by simp [h])]; rfl
theorem lcO_tot2 {α β : Type} (p : α → Bool) (f : α → β) (l : List α) {m : List β} (h : (l.filter p).map f = m) : lcO (fun x => some (p x)) (fun x => some (f x)) l = some m := by rw [lcO_tot, h]
theorem lc2O_tot2 {α γ : Type} (p : α → Bool) (f : α → List γ) (l : List α) {m : List γ} (h : (l.filter p).flatMap f = m) : (lc2O (fun x => some (p x)) (fun x => some (f x)) l).bind szO = szO m := by rw [lc2O_tot, h, Option.bind_some]
theorem lcD_ok {elt cond : ME} {tg : Tg} {own lk : List Nat} {g : Option (Nat × List D)} (hg : gOk g e0) {p : α → Option Bool} {f : α → Option β} : ∀ {l : List α} {w : List β}, lcO p f l = some w →
    (∀ a ∈ l, ∃ e4, bindT lk tg (En.e a) e0 = some e4 ∧ wipeE e4 own = e0 ∧ (∀ q, p a = some q → JC Γ e4 cond e4 q) ∧ (∀ y, f a = some y → JF Γ e4 elt e4 y)) →
    lcD (fun e => (ev Γ elt e).bind fun (r, e') => fz e' r) (fun e => (ev Γ cond e).bind fun (r, e') => (cur e' r).map fun x => (x, e')) (bindT lk tg) own g (l.map En.e) e0 = some (w.map En.e, e0)
  | [], w, hw, _ => by
    cases hw
    rw [List.map_nil, lcD, if_pos hg]; rfl
  | a :: r, w, hw, h => by
    rw [lcO] at hw
    obtain ⟨q, hq, hw⟩ := bnd hw
    obtain ⟨e4, k1, k2, k3, k4⟩ := h a (List.mem_cons_self ..)
    have hr := fun {w} hw => lcD_ok (elt := elt) (cond := cond) (own := own) hg (l := r) (w := w) hw fun b hb => h b (List.mem_cons_of_mem _ hb)
    obtain ⟨rv, c1, c2⟩ := jc_inv (k3 q hq)
    obtain ⟨x, c3, c4⟩ := Option.bind_eq_some_iff.mp (show (cur e4 rv).bind truD = some q from c2)
    rw [List.map_cons, lcD, if_pos hg, k1, Option.bind_some]
    simp only [c1, Option.bind_some, c3, Option.map_some, c4]
    cases q with
    | true =>
      rw [if_pos rfl] at hw
      obtain ⟨y, hy, hw⟩ := bnd hw
      obtain ⟨us, hu, he⟩ := Option.map_eq_some_iff.mp hw
      have := k4 y hy
      unfold JF at this
      simp only [if_true, this, Option.bind_some, k2, hr hu, Option.map_some]
      rw [← he]; rfl
    | false =>
      simp only [Bool.false_eq_true, if_false, k2]
      exact hr (by simpa using hw)
theorem lc2D_ok {inner : Env → Option (List D × Env)} {cond : ME} {bd : D → Env → Option Env} {own : List Nat} {g : Option (Nat × List D)} (hg : gOk g e0) {p : α → Option Bool} {f : α → Option (List γ)} : ∀ {l : List α} {w : List γ}, lc2O p f l = some w →
    (∀ a ∈ l, ∃ e4, bd (En.e a) e0 = some e4 ∧ wipeE e4 own = e0 ∧ (∀ q, p a = some q → JC Γ e4 cond e4 q) ∧ (∀ ys, f a = some ys → ∃ e6, inner e4 = some (ys.map En.e, e6) ∧ wipeE e6 own = e0)) →
    lc2D inner (fun e => (ev Γ cond e).bind fun (r, e') => (cur e' r).map fun x => (x, e')) bd own g (l.map En.e) e0 = some (w.map En.e, e0)
  | [], w, hw, _ => by
    cases hw
    rw [List.map_nil, lc2D, if_pos hg]; rfl
  | a :: r, w, hw, h => by
    rw [lc2O] at hw
    obtain ⟨q, hq, hw⟩ := bnd hw
    obtain ⟨e4, k1, k2, k3, k4⟩ := h a (List.mem_cons_self ..)
    have hr := fun {w} hw => lc2D_ok (inner := inner) (cond := cond) (bd := bd) (own := own) hg (l := r) (w := w) hw fun b hb => h b (List.mem_cons_of_mem _ hb)
    obtain ⟨rv, c1, c2⟩ := jc_inv (k3 q hq)
    obtain ⟨x, c3, c4⟩ := Option.bind_eq_some_iff.mp (show (cur e4 rv).bind truD = some q from c2)
    rw [List.map_cons, lc2D, if_pos hg, k1, Option.bind_some]
    simp only [c1, Option.bind_some, c3, Option.map_some, c4]
    cases q with
    | true =>
      rw [if_pos rfl] at hw
      obtain ⟨y, hy, hw⟩ := bnd hw
      obtain ⟨us, hu, he⟩ := Option.map_eq_some_iff.mp hw
      obtain ⟨e6, k5, k6⟩ := k4 y hy
      simp only [if_true, k5, Option.bind_some, k6, hr hu, Option.map_some]
      rw [← he, List.map_append]
    | false =>
      simp only [Bool.false_eq_true, if_false, k2]
      exact hr (by simpa using hw)
theorem jn_lc {elt cond : ME} {tg : Tg} {it : MI} {own vs lk : List Nat} {g : Option (Nat × List D)} {l : List α} {w : List β} {p : α → Option Bool} {f : α → Option β}
    (hs : evI Γ it env = some (⟨l.map En.e, lk, g⟩, e1)) (hl : lk.all (fun j => decide (j ∉ vs)) = true) (hg : gOk g (wipeE e1 vs)) (hw : lcO p f l = some w) (he : wipeE (wipeE e1 vs) own = e0)
    (h : ∀ a ∈ l, ∃ e4, bindT lk tg (En.e a) (wipeE e1 vs) = some e4 ∧ wipeE e4 vs = wipeE e1 vs ∧ (∀ q, p a = some q → JC Γ e4 cond e4 q) ∧ (∀ y, f a = some y → JF Γ e4 elt e4 y)) :
    ∃ e6, ((evI Γ it env).bind fun (s1, e') => if s1.lk.all (fun j => decide (j ∉ vs)) then
          lcD (fun e => (ev Γ elt e).bind fun (r, e') => fz e' r) (fun e => (ev Γ cond e).bind fun (r, e') => (cur e' r).map fun x => (x, e')) (bindT s1.lk tg) vs s1.g s1.items (wipeE e' vs)
        else none) = some (w.map En.e, e6) ∧ wipeE e6 own = e0 := by
  refine ⟨wipeE e1 vs, ?_, he⟩
  rw [hs, Option.bind_some]
  show (if lk.all (fun j => decide (j ∉ vs)) = true then _ else none) = _
  rw [if_pos hl]
  exact lcD_ok hg hw h
theorem jo_lc2 {elt cond cond1 : ME} {tg tg1 : Tg} {it it1 : MI} {own vs lk : List Nat} {g : Option (Nat × List D)} {l : List α} {w : List γ} {p : α → Option Bool} {f : α → Option (List γ)}
    (hs : evI Γ it env = some (⟨l.map En.e, lk, g⟩, e1)) (hl : lk.all (fun j => decide (j ∉ own)) = true) (hg : gOk g (wipeE e1 own)) (hb : backOwn e1 (wipeE e1 own) own = e2) (hw : (lc2O p f l).bind szO = some w)
    (h : ∀ a ∈ l, ∃ e4, bindT lk tg (En.e a) (wipeE e1 own) = some e4 ∧ wipeE e4 own = wipeE e1 own ∧ (∀ q, p a = some q → JC Γ e4 cond e4 q) ∧ (∀ ys, f a = some ys → ∃ e6, ((evI Γ it1 e4).bind fun (s1, e') => if s1.lk.all (fun j => decide (j ∉ vs)) then
          lcD (fun e => (ev Γ elt e).bind fun (r, e') => fz e' r) (fun e => (ev Γ cond1 e).bind fun (r, e') => (cur e' r).map fun x => (x, e')) (bindT s1.lk tg1) vs s1.g s1.items (wipeE e' vs)
        else none) = some (ys.map En.e, e6) ∧ wipeE e6 own = wipeE e1 own)) :
    JO Γ env (.lc2 elt tg it cond own tg1 it1 cond1 vs) e2 w := by
  obtain ⟨u, hu, hz⟩ := bnd hw
  unfold szO at hz
  split at hz
  · rename_i q
    cases hz
    have k := lc2D_ok (own := own) (inner := fun e => (evI Γ it1 e).bind fun (s1, e') => if s1.lk.all (fun j => decide (j ∉ vs)) then
          lcD (fun e => (ev Γ elt e).bind fun (r, e') => fz e' r) (fun e => (ev Γ cond1 e).bind fun (r, e') => (cur e' r).map fun x => (x, e')) (bindT s1.lk tg1) vs s1.g s1.items (wipeE e' vs)
        else none) hg hu h
    show ev _ _ _ = _
    rw [ev, hs, Option.bind_some]
    show (if lk.all (fun j => decide (j ∉ own)) = true then _ else none) = _
    rw [if_pos hl]
    show ((lc2D _ _ (bindT lk tg) own g (l.map En.e) (wipeE e1 own)).bind _) = _
    rw [k, Option.bind_some]
    show (if (w.map En.e).length ≤ sizeLine then some (Rv.v (Val.own (w.map En.e)), backOwn e1 (wipeE e1 own) own) else none) = _
    rw [List.length_map, if_pos q, hb]
  · cases hz
/-! the place of a value -/
class Cl (α : Type) [En α] : Prop where
  cl : ∀ a : α, (En.e a).canLay0 = true
theorem cl_alls [Cl α] : ∀ l : List α, PyData.canLayAll0 (l.map En.e) = true
  | [] => rfl
  | a :: r => by simp only [List.map_cons, PyData.canLayAll0, Cl.cl a, cl_alls r, Bool.and_self]
instance : Cl Int := ⟨fun _ => rfl⟩
instance : Cl Bool := ⟨fun _ => rfl⟩
instance [Cl α] : Cl (List α) := ⟨fun l => by simp only [En.e, PyData.canLay0]; exact cl_alls l⟩
instance [Cl α] [Cl β] : Cl (α × β) := ⟨fun p => by simp only [En.e, PyData.canLay0, PyData.canLayAll0, Cl.cl, Bool.and_self]⟩
instance [Cl α] : Cl (Option α) := ⟨fun o => by
  cases o with
  | none => rfl
  | some a => exact Cl.cl a⟩
theorem shapedE [Cl α] [Eo α] (hd : Eo.dep α ≤ 60) (a : α) : SeqAt.shaped (En.e a) = true := by
  unfold SeqAt.shaped
  rw [Cl.cl a, Bool.true_and]
  have := Eo.dp a
  exact decide_eq_true (by omega)
def idxO {α : Type} [DecidableEq α] (l : List α) (x : α) : Option Int := (l.findIdx? fun z => decide (z = x)).map fun j : Nat => (j : Int)
theorem findIdx_e [Eo α] [DecidableEq α] (l : List α) (x : α) : (l.map En.e).findIdx? (fun z => z.eqv (En.e x)) = l.findIdx? fun z => decide (z = x) := by
  induction l with
  | nil => rfl
  | cons y r ih =>
    rw [List.map_cons, List.findIdx?_cons, List.findIdx?_cons, ih, eqvE]
theorem jd_lindex [Eo α] [Cl α] [DecidableEq α] {l : List α} {x : α} {v : Int} (hd : Eo.dep α ≤ 50) (ha : JX Γ env a e1 e1 l) (ha2 : JX Γ env a e1 e2 l) (hb : JX Γ e1 b e2 e2 x) (h : idxO l x = some v) : JD Γ env (.mth .lindex a [b]) e2 v := by
  obtain ⟨r, h1, h2⟩ := ha
  obtain ⟨r', h1', h2'⟩ := ha2
  rw [h1] at h1'
  cases h1'
  obtain ⟨s, h3, h4⟩ := hb
  show ev _ _ _ = _
  rw [ev, h1, Option.bind_some]
  have hk : ((cur e1 r).map (mtK .lindex)).getD false = true := by rw [h2]; rfl
  have e : mtD .lindex (En.e l) [En.e x] = if SeqAt.shaped (En.e l) && SeqAt.shaped (En.e x) then ((l.map En.e).findIdx? fun z => z.eqv (En.e x)).map fun (j : Nat) => .d (.int (j : Int)) else none := rfl
  unfold idxO at h
  obtain ⟨j, k1, k2⟩ := Option.map_eq_some_iff.mp h
  have hs1 : SeqAt.shaped (En.e l) = true := shapedE (α := List α) (by show Eo.dep α + 1 ≤ 60; omega) l
  have hs2 : SeqAt.shaped (En.e x) = true := shapedE (by omega) x
  rw [hs1, hs2, findIdx_e, k1] at e
  simp only [hk, if_true, evL1 h3, Option.bind_some, h2', curs, h4, Option.map_some, e, Bool.and_self]
  rw [← k2]; rfl
/-- the same where the texts within are asked of -/
def idxG {α : Type} [En α] [DecidableEq α] (l : List α) (x : α) : Option Int := if SeqAt.shaped (En.e l) && SeqAt.shaped (En.e x) then idxO l x else none
theorem jd_lindexG [Eo α] [DecidableEq α] {l : List α} {x : α} {v : Int} (hd : Eo.dep α ≤ 50) (ha : JX Γ env a e1 e1 l) (ha2 : JX Γ env a e1 e2 l) (hb : JX Γ e1 b e2 e2 x) (h : idxG l x = some v) : JD Γ env (.mth .lindex a [b]) e2 v := by
  obtain ⟨r, h1, h2⟩ := ha
  obtain ⟨r', h1', h2'⟩ := ha2
  rw [h1] at h1'
  cases h1'
  obtain ⟨s, h3, h4⟩ := hb
  show ev _ _ _ = _
  rw [ev, h1, Option.bind_some]
  have hk : ((cur e1 r).map (mtK .lindex)).getD false = true := by rw [h2]; rfl
  have e : mtD .lindex (En.e l) [En.e x] = if SeqAt.shaped (En.e l) && SeqAt.shaped (En.e x) then ((l.map En.e).findIdx? fun z => z.eqv (En.e x)).map fun (j : Nat) => .d (.int (j : Int)) else none := rfl
  unfold idxG at h
  obtain ⟨hs, h⟩ := (Option.ite_none_right_eq_some ..).mp h
  unfold idxO at h
  obtain ⟨j, k1, k2⟩ := Option.map_eq_some_iff.mp h
  rw [if_pos hs, findIdx_e, k1] at e
  simp only [hk, if_true, evL1 h3, Option.bind_some, h2', curs, h4, Option.map_some, e]
  rw [← k2]; rfl
theorem st_swp {ss : List MS} {k1 k2 x1 x2 : ME} {x y : α} {n1 n2 : Int} {l l1 l2 : List α} (hf : evF Γ [x1, x2] env = some ([En.e x, En.e y], e1)) (h0 : rd e1 i = some (.own (l.map En.e))) (hk1 : JX Γ e1 k1 e1 e1 n1) (hs1 : setO l n1 x = some l1) (he1 : e1.set i (some (.own (l1.map En.e))) = e2) (h2 : rd e2 i = some (.own (l1.map En.e)))
    (hk2 : JX Γ e2 k2 e2 e2 n2) (hs2 : setO l1 n2 y = some l2) (he2 : e2.set i (some (.own (l2.map En.e))) = e3) (k : OK (evSs Γ L ss e3) P) : OK (evSs Γ L (.swp i k1 k2 x1 x2 :: ss) env) P := by
  refine ok_step ?_ k
  have sto : ∀ {ea eb : Env} {ke : ME} {n : Int} {l m : List α} {z : α}, rd ea i = some (.own (l.map En.e)) → JX Γ ea ke ea ea n → setO l n z = some m → ea.set i (some (.own (m.map En.e))) = eb → stoD Γ i ke (En.e z) ea = some eb := by
    intro ea eb ke n l m z g1 g2 g3 g4
    obtain ⟨s, h5, h6⟩ := g2
    have h6 : cur ea s = some (.int n) := h6
    unfold setO at g3
    obtain ⟨m', h7, h8⟩ := Option.map_eq_some_iff.mp g3
    have h7 : ixN (l.map En.e).length n = some m' := by rw [List.length_map]; exact h7
    unfold stoD
    simp only [g1, Option.bind_some, h5, h6, h7, Option.map_some]
    rw [← g4, ← h8, List.map_set]
  simp only [evS, hf, Option.bind_some, sto h0 hk1 hs1 he1, sto h2 hk2 hs2 he2, Option.map_some]
end
end Ev

namespace Ev
open PySem L2
/-! ### what the typed words tell: they answer, and so -/
section
variable {α β γ σ ρ : Type}
def Yes {α : Type} (t : Option α) (Q : α → Prop) : Prop := ∃ v, t = some v ∧ Q v
theorem Yes.bind {t : Option α} {f : α → Option β} {Q : α → Prop} {R : β → Prop} (h : Yes t Q) (k : ∀ v, Q v → Yes (f v) R) : Yes (t.bind f) R := by
  obtain ⟨v, rfl, q⟩ := h
  exact k v q
theorem eq_of_yes {t : Option α} {v : α} (h : Yes t fun x => x = v) : t = some v := by obtain ⟨x, rfl, rfl⟩ := h; rfl
theorem Yes.imp {t : Option α} {Q R : α → Prop} (h : Yes t Q) (k : ∀ v, Q v → R v) : Yes t R := h.elim fun v z => ⟨v, z.1, k v z.2⟩
theorem Yes.of_eq {t : Option α} {v : α} {Q : α → Prop} (h : t = some v) (q : Q v) : Yes t Q := ⟨v, h, q⟩
theorem yes_some {v : α} {Q : α → Prop} (h : Q v) : Yes (some v) Q := ⟨v, rfl, h⟩
theorem yes_let {v : α} {f : α → Option β} {R : β → Prop} (k : Yes (f v) R) : Yes ((some v).bind f) R := k
theorem yes_ite {b : Bool} {x y : Option α} {Q : α → Prop} (h1 : b = true → Yes x Q) (h2 : b = false → Yes y Q) : Yes (if b = true then x else y) Q := by
  cases b with
  | true => rw [if_pos rfl]; exact h1 rfl
  | false => rw [if_neg (by decide)]; exact h2 rfl
theorem atO_nat {l : List α} {i : Nat} {v : α} (h : l[i]? = some v) : atO l (i : Int) = some v := atI_nat h
theorem atO_int {l : List α} {i : Int} (h0 : 0 ≤ i) (h1 : i < l.length) : atO l i = l[i.toNat]? := by
  have hl : i.toNat < l.length := by omega
  have e : ((i.toNat : Nat) : Int) = i := Int.toNat_of_nonneg h0
  have := atO_nat (List.getElem?_eq_getElem hl)
  rw [e] at this
  rw [this, List.getElem?_eq_getElem hl]
theorem yes_at {l : List α} {i : Int} (h0 : 0 ≤ i) (h1 : i < l.length) : Yes (atO l i) fun v => v ∈ l ∧ l[i.toNat]? = some v := by
  have hl : i.toNat < l.length := by omega
  exact ⟨l[i.toNat], by rw [atO_int h0 h1, List.getElem?_eq_getElem hl], List.getElem_mem hl, List.getElem?_eq_getElem hl⟩
theorem atO_some {l : List α} {i : Int} {v : α} (h : atO l i = some v) : v ∈ l := by
  unfold atO atI at h
  obtain ⟨j, _, h2⟩ := Option.bind_eq_some_iff.mp h
  exact List.mem_of_getElem? h2
theorem big : (1000000 : Nat) ≤ sizeLine := by rw [sizeLine_eq]; omega
theorem catO_eq {x y : List α} (h : x.length + y.length ≤ 1000000) : catO x y = some (x ++ y) := if_pos (Nat.le_trans h big)
theorem appO_eq {x : List α} {a : α} (h : x.length < 1000000) : appO x a = some (x ++ [a]) := if_pos (Nat.lt_of_lt_of_le h big)
theorem szO_eq {x : List α} (h : x.length ≤ 1000000) : szO x = some x := if_pos (Nat.le_trans h big)
theorem setO_eq {l : List α} {i : Int} {v : α} (h0 : 0 ≤ i) (h1 : i < l.length) : setO l i v = some (l.set i.toNat v) := by
  unfold setO ixN
  rw [if_pos h0, if_pos h1]; rfl
theorem rngO_eq {i j : Int} (h1 : -1000000 ≤ i) (h2 : i ≤ 1000000) (h3 : -1000000 ≤ j) (h4 : j ≤ 1000000) : rngO i j = some (rngT i j) := by
  unfold rngO
  rw [if_pos]
  unfold rngOk
  refine decide_eq_true ⟨?_, ?_, ?_, ?_, ?_, ?_⟩ <;> omega
theorem rngT_nat (n : Nat) : rngT 0 (n : Int) = (List.range n).map fun k : Nat => (k : Int) := by
  unfold rngT
  rw [show ((n : Int) - 0).toNat = n by omega]
  exact List.map_congr_left fun k _ => by omega
theorem mem_rngT {i j x : Int} : x ∈ rngT i j ↔ i ≤ x ∧ x < j := by
  unfold rngT
  rw [List.mem_map]
  constructor
  · rintro ⟨k, hk, rfl⟩
    have := List.mem_range.mp hk
    omega
  · rintro ⟨h1, h2⟩
    exact ⟨(x - i).toNat, List.mem_range.mpr (by omega), by omega⟩
theorem rngT_len (i j : Int) : (rngT i j).length = (j - i).toNat := by simp [rngT]
theorem rngT_at {i j : Int} {k : Nat} {x : Int} (h : (rngT i j)[k]? = some x) : x = i + (k : Int) ∧ (k : Int) < j - i := by
  unfold rngT at h
  rw [List.getElem?_map] at h
  obtain ⟨m, h1, h2⟩ := Option.map_eq_some_iff.mp h
  obtain ⟨h3, h4⟩ := List.getElem?_eq_some_iff.mp h1
  rw [List.getElem_range] at h4
  rw [List.length_range] at h3
  omega
theorem rngT_pw (i j : Int) : (rngT i j).Pairwise (· < ·) := by
  unfold rngT
  rw [List.pairwise_map]
  exact List.pairwise_lt_range.imp fun z => by omega
theorem mulO_eq {i j : Int} (h1 : i.natAbs < 100000) (h2 : j.natAbs < 100000) : mulO i j = some (i * j) := by
  have up : (100000 : Nat) < 2 ^ 900 := Nat.lt_of_lt_of_le (show 100000 < 2 ^ 17 by decide) (Nat.pow_le_pow_right (by decide) (by decide))
  have h1 := log_i (Nat.lt_trans h1 up)
  have h2 := log_i (Nat.lt_trans h2 up)
  unfold mulO
  rw [if_pos (.inl (by omega))]
theorem mulO_s {i j : Int} (h : (-18446744073709551616 < i ∧ i < 18446744073709551616) ∨ (-18446744073709551616 < j ∧ j < 18446744073709551616)) : mulO i j = some (i * j) := if_pos (.inr h)
theorem fdivO_eq {i j : Int} (h1 : 0 < j) (h2 : j < 100000) : fdivO i j = some (i / j) := by
  have up : (100000 : Nat) < 2 ^ 900 := Nat.lt_of_lt_of_le (show 100000 < 2 ^ 17 by decide) (Nat.pow_le_pow_right (by decide) (by decide))
  have h2 := log_i (i := j) (Nat.lt_trans (by omega) up)
  unfold fdivO
  rw [if_pos ⟨h1, by omega⟩]
theorem modO_eq {i j : Int} (h1 : 0 < j) : modO i j = some (i % j) := if_pos h1
/-! comprehensions -/
theorem lcO_eq {c : α → Option Bool} {f : α → Option β} (p : α → Bool) (g : α → β) : ∀ {l : List α}, (∀ x ∈ l, c x = some (p x)) → (∀ x ∈ l, p x = true → f x = some (g x)) → lcO c f l = some ((l.filter p).map g)
  | [], _, _ => rfl
  | a :: r, h1, h2 => by
    have ih := lcO_eq p g (l := r) (fun x hx => h1 x (List.mem_cons_of_mem _ hx)) fun x hx => h2 x (List.mem_cons_of_mem _ hx)
    rw [lcO, h1 a (List.mem_cons_self ..), Option.bind_some, ih]
    cases h : p a with
    | true => rw [if_pos rfl, h2 a (List.mem_cons_self ..) h, List.filter_cons_of_pos h]; rfl
    | false => rw [List.filter_cons_of_neg (by simp [h])]; rfl
theorem lcO_map {f : α → Option β} (g : α → β) {l : List α} (h : ∀ x ∈ l, f x = some (g x)) : lcO (fun _ => some true) f l = some (l.map g) := by
  rw [lcO_eq (fun _ => true) g (fun _ _ => rfl) fun x hx _ => h x hx, filter_tt]
theorem lcO_fil {c : α → Option Bool} (p : α → Bool) {l : List α} (h : ∀ x ∈ l, c x = some (p x)) : lcO c (fun x => some x) l = some (l.filter p) := by
  rw [lcO_eq p (fun x => x) h fun _ _ _ => rfl, List.map_id']
theorem lc2O_eq {c : α → Option Bool} {f : α → Option (List γ)} (p : α → Bool) (g : α → List γ) : ∀ {l : List α}, (∀ x ∈ l, c x = some (p x)) → (∀ x ∈ l, p x = true → f x = some (g x)) → lc2O c f l = some ((l.filter p).flatMap g)
  | [], _, _ => rfl
  | a :: r, h1, h2 => by
    have ih := lc2O_eq p g (l := r) (fun x hx => h1 x (List.mem_cons_of_mem _ hx)) fun x hx => h2 x (List.mem_cons_of_mem _ hx)
    rw [lc2O, h1 a (List.mem_cons_self ..), Option.bind_some, ih]
    cases h : p a with
    | true => rw [if_pos rfl, h2 a (List.mem_cons_self ..) h, List.filter_cons_of_pos h]; rfl
    | false => rw [List.filter_cons_of_neg (by simp [h])]; rfl
theorem lc2O_map {f : α → Option (List γ)} (g : α → List γ) {l : List α} (h : ∀ x ∈ l, f x = some (g x)) : lc2O (fun _ => some true) f l = some (l.flatMap g) := by
  rw [lc2O_eq (fun _ => true) g (fun _ _ => rfl) fun x hx _ => h x hx, filter_tt]
theorem lcO_congr {c c' : α → Option Bool} {f f' : α → Option β} : ∀ {l : List α}, (∀ x ∈ l, c x = c' x) → (∀ x ∈ l, f x = f' x) → lcO c f l = lcO c' f' l
  | [], _, _ => rfl
  | a :: r, h1, h2 => by
    rw [lcO, lcO, h1 a (List.mem_cons_self ..), h2 a (List.mem_cons_self ..), lcO_congr (l := r) (fun x hx => h1 x (List.mem_cons_of_mem _ hx)) fun x hx => h2 x (List.mem_cons_of_mem _ hx)]
theorem yes_lcO {c : α → Option Bool} {f : α → Option β} {P : β → Prop} : ∀ {l : List α}, (∀ x ∈ l, Yes (c x) fun b => b = true → Yes (f x) P) → Yes (lcO c f l) fun w => (∀ y ∈ w, P y) ∧ w.length ≤ l.length
  | [], _ => ⟨[], rfl, by simp, Nat.le_refl _⟩
  | a :: r, h => by
    obtain ⟨w, h1, h2, h3⟩ := yes_lcO (l := r) fun x hx => h x (List.mem_cons_of_mem _ hx)
    obtain ⟨b, k1, k2⟩ := h a (List.mem_cons_self ..)
    cases b with
    | true =>
      obtain ⟨y, k3, k4⟩ := k2 rfl
      refine ⟨y :: w, by rw [lcO, k1, Option.bind_some, if_pos rfl, k3, Option.bind_some, h1, Option.map_some], fun z hz => ?_, by simpa using h3⟩
      rcases List.mem_cons.mp hz with e | e
      · rw [e]; exact k4
      · exact h2 z e
    | false => exact ⟨w, by rw [lcO, k1, Option.bind_some, if_neg (by decide), h1], h2, by simp; omega⟩
theorem yes_lcS {c : α → σ → Option (Bool × σ)} {f : α → σ → Option (β × σ)} {P : β → Prop} {I : σ → Prop} : ∀ {l : List α} {s : σ}, I s → (∀ x ∈ l, ∀ s, I s → Yes (c x s) fun b => I b.2 ∧ (b.1 = true → Yes (f x b.2) fun y => P y.1 ∧ I y.2)) → Yes (lcS c f l s) fun w => (∀ y ∈ w.1, P y) ∧ w.1.length ≤ l.length ∧ I w.2
  | [], s, hs, _ => ⟨([], s), rfl, by simp, Nat.le_refl _, hs⟩
  | a :: r, s, hs, h => by
    obtain ⟨⟨b, s1⟩, k1, k0, k2⟩ := h a (List.mem_cons_self ..) s hs
    cases b with
    | true =>
      obtain ⟨⟨y, s2⟩, k3, k4, k5⟩ := k2 rfl
      obtain ⟨⟨w, s3⟩, h1, h2, h3, h4⟩ := yes_lcS (l := r) k5 fun x hx => h x (List.mem_cons_of_mem _ hx)
      refine ⟨(y :: w, s3), by rw [lcS, k1, Option.bind_some]; simp only [if_true]; rw [k3, Option.bind_some, h1, Option.map_some], fun z hz => ?_, by simpa using h3, h4⟩
      rcases List.mem_cons.mp hz with e | e
      · rw [e]; exact k4
      · exact h2 z e
    | false =>
      obtain ⟨⟨w, s3⟩, h1, h2, h3, h4⟩ := yes_lcS (l := r) k0 fun x hx => h x (List.mem_cons_of_mem _ hx)
      exact ⟨(w, s3), by rw [lcS, k1, Option.bind_some]; simp only [Bool.false_eq_true, if_false]; exact h1, h2, by simp at h3 ⊢; omega, h4⟩
/-- all items, one by one, for a comprehension without a test -/
theorem yes_lcS_all {f : α → σ → Option (β × σ)} {P : β → Prop} {I : σ → Prop} : ∀ {l : List α} {s : σ}, I s → (∀ x ∈ l, ∀ s, I s → Yes (f x s) fun y => P y.1 ∧ I y.2) → Yes (lcS (fun _ s => some (true, s)) f l s) fun w => (∀ y ∈ w.1, P y) ∧ w.1.length = l.length ∧ I w.2
  | [], s, hs, _ => ⟨([], s), rfl, by simp, rfl, hs⟩
  | a :: r, s, hs, h => by
    obtain ⟨⟨y, s2⟩, k3, k4, k5⟩ := h a (List.mem_cons_self ..) s hs
    obtain ⟨⟨w, s3⟩, h1, h2, h3, h4⟩ := yes_lcS_all (l := r) k5 fun x hx => h x (List.mem_cons_of_mem _ hx)
    refine ⟨(y :: w, s3), by rw [lcS, Option.bind_some]; simp only [if_true]; rw [k3, Option.bind_some, h1, Option.map_some], fun z hz => ?_, by simpa using h3, h4⟩
    rcases List.mem_cons.mp hz with e | e
    · rw [e]; exact k4
    · exact h2 z e
/-- names that pass a drawn test -/
theorem yes_lcS_fil {c : α → σ → Option (Bool × σ)} {I : σ → Prop} : ∀ {l : List α} {s : σ}, I s → (∀ x ∈ l, ∀ s, I s → Yes (c x s) fun b => I b.2) → Yes (lcS c (fun x s => some (x, s)) l s) fun w => w.1.Sublist l ∧ I w.2
  | [], s, hs, _ => ⟨([], s), rfl, List.Sublist.refl _, hs⟩
  | a :: r, s, hs, h => by
    obtain ⟨⟨b, s1⟩, k1, k0⟩ := h a (List.mem_cons_self ..) s hs
    obtain ⟨⟨w, s3⟩, h1, h2, h4⟩ := yes_lcS_fil (l := r) k0 fun x hx => h x (List.mem_cons_of_mem _ hx)
    cases b with
    | true => exact ⟨(a :: w, s3), by rw [lcS, k1, Option.bind_some]; simp only [if_true]; rw [Option.bind_some, h1, Option.map_some], h2.cons_cons a, h4⟩
    | false => exact ⟨(w, s3), by rw [lcS, k1, Option.bind_some]; simp only [Bool.false_eq_true, if_false]; exact h1, h2.cons a, h4⟩
/-! loops -/
theorem yes_foldO {f : α → σ → Option σ} (I : Nat → σ → Prop) {l : List α} {s0 : σ} (h0 : I 0 s0) (h : ∀ i a s, l[i]? = some a → I i s → Yes (f a s) (I (i + 1))) : Yes (foldO f l s0) (I l.length) := by
  have key : ∀ (r : List α) (i : Nat) (s : σ), l.drop i = r → i ≤ l.length → I i s → Yes (foldO f r s) (I l.length) := by
    intro r
    induction r with
    | nil =>
      intro i s hr hi hs
      have := congrArg List.length hr
      rw [List.length_drop] at this
      simp at this
      have : i = l.length := by omega
      subst this
      exact ⟨s, rfl, hs⟩
    | cons a r ih =>
      intro i s hr hi hs
      have hl : i < l.length := by
        have := congrArg List.length hr
        rw [List.length_drop] at this
        simp at this
        omega
      have ha : l[i]? = some a := by
        have := congrArg List.head? hr
        rw [List.head?_drop] at this
        simpa using this
      have hr' : l.drop (i + 1) = r := by
        have := congrArg List.tail hr
        rw [List.tail_drop] at this
        exact this
      exact (h i a s ha hs).bind fun s' hs' => ih (i + 1) s' hr' hl hs'
  exact key l 0 s0 (by simp) (Nat.zero_le _) h0
/-- what a loop with an end tells -/
def stP (I : σ → Prop) (Q : ρ → Prop) : St σ ρ → Prop
  | .nx s => I s
  | .bk s => False
  | .rt v => Q v
def stB (I : σ → Prop) (E : σ → Prop) (Q : ρ → Prop) : St σ ρ → Prop
  | .nx s => I s
  | .bk s => E s
  | .rt v => Q v
theorem yes_forB {f : α → σ → Option (St σ ρ)} (I : Nat → σ → Prop) (E : σ → Prop) (Q : ρ → Prop) {l : List α} {s0 : σ} (h0 : I 0 s0) (h : ∀ i a s, l[i]? = some a → I i s → Yes (f a s) (stB (I (i + 1)) E Q)) (he : ∀ s, I l.length s → E s) : Yes (forT f l s0) (stP E Q) := by
  have key : ∀ (r : List α) (i : Nat) (s : σ), l.drop i = r → i ≤ l.length → I i s → Yes (forT f r s) (stP E Q) := by
    intro r
    induction r with
    | nil =>
      intro i s hr hi hs
      have := congrArg List.length hr
      rw [List.length_drop] at this
      simp at this
      have : i = l.length := by omega
      subst this
      exact ⟨.nx s, rfl, he s hs⟩
    | cons a r ih =>
      intro i s hr hi hs
      have hl : i < l.length := by
        have := congrArg List.length hr
        rw [List.length_drop] at this
        simp at this
        omega
      have ha : l[i]? = some a := by
        have := congrArg List.head? hr
        rw [List.head?_drop] at this
        simpa using this
      have hr' : l.drop (i + 1) = r := by
        have := congrArg List.tail hr
        rw [List.tail_drop] at this
        exact this
      refine (h i a s ha hs).bind fun u hu => ?_
      cases u with
      | nx s' => exact ih (i + 1) s' hr' hl hu
      | bk s' => exact ⟨.nx s', rfl, hu⟩
      | rt v => exact ⟨.rt v, rfl, hu⟩
  exact key l 0 s0 (by simp) (Nat.zero_le _) h0
theorem yes_forT {f : α → σ → Option (St σ ρ)} (I : Nat → σ → Prop) (Q : ρ → Prop) {l : List α} {s0 : σ} (h0 : I 0 s0) (h : ∀ i a s, l[i]? = some a → I i s → Yes (f a s) (stP (I (i + 1)) Q)) : Yes (forT f l s0) (stP (I l.length) Q) :=
  yes_forB I (I l.length) Q h0 (fun i a s ha hs => (h i a s ha hs).imp fun u hu => by cases u with
    | nx s' => exact hu
    | bk s' => exact hu.elim
    | rt v => exact hu) fun _ z => z
theorem yes_go {r : St σ ρ} {f : σ → Option β} {g : ρ → Option β} {I : σ → Prop} {Q : ρ → Prop} {R : β → Prop} (h : stP I Q r) (h1 : ∀ s, I s → Yes (f s) R) (h2 : ∀ v, Q v → Yes (g v) R) : Yes (r.go f g) R := by
  cases r with
  | nx s => exact h1 s h
  | bk s => exact h.elim
  | rt v => exact h2 v h
theorem forT_congr {α' : Type} {f : α → σ → Option (St σ ρ)} {g : α' → σ → Option (St σ ρ)} (I : Nat → σ → Prop) {l : List α} {m : List α'} {s0 : σ} (hl : l.length = m.length) (h0 : I 0 s0) (h : ∀ i a b s, l[i]? = some a → m[i]? = some b → I i s → f a s = g b s ∧ ∀ s', f a s = some (.nx s') → I (i + 1) s') : forT f l s0 = forT g m s0 := by
  have key : ∀ (n i : Nat) (s : σ), n = l.length - i → i ≤ l.length → I i s → forT f (l.drop i) s = forT g (m.drop i) s := by
    intro n
    induction n with
    | zero =>
      intro i s hn hi hs
      rw [List.drop_eq_nil_of_le (by omega), List.drop_eq_nil_of_le (by omega)]; rfl
    | succ n ih =>
      intro i s hn hi hs
      have h1 : i < l.length := by omega
      have h2 : i < m.length := by omega
      obtain ⟨k1, k2⟩ := h i l[i] m[i] s (List.getElem?_eq_getElem h1) (List.getElem?_eq_getElem h2) hs
      rw [List.drop_eq_getElem_cons h1, List.drop_eq_getElem_cons h2, forT, forT, k1]
      cases q : g m[i] s with
      | none => rfl
      | some u =>
        cases u with
        | nx s' => exact ih (i + 1) s' (by omega) h1 (k2 s' (by rw [k1, q]))
        | bk s' => rfl
        | rt v => rfl
  simpa using key l.length 0 s0 rfl (Nat.zero_le _) h0
theorem forT_fun {f g : α → σ → Option (St σ ρ)} (h : ∀ a s, f a s = g a s) (l : List α) (s : σ) : forT f l s = forT g l s := by rw [show f = g from funext fun a => funext fun s => h a s]
/-- a loop that tells the first bad one -/
theorem forT_find {f : α → σ → Option (St σ ρ)} {p : α → Bool} {r : α → ρ} {s : σ} : ∀ {l : List α}, (∀ a ∈ l, f a s = some (if p a then .rt (r a) else .nx s)) → forT f l s = some (match l.find? p with
    | some a => .rt (r a)
    | none => .nx s)
  | [], _ => rfl
  | a :: t, h => by
    rw [forT, h a (List.mem_cons_self ..), Option.bind_some, List.find?_cons]
    cases p a with
    | true => rfl
    | false => exact forT_find fun b hb => h b (List.mem_cons_of_mem _ hb)
theorem forT_none {f : α → σ → Option (St σ ρ)} {s : σ} : ∀ {l : List α}, (∀ a ∈ l, f a s = some (.nx s)) → forT f l s = some (.nx s)
  | [], _ => rfl
  | a :: t, h => by
    rw [forT, h a (List.mem_cons_self ..), Option.bind_some]
    exact forT_none fun b hb => h b (List.mem_cons_of_mem _ hb)
theorem whF_mono {c : σ → Option Bool} {b : σ → Option (St σ ρ)} : ∀ {n : Nat} {s : σ} {r : St σ ρ}, whF c b n s = some r → whF c b (n + 1) s = some r
  | 0, s, r, h => by cases h
  | n + 1, s, r, h => by
    rw [whF] at h ⊢
    obtain ⟨k, h1, h⟩ := bnd h
    rw [h1, Option.bind_some]
    cases k with
    | false => exact h
    | true =>
      rw [if_pos rfl] at h ⊢
      obtain ⟨u, h2, h⟩ := bnd h
      rw [h2, Option.bind_some]
      cases u with
      | nx s' => exact whF_mono h
      | bk s' => exact h
      | rt v => exact h
theorem whF_le {c : σ → Option Bool} {b : σ → Option (St σ ρ)} {n m : Nat} {s : σ} {r : St σ ρ} (h : whF c b n s = some r) (hm : n ≤ m) : whF c b m s = some r := by
  induction hm with
  | refl => exact h
  | step _ ih => exact whF_mono ih
theorem whT_eq {c : σ → Option Bool} {b : σ → Option (St σ ρ)} {n : Nat} {s : σ} {r : St σ ρ} (h : whF c b n s = some r) : whT c b s = some r := by
  have hx : ∃ n, (whF c b n s).isSome = true := ⟨n, by rw [h]; rfl⟩
  unfold whT
  rw [dif_pos hx]
  have hc := Classical.choose_spec hx
  obtain ⟨r', e⟩ := Option.isSome_iff_exists.mp hc
  rw [e]
  have a := whF_le h (Nat.le_max_left n (Classical.choose hx))
  have b := whF_le e (Nat.le_max_right n (Classical.choose hx))
  rw [a] at b
  exact b.symm
/-- a while loop with a measure -/
theorem yes_whT {c : σ → Option Bool} {b : σ → Option (St σ ρ)} (I : Nat → σ → Prop) (E : σ → Prop) (Q : ρ → Prop)
    (h : ∀ m s, I m s → Yes (c s) fun k => (k = true → Yes (b s) (stB (fun s' => ∃ m', m' < m ∧ I m' s') E Q)) ∧ (k = false → E s)) {m : Nat} {s0 : σ} (h0 : I m s0) : Yes (whT c b s0) (stP E Q) := by
  have key : ∀ m s, I m s → ∃ n, Yes (whF c b n s) (stP E Q) := by
    intro m
    induction m using Nat.strongRecOn with
    | _ m ih =>
      intro s hs
      obtain ⟨k, h1, h2, h3⟩ := h m s hs
      cases k with
      | false => exact ⟨1, .nx s, by rw [whF, h1]; rfl, h3 rfl⟩
      | true =>
        obtain ⟨u, h4, h5⟩ := h2 rfl
        cases u with
        | nx s' =>
          obtain ⟨m', hm, hs'⟩ := h5
          obtain ⟨n, r, q1, q2⟩ := ih m' hm s' hs'
          exact ⟨n + 1, r, by rw [whF, h1, Option.bind_some, if_pos rfl, h4, Option.bind_some]; exact q1, q2⟩
        | bk s' => exact ⟨1, .nx s', by rw [whF, h1, Option.bind_some, if_pos rfl, h4]; rfl, h5⟩
        | rt v => exact ⟨1, .rt v, by rw [whF, h1, Option.bind_some, if_pos rfl, h4]; rfl, h5⟩
  obtain ⟨n, r, q1, q2⟩ := key m s0 h0
  exact ⟨r, whT_eq q1, q2⟩
/-! enumerate -/
theorem enumT_at {l : List α} : ∀ {k i : Nat}, (enumT k l)[i]? = (l[i]?).map fun x => (((k + i : Nat) : Int), x) := by
  induction l with
  | nil => intro k i; simp [enumT]
  | cons a r ih =>
    intro k i
    cases i with
    | zero => simp [enumT]
    | succ i =>
      simp only [enumT, List.getElem?_cons_succ, ih]
      congr 1
      funext x
      congr 2
      omega
theorem enumT_len {l : List α} : ∀ {k : Nat}, (enumT k l).length = l.length := by
  induction l with
  | nil => intro k; rfl
  | cons a r ih => intro k; simp [enumT, ih]
theorem mem_enumT {l : List α} {p : Int × α} (h : p ∈ enumT 0 l) : ∃ i : Nat, l[i]? = some p.2 ∧ p.1 = (i : Int) := by
  obtain ⟨i, hi⟩ := List.getElem?_of_mem h
  rw [enumT_at] at hi
  obtain ⟨x, h1, h2⟩ := Option.map_eq_some_iff.mp hi
  exact ⟨i, by rw [h1, ← h2], by rw [← h2]; simp⟩
/-! numbers in order -/
theorem ltT_int (a b : Int) : ltT a b = decide (a < b) := W.dataLt_int a b
theorem leT_int : (leT : Int → Int → Bool) = leI := by
  funext a b
  unfold leT leI
  rw [ltT_int]
  by_cases h : a ≤ b
  · rw [decide_eq_true h, decide_eq_false (by omega)]; rfl
  · rw [decide_eq_false h, decide_eq_true (by omega)]; rfl
theorem sortT_int (l : List Int) : sortT l = l.mergeSort leI := by unfold sortT; rw [leT_int]
theorem sortT_perm (l : List Int) : (sortT l).Perm l := by rw [sortT_int]; exact List.mergeSort_perm l leI
theorem sortT_pw (l : List Int) : (sortT l).Pairwise (· ≤ ·) := by rw [sortT_int]; exact sort_pw l
theorem mem_sortT {l : List Int} {x : Int} : x ∈ sortT l ↔ x ∈ l := (sortT_perm l).mem_iff
theorem sortT_len (l : List Int) : (sortT l).length = l.length := (sortT_perm l).length_eq
theorem sortT_rise {l : List Int} (h : l.Nodup) : (sortT l).Pairwise (· < ·) := by
  have nd : (sortT l).Nodup := (sortT_perm l).nodup_iff.mpr h
  exact (List.Pairwise.and (sortT_pw l) nd).imp fun z => by have := z.1; have := z.2; omega
theorem sortT_id {l : List Int} (h : l.Pairwise (· < ·)) : sortT l = l := rise_unique (sortT_rise (h.imp fun z => by omega)) h fun k => mem_sortT
theorem rise_len {l : List Int} {n : Nat} (h : l.Pairwise (· < ·)) (hb : ∀ x ∈ l, 0 ≤ x ∧ x < (n : Int)) : l.length ≤ n := by
  have nd : (l.map Int.toNat).Nodup := by
    rw [List.nodup_iff_pairwise_ne, List.pairwise_map]
    exact List.Pairwise.imp_of_mem (fun {a b} ha hb' z => by have := hb a ha; have := hb b hb'; omega) h
  have := nodup_len nd (m := List.range n) fun a ha => by
    obtain ⟨x, hx, rfl⟩ := List.mem_map.mp ha
    have := hb x hx
    exact List.mem_range.mpr (by omega)
  simpa using this
theorem setO'_eq {l : List Int} (h : l.length < 1000) (h2 : (setI l).length < 64) : setO' l = some (setI l) := if_pos ⟨h, h2⟩
theorem setI_len64 {l : List Int} {n : Nat} (hb : ∀ x ∈ l, 0 ≤ x ∧ x < (n : Int)) (hn : n < 64) : (setI l).length < 64 :=
  Nat.lt_of_le_of_lt (rise_len (setI_pw l) fun x hx => hb x (mem_setI.mp hx)) hn
theorem minO_int {l : List Int} (h : l ≠ []) : ∃ m, minO l = some m ∧ m ∈ l ∧ ∀ x ∈ l, m ≤ x := by
  cases l with
  | nil => exact absurd rfl h
  | cons a r =>
    have key : ∀ (r : List Int) (a : Int), (r.foldl (fun a y => if ltT y a then y else a) a) ∈ a :: r ∧ ∀ x ∈ a :: r, (r.foldl (fun a y => if ltT y a then y else a) a) ≤ x := by
      intro r
      induction r with
      | nil => intro a; simp
      | cons y r ih =>
        intro a
        rw [List.foldl_cons, ltT_int]
        obtain ⟨h1, h2⟩ := ih (if decide (y < a) = true then y else a)
        by_cases hy : y < a
        · rw [decide_eq_true hy, if_pos rfl] at h1 h2 ⊢
          refine ⟨List.mem_cons_of_mem _ h1, fun x hx => ?_⟩
          rcases List.mem_cons.mp hx with e | e
          · have := h2 y (List.mem_cons_self ..); omega
          · exact h2 x e
        · rw [decide_eq_false hy, if_neg (by decide)] at h1 h2 ⊢
          refine ⟨?_, fun x hx => ?_⟩
          · rcases List.mem_cons.mp h1 with e | e
            · rw [e]; simp
            · exact List.mem_cons_of_mem _ (List.mem_cons_of_mem _ e)
          · rcases List.mem_cons.mp hx with e | e
            · rw [e]; exact h2 a (List.mem_cons_self ..)
            · rcases List.mem_cons.mp e with e | e
              · have := h2 a (List.mem_cons_self ..); omega
              · exact h2 x (List.mem_cons_of_mem _ e)
    exact ⟨_, rfl, key r a⟩
theorem maxO_int {l : List Int} (h : l ≠ []) : ∃ m, maxO l = some m ∧ m ∈ l ∧ ∀ x ∈ l, x ≤ m := by
  cases l with
  | nil => exact absurd rfl h
  | cons a r =>
    have key : ∀ (r : List Int) (a : Int), (r.foldl (fun a y => if ltT a y then y else a) a) ∈ a :: r ∧ ∀ x ∈ a :: r, x ≤ (r.foldl (fun a y => if ltT a y then y else a) a) := by
      intro r
      induction r with
      | nil => intro a; simp
      | cons y r ih =>
        intro a
        rw [List.foldl_cons, ltT_int]
        obtain ⟨h1, h2⟩ := ih (if decide (a < y) = true then y else a)
        by_cases hy : a < y
        · rw [decide_eq_true hy, if_pos rfl] at h1 h2 ⊢
          refine ⟨List.mem_cons_of_mem _ h1, fun x hx => ?_⟩
          rcases List.mem_cons.mp hx with e | e
          · have := h2 y (List.mem_cons_self ..); omega
          · exact h2 x e
        · rw [decide_eq_false hy, if_neg (by decide)] at h1 h2 ⊢
          refine ⟨?_, fun x hx => ?_⟩
          · rcases List.mem_cons.mp h1 with e | e
            · rw [e]; simp
            · exact List.mem_cons_of_mem _ (List.mem_cons_of_mem _ e)
          · rcases List.mem_cons.mp hx with e | e
            · rw [e]; exact h2 a (List.mem_cons_self ..)
            · rcases List.mem_cons.mp e with e | e
              · have := h2 a (List.mem_cons_self ..); omega
              · exact h2 x (List.mem_cons_of_mem _ e)
    exact ⟨_, rfl, key r a⟩
theorem bind_congrO {t t' : Option α} {f f' : α → Option β} (h : t = t') (k : ∀ x, t = some x → f x = f' x) : t.bind f = t'.bind f' := by
  subst h
  cases t with
  | none => rfl
  | some x => exact k x rfl
theorem go_congr {r : St σ ρ} {f f' : σ → Option β} {g g' : ρ → Option β} (h1 : ∀ s, f s = f' s) (h2 : ∀ v, g v = g' v) : r.go f g = r.go f' g' := by
  cases r with
  | nx s => exact h1 s
  | bk s => exact h1 s
  | rt v => exact h2 v
theorem ite_congrO {b b' : Bool} {x x' y y' : Option α} (h : b = b') (h1 : b = true → x = x') (h2 : b = false → y = y') : (if b = true then x else y) = if b' = true then x' else y' := by
  subst h
  cases b with
  | true => exact h1 rfl
  | false => exact h2 rfl
/-- a loop over what is counted is one over the numbers of the places -/
theorem forT_enum {γ : Type} {f : Int × γ → σ → Option (St σ ρ)} {h : Int → σ → Option (St σ ρ)} {l : List γ} {s0 : σ} (k : ∀ (i : Nat) x s, l[i]? = some x → f ((i : Int), x) s = h (i : Int) s) : forT f (enumT 0 l) s0 = forT h (rngT 0 (l.length : Int)) s0 := by
  refine forT_congr (fun _ _ => True) (by rw [enumT_len, rngT_len]; omega) trivial fun i a b s ha hb _ => ⟨?_, fun _ _ => trivial⟩
  rw [enumT_at] at ha
  obtain ⟨x, hx, rfl⟩ := Option.map_eq_some_iff.mp ha
  have := rngT_at hb
  have e : b = (i : Int) := by omega
  rw [e, ← k i x s hx]
  simp
/-! small data can be shown -/
theorem sm_eI {x : Int} (h : x.natAbs < 1000000) : Sm 0 21 (En.e x) := sm_int h
theorem sm_eL [En α] {n c m : Nat} {l : List α} (hl : l.length ≤ m) (h : ∀ x ∈ l, Sm n c (En.e x)) : Sm (n + 1) (m * (c + 1)) (En.e l) := sm_list (xs := l.map En.e) (by rw [List.length_map]; exact hl) fun d hd => by
  obtain ⟨x, hx, rfl⟩ := List.mem_map.mp hd
  exact h x hx
theorem sm_e2 [En α] [En β] {n c : Nat} {a : α} {b : β} (h : Sm n c (En.e a)) (k : Sm n c (En.e b)) : Sm (n + 1) (2 * (c + 1)) (En.e (a, b)) := sm_tup (xs := [En.e a, En.e b]) (by simp) fun d hd => by
  rcases List.mem_cons.mp hd with e | e
  · rw [e]; exact h
  · rw [List.mem_singleton.mp e]; exact k
theorem sm_e3 [En α] [En β] [En γ] {n c : Nat} {a : α} {b : β} {d : γ} (h : Sm n c (En.e a)) (k : Sm n c (En.e b)) (k' : Sm n c (En.e d)) : Sm (n + 1) (3 * (c + 1)) (En.e (T3.mk a b d)) := sm_tup (xs := [En.e a, En.e b, En.e d]) (by simp) fun x hd => by
  rcases List.mem_cons.mp hd with e | e
  · rw [e]; exact h
  · rcases List.mem_cons.mp e with e | e
    · rw [e]; exact k
    · rw [List.mem_singleton.mp e]; exact k'
theorem repr_eq [En α] {x : α} {n c : Nat} (h : Sm n c (En.e x)) (hn : n ≤ 60) (hc : c ≤ 1048576) : reprO x = some (En.e x).shown := if_pos (h.sh hn hc)
theorem cut_sub {α : Type} (l : List α) (a b : Option Int) : (cut l a b).Sublist l := (List.take_sublist _ _).trans (List.drop_sublist _ _)
theorem max2_1 (n : Nat) : max2 1 (n : Int) = ((max 1 n : Nat) : Int) := by
  unfold max2
  split <;> omega
/-! pairs -/
theorem ltT_2 (a b : Int × Int) : ltT a b = decide (a.1 < b.1 ∨ (a.1 = b.1 ∧ a.2 < b.2)) := W.dataLt_ii ..
theorem minO_2 {l : List (Int × Int)} (h : l ≠ []) : ∃ m, minO l = some m ∧ m ∈ l ∧ ∀ x ∈ l, m.1 < x.1 ∨ (m.1 = x.1 ∧ m.2 ≤ x.2) := by
  cases l with
  | nil => exact absurd rfl h
  | cons a r =>
    have key : ∀ (r : List (Int × Int)) (a : Int × Int), (r.foldl (fun a y => if ltT y a then y else a) a) ∈ a :: r ∧ ∀ x ∈ a :: r, (r.foldl (fun a y => if ltT y a then y else a) a).1 < x.1 ∨ ((r.foldl (fun a y => if ltT y a then y else a) a).1 = x.1 ∧ (r.foldl (fun a y => if ltT y a then y else a) a).2 ≤ x.2) := by
      intro r
      induction r with
      | nil => intro a; simp
      | cons y r ih =>
        intro a
        rw [List.foldl_cons, ltT_2]
        by_cases hy : y.1 < a.1 ∨ (y.1 = a.1 ∧ y.2 < a.2)
        · rw [decide_eq_true hy, if_pos rfl]
          obtain ⟨h1, h2⟩ := ih y
          refine ⟨List.mem_cons_of_mem _ h1, fun x hx => ?_⟩
          rcases List.mem_cons.mp hx with e | e
          · have := h2 y (List.mem_cons_self ..); rw [e]; omega
          · exact h2 x e
        · rw [decide_eq_false hy, if_neg (by decide)]
          obtain ⟨h1, h2⟩ := ih a
          refine ⟨?_, fun x hx => ?_⟩
          · rcases List.mem_cons.mp h1 with e | e
            · rw [e]; simp
            · exact List.mem_cons_of_mem _ (List.mem_cons_of_mem _ e)
          · rcases List.mem_cons.mp hx with e | e
            · rw [e]; exact h2 a (List.mem_cons_self ..)
            · rcases List.mem_cons.mp e with e | e
              · have := h2 a (List.mem_cons_self ..); rw [e]; omega
              · exact h2 x (List.mem_cons_of_mem _ e)
    exact ⟨_, rfl, key r a⟩
theorem sumI_perm {l m : List Int} (h : l.Perm m) : l.sum = m.sum := by
  induction h with
  | nil => rfl
  | cons x _ ih => rw [List.sum_cons, List.sum_cons, ih]
  | swap x y l => simp only [List.sum_cons]; omega
  | trans _ _ h1 h2 => exact h1.trans h2
theorem flatMap_len {f : α → List β} {k : Nat} : ∀ {l : List α}, (∀ x ∈ l, (f x).length ≤ k) → (l.flatMap f).length ≤ l.length * k
  | [], _ => by simp
  | a :: r, h => by
    have := flatMap_len (l := r) fun x hx => h x (List.mem_cons_of_mem _ hx)
    have := h a (List.mem_cons_self ..)
    rw [List.flatMap_cons, List.length_append, List.length_cons, Nat.add_mul]
    omega
/-! draws -/
def DOk (s : DS) : Prop := s.cs ≠ []
theorem yes_take {s : DS} {m : Int} (hs : DOk s) (h0 : 0 < m) (h1 : m < 1073741824) : Yes (takeO s m) fun u => 0 ≤ u.1 ∧ u.1 < m ∧ DOk u.2 := by
  have hl : 0 < (s.cs.length : Int) := by
    have := List.length_pos_iff.mpr hs
    omega
  have q1 := Int.emod_nonneg s.i (Int.ne_of_gt hl)
  have q2 := Int.emod_lt_of_pos s.i hl
  have hj : (s.i % (s.cs.length : Int)).toNat < s.cs.length := by omega
  unfold takeO
  rw [if_pos ⟨h0, h1⟩, List.getElem?_eq_getElem hj, Option.map_some]
  refine yes_some ?_
  split
  · exact ⟨Int.emod_nonneg _ (Int.ne_of_gt h0), Int.emod_lt_of_pos _ h0, fun z => hs (by
      have := congrArg List.length z
      simp only [List.length_set, List.length_nil] at this
      exact List.length_eq_zero_iff.mp this)⟩
  · exact ⟨Int.emod_nonneg _ (Int.ne_of_gt h0), Int.emod_lt_of_pos _ h0, hs⟩
theorem yes_state {ns : List Int} (h : ns.length ≤ 63) : Yes (stateO ns) DOk := by
  unfold stateO
  rw [if_pos h]
  refine yes_some ?_
  unfold DOk cellsT
  split
  · simp
  · rename_i h
    intro z
    have := congrArg List.length z
    rw [List.length_map] at this
    exact h this
/-! booleans of lists -/
theorem not_all_pos (l : List α) (p : α → Bool) : decide (0 < ((l.filter fun x => !p x).length : Int)) = !((l.map p).all id) := by
  rw [List.all_map]
  cases h : l.all (id ∘ p) with
  | true =>
    have : (l.filter fun x => !p x) = [] := List.filter_eq_nil_iff.mpr fun x hx => by
      have := List.all_eq_true.mp h x hx
      simpa using this
    rw [this]; rfl
  | false =>
    obtain ⟨x, hx, hf⟩ := List.all_eq_false.mp h
    have hm : x ∈ l.filter fun x => !p x := List.mem_filter.mpr ⟨hx, by simpa using hf⟩
    have := List.length_pos_of_mem hm
    rw [decide_eq_true (by omega)]; rfl
theorem any_pos (l : List α) (p : α → Bool) : decide (0 < ((l.filter p).length : Int)) = (l.map p).any id := by
  rw [List.any_map]
  cases h : l.any (id ∘ p) with
  | true =>
    obtain ⟨x, hx, hp⟩ := List.any_eq_true.mp h
    have hm : x ∈ l.filter p := List.mem_filter.mpr ⟨hx, hp⟩
    have := List.length_pos_of_mem hm
    exact decide_eq_true (by omega)
  | false =>
    rw [List.any_eq_false] at h
    have : l.filter p = [] := List.filter_eq_nil_iff.mpr fun x hx => h x hx
    rw [this]; rfl
theorem len0_emp (l : List α) : decide ((l.length : Int) = 0) = l.isEmpty := by cases l <;> simp <;> omega
theorem lenP_emp (l : List α) : decide (0 < (l.length : Int)) = !l.isEmpty := by cases l <;> simp <;> omega
end
section
variable {α β : Type}
/-- a list of its own, or None -/
def ownO [En α] : Option (List α) → Val
  | some l => .own (l.map En.e)
  | none => .d .none
def mO (t : Option α) (A : Option β) (B : α → Option β) : Option β := match t with
  | none => A
  | some l => B l
theorem mO_n {A : Option β} {B : α → Option β} {x : Option β} (h : mO none A B = x) : A = x := h
theorem mO_s {A : Option β} {B : α → Option β} {l : α} {x : Option β} (h : mO (some l) A B = x) : B l = x := h
theorem fl_m [En α] [Fl α] {v : Option (List α)} {io : List Nat} {ws : List Val} (h : (!io.contains 1000 && flatAll io 0 ws) = true) : keepB io (ownO v) ws = true := by
  cases v with
  | none => rw [Bool.and_eq_true] at h; unfold keepB; rw [h.1, h.2]; rfl
  | some l => exact fl_o h
end
end Ev

namespace Ev
open PySem L2
section
variable {α β γ : Type} [En α] [En β] [En γ] {Γ : Ctx} {L : List Nat} {env e0 e1 e2 e3 e4 : Env} {a b c me lo hi : ME} {i j : Nat} {P : Res → Prop}
/-! texts -/
theorem strs_e : ∀ ys : List Str, strsOf (ys.map En.e) = some ys
  | [] => rfl
  | y :: r => by
    show (strsOf (r.map En.e)).map (y :: ·) = _
    rw [strs_e r]; rfl
theorem jw_mth {m : Mt} {x : α} {y : β} {w : Val} (ha : JX Γ env a e1 e1 x) (ha2 : JX Γ env a e1 e2 x) (hk : mtK m (En.e x) = true) (hb : JX Γ e1 b e2 e2 y) (h : mtD m (En.e x) [En.e y] = some w) : ev Γ (.mth m a [b]) env = some (.v w, e2) := by
  obtain ⟨r, h1, h2⟩ := ha
  obtain ⟨r', h1', h2'⟩ := ha2
  rw [h1] at h1'
  cases h1'
  obtain ⟨s, h3, h4⟩ := hb
  rw [ev, h1, Option.bind_some]
  have hk : ((cur e1 r).map (mtK m)).getD false = true := by rw [h2]; exact hk
  simp only [hk, if_true, evL1 h3, Option.bind_some, h2', curs, h4, Option.map_some, h]
def joinO (x : Str) (ys : List Str) : Option Str := if joinLen x ys ≤ 1000000 then some (Txt.join x ys) else none
theorem jd_join {x w : Str} {ys : List Str} (ha : JX Γ env a e1 e1 x) (ha2 : JX Γ env a e1 e2 x) (hb : JX Γ e1 b e2 e2 ys) (h : joinO x ys = some w) : JD Γ env (.mth .join a [b]) e2 w := jw_mth ha ha2 rfl hb (by
  show ((itemsOf (.list (ys.map En.e))).bind fun ds => (strsOf ds).bind fun ys => if joinLen x ys ≤ 1000000 then some (Val.d (.str (Txt.join x ys))) else none) = _
  unfold joinO at h
  obtain ⟨h1, h2⟩ := (Option.ite_none_right_eq_some ..).mp h
  cases h2
  simp only [itemsOf, Option.bind_some, strs_e, h1, if_true]
  rfl)
theorem jd_joinT {x w : Str} {ys : List Str} (ha : JX Γ env a e1 e1 x) (ha2 : JX Γ env a e1 e2 x) (hb : JX Γ e1 b e2 e2 (Tp.mk ys)) (h : joinO x ys = some w) : JD Γ env (.mth .join a [b]) e2 w := jw_mth ha ha2 rfl hb (by
  show ((itemsOf (.tuple (ys.map En.e))).bind fun ds => (strsOf ds).bind fun ys => if joinLen x ys ≤ 1000000 then some (Val.d (.str (Txt.join x ys))) else none) = _
  unfold joinO at h
  obtain ⟨h1, h2⟩ := (Option.ite_none_right_eq_some ..).mp h
  cases h2
  simp only [itemsOf, Option.bind_some, strs_e, h1, if_true]
  rfl)
theorem jd_starts {x y : Str} (ha : JX Γ env a e1 e1 x) (ha2 : JX Γ env a e1 e2 x) (hb : JX Γ e1 b e2 e2 y) : JD Γ env (.mth .starts a [b]) e2 (Txt.startswith x y) := jw_mth ha ha2 rfl hb rfl
theorem jd_ends {x y : Str} (ha : JX Γ env a e1 e1 x) (ha2 : JX Γ env a e1 e2 x) (hb : JX Γ e1 b e2 e2 y) : JD Γ env (.mth .ends a [b]) e2 (Txt.endswith x y) := jw_mth ha ha2 rfl hb rfl
theorem jd_find {x y : Str} (ha : JX Γ env a e1 e1 x) (ha2 : JX Γ env a e1 e2 x) (hb : JX Γ e1 b e2 e2 y) : JD Γ env (.mth .find a [b]) e2 (Txt.find x y : Int) := jw_mth ha ha2 rfl hb rfl
def szS (x : Str) : Option Str := if x.length ≤ sizeLine then some x else none
theorem jd_stripC {x y z : Str} (ha : JX Γ env a e1 e1 x) (ha2 : JX Γ env a e1 e2 x) (hb : JX Γ e1 b e2 e2 y) (h : szS x = some z) : JD Γ env (.mth .stripC a [b]) e2 (Txt.stripChars z y) := jw_mth ha ha2 rfl hb (by
  obtain ⟨h1, h2⟩ := (Option.ite_none_right_eq_some ..).mp h
  cases h2
  exact if_pos h1)
theorem jd_lstripC {x y z : Str} (ha : JX Γ env a e1 e1 x) (ha2 : JX Γ env a e1 e2 x) (hb : JX Γ e1 b e2 e2 y) (h : szS x = some z) : JD Γ env (.mth .lstripC a [b]) e2 (Txt.lstripChars z y) := jw_mth ha ha2 rfl hb (by
  obtain ⟨h1, h2⟩ := (Option.ite_none_right_eq_some ..).mp h
  cases h2
  exact if_pos h1)
def lowerO (x : Str) : Option Str := if x.length ≤ 5592405 then some (Txt.lower x) else none
theorem jd_lower {x w : Str} (ha : JX Γ env a e1 e1 x) (h : lowerO x = some w) : JD Γ env (.mth0 .lower a) e1 w := by
  obtain ⟨r, h1, h2⟩ := ha
  obtain ⟨h3, h4⟩ := (Option.ite_none_right_eq_some ..).mp h
  cases h4
  show ev _ _ _ = _
  rw [ev, h1, Option.bind_some]
  simp only [h2, Option.bind_some]
  show (if mtK0 .lower (.str x) = true then (if x.length ≤ 5592405 then some (Val.d (.str (Txt.lower x))) else none).map fun r => (Rv.v r, e1) else none) = _
  rw [if_pos (show mtK0 .lower (.str x) = true from rfl), if_pos h3]; rfl
def slsO (x : Str) (l h : Option Int) : Option Str := if x.length ≤ sizeLine then some (cutS x l h) else none
theorem jd_slS {x w : Str} {l' h' : Option Int} (ha : JX Γ env a e1 e3 x) (hl : JP Γ e1 lo e2 l') (hh : JP Γ e2 hi e3 h') (h : slsO x l' h' = some w) : JD Γ env (.sli a lo hi) e3 w := jw_sli ha hl hh (by
  obtain ⟨h3, h4⟩ := (Option.ite_none_right_eq_some ..).mp h
  cases h4
  exact if_pos h3)
def lenS (x : Str) : Option Int := if x.length ≤ sizeLine then some (x.length : Int) else none
theorem jd_lenS {x : Str} {w : Int} (ha : JX Γ env a e1 e1 x) (h : lenS x = some w) : JD Γ env (.bi .len [a]) e1 w := jw_bi1 ha (by
  obtain ⟨h3, h4⟩ := (Option.ite_none_right_eq_some ..).mp h
  cases h4
  exact if_pos h3)
def itemsS (x : Str) : Option (List Str) := if x.length ≤ sizeLine then some (x.cps.toList.map fun c => ⟨#[c]⟩) else none
theorem ji_s {x : Str} {l : List Str} (ha : JD Γ env me e1 x) (h : itemsS x = some l) : evI Γ (.seq me) env = some (⟨l.map En.e, [], none⟩, e1) := by
  obtain ⟨h3, h4⟩ := (Option.ite_none_right_eq_some ..).mp h
  cases h4
  rw [evI, ha]
  show (srcOf e1 (.v (.d (.str x)))).map (fun s => (s, e1)) = _
  have : srcOf e1 (.v (.d (.str x))) = (itemsD (.str x)).map fun xs => ⟨xs, [], none⟩ := rfl
  rw [this]
  have : itemsD (.str x) = if x.length ≤ sizeLine then some (x.cps.toList.map fun c => PyData.str ⟨#[c]⟩) else none := rfl
  rw [this, if_pos h3, List.map_map]
  rfl
def idxS (x : Str) (k : Int) : Option Str := if x.length ≤ sizeLine then (atI x.cps.toList k).map fun c => ⟨#[c]⟩ else none
theorem jd_atS {x w : Str} {k : Int} (ha : JX Γ env a e1 e2 x) (hb : JX Γ e1 b e2 e2 k) (h : idxS x k = some w) : JD Γ env (.idx a b) e2 w := jd_idx ha hb (by
  obtain ⟨h3, h4⟩ := (Option.ite_none_right_eq_some ..).mp h
  obtain ⟨c, h5, h6⟩ := Option.map_eq_some_iff.mp h4
  show (if x.length ≤ sizeLine then (atI x.cps.toList k).map fun c => PyData.str ⟨#[c]⟩ else none) = _
  rw [if_pos h3, h5, ← h6]; rfl)
def gidxO (ys : List Str) (z : Str) : Option Int := (ys.findIdx? fun u => decide (u = z)).map fun (k : Nat) => (k : Int)
theorem jd_gidx {ys : List Str} {z : Str} {w : Int} (hg : Γ.G[j]? = some (En.e (Tp.mk ys))) (hb : JX Γ env b e1 e1 z) (h : gidxO ys z = some w) : JD Γ env (.gidx j b) e1 w := by
  obtain ⟨r, h1, h2⟩ := hb
  obtain ⟨k, h3, h4⟩ := Option.map_eq_some_iff.mp h
  cases h4
  show ev _ _ _ = _
  rw [ev, h1, Option.bind_some]
  simp only [h2, Option.bind_some, hg]
  show (strsOf (ys.map En.e)).bind _ = _
  rw [strs_e, Option.bind_some, h3]; rfl
theorem jd_slen {ns : List Int} (h : rd env i = some (.scr ns)) : JD Γ env (.slen i) env ((ns.length : Nat) : Int) := by
  show ev _ _ _ = _
  rw [ev, h]; rfl
theorem jd_sidx {ns : List Int} {k w : Int} (h : rd env i = some (.scr ns)) (hb : JX Γ env b e1 e1 k) (h2 : atI ns k = some w) : JD Γ env (.sidx i b) e1 w := by
  obtain ⟨r, h3, h4⟩ := hb
  show ev _ _ _ = _
  rw [ev, h]
  simp only [h3, Option.bind_some, h4]
  show (atI ns k).map _ = _
  rw [h2]; rfl
/-! pop -/
def popO (l : List α) : Option (α × List α) := (l[l.length - 1]?).map fun x => (x, l.dropLast)
theorem jd_pop {l : List α} {p : α × List α} (h : rd env i = some (.own (l.map En.e))) (hp : popO l = some p) (he : env.set i (some (.own (p.2.map En.e))) = e1) : JD Γ env (.pop i) e1 p.1 := by
  obtain ⟨x, h1, h2⟩ := Option.map_eq_some_iff.mp hp
  cases h2
  show ev _ _ _ = _
  rw [ev, h]
  simp only [List.length_map, List.getElem?_map, h1, Option.map_some, ← List.map_dropLast]
  rw [← he]
end
/-! ### draws from a script, by two numbers -/
structure DR where
  a : Int
  b : Int
def drV (s : DR) : Val := .own [.int s.a, .int s.b]
def drCell (a : Int) (ns : List Int) : Int :=
  let c := if 0 < ns.length then ns.getD (a % (ns.length : Int)).toNat 0 else 0
  if c < 0 then 1 - 2 * c else c
def drFill (a : Int) (ns : List Int) : Int :=
  let c := drCell a ns
  if 1000000000000000000 ≤ c ∧ a < (ns.length : Int) then c else ((c + a * 7919 + 1) * 48271 % 2147483647 * 69621 + a * 104729) % 4294967291
def drNext (s : DR) (ns : List Int) : DR := if s.b = 0 then ⟨s.a + 1, drFill s.a ns⟩ else s
def drawO (s : DR) (ns : List Int) (m : Int) : Option (Int × DR) := if 0 < m ∧ m < 1073741824 then some ((drNext s ns).b % m, ⟨(drNext s ns).a, (drNext s ns).b / m⟩) else none
def pickO {α : Type} (s : DR) (ns : List Int) (xs : List α) : Option (α × DR) := (drawO s ns (xs.length : Int)).bind fun r => (atI xs r.1).map fun x => (x, r.2)
section
variable {Γ : Ctx} {L : List Nat} {env e0 e1 e2 e3 e4 : Env} {a b c me lo hi : ME} {i j : Nat} {P : Res → Prop}
theorem ja_dr {s : DR} (h : rd env i = some (drV s)) : ev Γ (.var i) env = some (.ali i, env) := by rw [ev, h]; rfl
theorem jd_dr0 : ev Γ (.lst [.con (.int 0), .con (.int 0)]) env = some (.v (drV ⟨0, 0⟩), env) := by
  rw [ev]
  simp only [evF, ev, Option.bind_some, fz, valD, Option.map_some]
  rfl
def drawC : List MS := [.asg (.nm 4) (.con (.int 0)),
  .ifs (.cmp .gt (.slen 1) (.con (.int 0))) [.asg (.nm 4) (.sidx 1 (.bin .md (.idx (.var 0) (.con (.int 0))) (.slen 1)))] [],
  .ifs (.cmp .lt (.var 4) (.con (.int 0))) [.asg (.nm 4) (.bin .sub (.con (.int 1)) (.bin .mul (.con (.int 2)) (.var 4)))] [],
  .asg (.nm 5) (.bin .md (.bi .int [(.bin .mul (.bin .add (.bin .add (.var 4) (.bin .mul (.idx (.var 0) (.con (.int 0))) (.con (.int 7919)))) (.con (.int 1))) (.con (.int 48271)))]) (.con (.int 2147483647))),
  .seti 0 (.con (.int 1)) (.bin .md (.bi .int [(.bin .add (.bin .mul (.var 5) (.con (.int 69621))) (.bin .mul (.idx (.var 0) (.con (.int 0))) (.con (.int 104729))))]) (.con (.int 4294967291))),
  .ifs (.andE (.cmp .ge (.var 4) (.bin .pow (.con (.int 10)) (.con (.int 18)))) (.cmp .lt (.idx (.var 0) (.con (.int 0))) (.slen 1))) [.seti 0 (.con (.int 1)) (.var 4)] [],
  .seti 0 (.con (.int 0)) (.bin .add (.idx (.var 0) (.con (.int 0))) (.con (.int 1)))]
def drawB : List MS := [
  .ifs (.cmp .eq (.idx (.var 0) (.con (.int 1))) (.con (.int 0))) drawC [],
  .asg (.nm 3) (.bin .md (.bi .int [(.idx (.var 0) (.con (.int 1)))]) (.var 2)),
  .seti 0 (.con (.int 1)) (.bin .fdiv (.idx (.var 0) (.con (.int 1))) (.var 2)),
  .ret (.var 3)]

theorem atI_scr (ns : List Int) (a : Int) (h : 0 < ns.length) : atI ns (a % (ns.length : Int)) = some (ns.getD (a % (ns.length : Int)).toNat 0) := by
  have h1 := Int.emod_nonneg a (show (ns.length : Int) ≠ 0 by omega)
  have h2 := Int.emod_lt_of_pos a (show (0 : Int) < ns.length by omega)
  obtain ⟨n, hn⟩ : ∃ n : Nat, a % (ns.length : Int) = (n : Int) := ⟨(a % (ns.length : Int)).toNat, by omega⟩
  rw [hn] at h2 ⊢
  have hb : n < ns.length := by omega
  rw [Int.toNat_natCast, List.getD_eq_getElem?_getD, List.getElem?_eq_getElem hb]
  exact atI_nat (List.getElem?_eq_getElem hb)
theorem ix0 (a b : D) : idxD (.list [a, b]) (.int 0) = some a := rfl
theorem ix1 (a b : D) : idxD (.list [a, b]) (.int 1) = some b := rfl
theorem eqI (a b : Int) : cmpD .eq (.int a) (.int b) = some (decide (a = b)) := by simp [cmpD, ok_int, eqv_int]
theorem mulI {i j : Int} (h : -18446744073709551616 < j ∧ j < 18446744073709551616) : binD .mul (.int i) (.int j) = some (.d (.int (i * j))) := if_pos (.inr (.inr h))
theorem mulI' {i j : Int} (h : -18446744073709551616 < i ∧ i < 18446744073709551616) : binD .mul (.int i) (.int j) = some (.d (.int (i * j))) := if_pos (.inr (.inl h))
theorem modI {i j : Int} (h : 0 < j) : binD .md (.int i) (.int j) = some (.d (.int (i % j))) := if_pos h
theorem divI {i j : Int} (h : 0 < j ∧ j.natAbs.log2 < 9000) : binD .fdiv (.int i) (.int j) = some (.d (.int (i / j))) := if_pos h
theorem pow18 : binD .pow (.int 10) (.int 18) = some (.d (.int 1000000000000000000)) := by
  show (if 0 ≤ (18 : Int) ∧ (18 : Int) ≤ 1000000 ∧ (10 : Int).natAbs < 2 ^ 64 then some (Val.d (.int ((10 : Int) ^ (18 : Int).toNat))) else none) = _
  rw [if_pos (by decide)]
  rfl
theorem ix2a : ixN 2 0 = some 0 := rfl
theorem ix2b : ixN 2 1 = some 1 := rfl
theorem binD_addI (i j : Int) : binD .add (.int i) (.int j) = some (.d (.int (i + j))) := rfl

abbrev drE (a b : Int) (ns : List Int) (m : Int) (x3 x4 x5 : Option Val) : Env := [some (.own [.int a, .int b]), some (.scr ns), some (.d (.int m)), x3, x4, x5]
theorem dr_c1 (Γ : Ctx) (ns : List Int) (a b m : Int) (x3 x5 : Option Val) : evS Γ [0] (.ifs (.cmp .gt (.slen 1) (.con (.int 0))) [.asg (.nm 4) (.sidx 1 (.bin .md (.idx (.var 0) (.con (.int 0))) (.slen 1)))] []) (drE a b ns m x3 (some (.d (.int 0))) x5) = some (.nx (drE a b ns m x3 (some (.d (.int (if 0 < ns.length then ns.getD (a % (ns.length : Int)).toNat 0 else 0)))) x5)) := by
  by_cases h : 0 < ns.length
  · have h' : (0 : Int) < (ns.length : Int) := by omega
    simp [evS, evSs, evC, ev, rd, cur, valD, cmpD, truR, truD, h, ix0, modI h', atI_scr ns a h, asgn, setV]
  · have h2 : ns.length = 0 := by omega
    simp [evS, evSs, evC, ev, rd, cur, valD, cmpD, truR, truD, h2]
theorem dr_c2 (Γ : Ctx) (ns : List Int) (a b m c : Int) (x3 x5 : Option Val) : evS Γ [0] (.ifs (.cmp .lt (.var 4) (.con (.int 0))) [.asg (.nm 4) (.bin .sub (.con (.int 1)) (.bin .mul (.con (.int 2)) (.var 4)))] []) (drE a b ns m x3 (some (.d (.int c))) x5) = some (.nx (drE a b ns m x3 (some (.d (.int (if c < 0 then 1 - 2 * c else c)))) x5)) := by
  by_cases h : c < 0
  · simp [evS, evSs, evC, ev, rd, cur, valD, cmpD, truR, truD, h, mulI' (i := 2) (j := c) (by decide), asgn, setV]
    rfl
  · simp [evS, evSs, evC, ev, rd, cur, valD, cmpD, truR, truD, h]
theorem dr_c3 (Γ : Ctx) (ns : List Int) (a b m c : Int) (x3 x5 : Option Val) : evS Γ [0] (.asg (.nm 5) (.bin .md (.bi .int [(.bin .mul (.bin .add (.bin .add (.var 4) (.bin .mul (.idx (.var 0) (.con (.int 0))) (.con (.int 7919)))) (.con (.int 1))) (.con (.int 48271)))]) (.con (.int 2147483647)))) (drE a b ns m x3 (some (.d (.int c))) x5) = some (.nx (drE a b ns m x3 (some (.d (.int c))) (some (.d (.int ((c + a * 7919 + 1) * 48271 % 2147483647)))))) := by
  simp [evS, evL, ev, rd, cur, curs, valD, ix0, mulI (i := a) (j := 7919) (by decide), mulI (j := 48271) (by decide), biD, biInt, modI (j := 2147483647) (by decide), asgn, setV, binD_addI]
theorem dr_c4 (Γ : Ctx) (ns : List Int) (a b m c x : Int) (x3 : Option Val) : evS Γ [0] (.seti 0 (.con (.int 1)) (.bin .md (.bi .int [(.bin .add (.bin .mul (.var 5) (.con (.int 69621))) (.bin .mul (.idx (.var 0) (.con (.int 0))) (.con (.int 104729))))]) (.con (.int 4294967291)))) (drE a b ns m x3 (some (.d (.int c))) (some (.d (.int x)))) = some (.nx (drE a ((x * 69621 + a * 104729) % 4294967291) ns m x3 (some (.d (.int c))) (some (.d (.int x))))) := by
  simp [evS, evL, ev, rd, cur, curs, valD, ix0, mulI (j := 69621) (by decide), mulI (j := 104729) (by decide), biD, biInt, modI (j := 4294967291) (by decide), binD_addI, fz, ix2b]
theorem dr_c5 (Γ : Ctx) (ns : List Int) (a b m c : Int) (x3 x5 : Option Val) : evS Γ [0] (.ifs (.andE (.cmp .ge (.var 4) (.bin .pow (.con (.int 10)) (.con (.int 18)))) (.cmp .lt (.idx (.var 0) (.con (.int 0))) (.slen 1))) [.seti 0 (.con (.int 1)) (.var 4)] []) (drE a b ns m x3 (some (.d (.int c))) x5) = some (.nx (drE a (if 1000000000000000000 ≤ c ∧ a < (ns.length : Int) then c else b) ns m x3 (some (.d (.int c))) x5)) := by
  by_cases h : 1000000000000000000 ≤ c
  · by_cases h2 : a < (ns.length : Int)
    · simp [evS, evSs, evC, ev, rd, cur, valD, ix0, pow18, cmpD, truR, truD, h, h2, fz, ix2b]
    · simp [evS, evSs, evC, ev, rd, cur, valD, ix0, pow18, cmpD, truR, truD, h, h2, fz, ix2b]
  · simp [evS, evSs, evC, ev, rd, cur, valD, ix0, pow18, cmpD, truR, truD, h, fz, ix2b]
theorem dr_c6 (Γ : Ctx) (ns : List Int) (a b m : Int) (x3 x4 x5 : Option Val) : evS Γ [0] (.seti 0 (.con (.int 0)) (.bin .add (.idx (.var 0) (.con (.int 0))) (.con (.int 1)))) (drE a b ns m x3 x4 x5) = some (.nx (drE (a + 1) b ns m x3 x4 x5)) := by
  simp [evS, ev, rd, cur, valD, ix0, binD_addI, fz, ix2a]
theorem dr_c (Γ : Ctx) (ns : List Int) (a b m : Int) (x3 x4 x5 : Option Val) : ∃ y4 y5, evSs Γ [0] drawC (drE a b ns m x3 x4 x5) = some (.nx (drE (a + 1) (drFill a ns) ns m x3 y4 y5)) := by
  have h0 : evS Γ [0] (.asg (.nm 4) (.con (.int 0))) (drE a b ns m x3 x4 x5) = some (.nx (drE a b ns m x3 (some (.d (.int 0))) x5)) := by
    simp [evS, ev, asgn, setV]
  refine ⟨some (.d (.int (drCell a ns))), some (.d (.int ((drCell a ns + a * 7919 + 1) * 48271 % 2147483647))), ?_⟩
  rw [drawC, evSs, h0, Option.bind_some]
  show evSs Γ [0] _ _ = _
  rw [evSs, dr_c1, Option.bind_some]
  show evSs Γ [0] _ _ = _
  rw [evSs, dr_c2, Option.bind_some]
  show evSs Γ [0] _ _ = _
  rw [evSs, dr_c3, Option.bind_some]
  show evSs Γ [0] _ _ = _
  rw [evSs, dr_c4, Option.bind_some]
  show evSs Γ [0] _ _ = _
  rw [evSs, dr_c5, Option.bind_some]
  show evSs Γ [0] _ _ = _
  rw [evSs, dr_c6, Option.bind_some]
  show evSs Γ [0] [] _ = _
  rw [evSs]
  rfl
theorem dr_run (Γ : Ctx) (ns : List Int) (s : DR) (m : Int) (h : 0 < m ∧ m < 1073741824) : ∃ x4 x5, evSs Γ [0] drawB (drE s.a s.b ns m none none none) = some (.rt (.v (.d (.int ((drNext s ns).b % m)))) (drE (drNext s ns).a ((drNext s ns).b / m) ns m (some (.d (.int ((drNext s ns).b % m)))) x4 x5)) := by
  have h1 : ∃ x4 x5, evS Γ [0] (.ifs (.cmp .eq (.idx (.var 0) (.con (.int 1))) (.con (.int 0))) drawC []) (drE s.a s.b ns m none none none) = some (.nx (drE (drNext s ns).a (drNext s ns).b ns m none x4 x5)) := by
    by_cases hb : s.b = 0
    · obtain ⟨y4, y5, e⟩ := dr_c Γ ns s.a s.b m none none none
      refine ⟨y4, y5, ?_⟩
      have : evC Γ (.cmp .eq (.idx (.var 0) (.con (.int 1))) (.con (.int 0))) (drE s.a s.b ns m none none none) = some (true, drE s.a s.b ns m none none none) := by
        simp [evC, ev, rd, cur, valD, ix1, eqI, truR, truD, hb]
      rw [evS, this, Option.bind_some]
      show evSs Γ [0] drawC _ = _
      rw [e]
      unfold drNext
      rw [if_pos hb]
    · refine ⟨none, none, ?_⟩
      have : evC Γ (.cmp .eq (.idx (.var 0) (.con (.int 1))) (.con (.int 0))) (drE s.a s.b ns m none none none) = some (false, drE s.a s.b ns m none none none) := by
        simp [evC, ev, rd, cur, valD, ix1, eqI, truR, truD, hb]
      rw [evS, this, Option.bind_some]
      show evSs Γ [0] [] _ = _
      rw [evSs]
      unfold drNext
      rw [if_neg hb]
  obtain ⟨x4, x5, e⟩ := h1
  refine ⟨x4, x5, ?_⟩
  generalize drNext s ns = t at e ⊢
  have hl : m.natAbs.log2 < 9000 := by
    have : m.natAbs.log2 < 30 := (Nat.log2_lt (by omega)).mpr (by have := h.2; omega)
    omega
  have h2 : evS Γ [0] (.asg (.nm 3) (.bin .md (.bi .int [(.idx (.var 0) (.con (.int 1)))]) (.var 2))) (drE t.a t.b ns m none x4 x5) = some (.nx (drE t.a t.b ns m (some (.d (.int (t.b % m)))) x4 x5)) := by
    simp [evS, evL, ev, rd, cur, curs, valD, ix1, biD, biInt, modI h.1, asgn, setV]
  have h3 : evS Γ [0] (.seti 0 (.con (.int 1)) (.bin .fdiv (.idx (.var 0) (.con (.int 1))) (.var 2))) (drE t.a t.b ns m (some (.d (.int (t.b % m)))) x4 x5) = some (.nx (drE t.a (t.b / m) ns m (some (.d (.int (t.b % m)))) x4 x5)) := by
    simp [evS, ev, rd, cur, valD, ix1, divI ⟨h.1, hl⟩, fz, ix2b]
  rw [drawB, evSs, e, Option.bind_some]
  show evSs Γ [0] _ _ = _
  rw [evSs, h2, Option.bind_some]
  show evSs Γ [0] _ _ = _
  rw [evSs, h3, Option.bind_some]
  show evSs Γ [0] _ _ = _
  rw [evSs]
  simp [evS, ev, rd]

theorem yes_draw {s : DR} {ns : List Int} {m : Int} (h0 : 0 < m) (h1 : m < 1073741824) : Yes (drawO s ns m) fun u => 0 ≤ u.1 ∧ u.1 < m := by
  unfold drawO
  rw [if_pos ⟨h0, h1⟩]
  exact yes_some ⟨Int.emod_nonneg _ (Int.ne_of_gt h0), Int.emod_lt_of_pos _ h0⟩
theorem yes_pick {α : Type} {s : DR} {ns : List Int} {xs : List α} (h0 : xs ≠ []) (h1 : xs.length < 1073741824) : Yes (pickO s ns xs) fun u => u.1 ∈ xs := by
  have hl := List.length_pos_iff.mpr h0
  unfold pickO
  obtain ⟨r, he, hr⟩ := yes_draw (s := s) (ns := ns) (m := (xs.length : Int)) (by omega) (by omega)
  rw [he, Option.bind_some]
  obtain ⟨n, hn⟩ : ∃ n : Nat, r.1 = (n : Int) := ⟨r.1.toNat, by omega⟩
  have hb : n < xs.length := by omega
  have e : atI xs r.1 = some xs[n] := by
    rw [hn]
    exact atI_nat (List.getElem?_eq_getElem hb)
  rw [e, Option.map_some]
  exact yes_some (List.getElem_mem hb)
end
end Ev

namespace Ev
open PySem L2
structure H2 (α β : Type) where
  a : α
  b : β
  deriving DecidableEq
structure H3 (α β γ : Type) where
  a : α
  b : β
  c : γ
  deriving DecidableEq
structure H4 (α β γ δ : Type) where
  a : α
  b : β
  c : γ
  d : δ
  deriving DecidableEq
instance {α β : Type} [En α] [En β] : En (H2 α β) := ⟨fun p => PyData.list [En.e p.a, En.e p.b]⟩
instance {α β γ : Type} [En α] [En β] [En γ] : En (H3 α β γ) := ⟨fun p => PyData.list [En.e p.a, En.e p.b, En.e p.c]⟩
instance {α β γ δ : Type} [En α] [En β] [En γ] [En δ] : En (H4 α β γ δ) := ⟨fun p => PyData.list [En.e p.a, En.e p.b, En.e p.c, En.e p.d]⟩
instance {α β : Type} [En α] [En β] : Nf (H2 α β) := ⟨fun _ => rfl⟩
instance {α β γ : Type} [En α] [En β] [En γ] : Nf (H3 α β γ) := ⟨fun _ => rfl⟩
instance {α β γ δ : Type} [En α] [En β] [En γ] [En δ] : Nf (H4 α β γ δ) := ⟨fun _ => rfl⟩
instance {α β : Type} [En α] [En β] : Nn (H2 α β) := ⟨fun _ => rfl⟩
instance {α β γ : Type} [En α] [En β] [En γ] : Nn (H3 α β γ) := ⟨fun _ => rfl⟩
instance {α β γ δ : Type} [En α] [En β] [En γ] [En δ] : Nn (H4 α β γ δ) := ⟨fun _ => rfl⟩
instance {α β : Type} [En α] [En β] [Eo α] [Eo β] : Eo (H2 α β) where
  dep := max (Eo.dep α) (Eo.dep β) + 1
  pl p := by simp only [En.e, PyData.plain, PyData.plainAll, Eo.pl, Bool.and_self]
  dp p := by
    have := Eo.dp p.a; have := Eo.dp p.b
    simp only [En.e, PyData.depth, PyData.depthAll] at *; omega
  ij a b := by
    cases a; cases b
    simp only [En.e, PyData.eqv, PyData.eqvAll, Bool.and_eq_true, H2.mk.injEq, and_true]
    exact and_congr (Eo.ij _ _) (Eo.ij _ _)
/-! ### dicts: keys ints or texts -/
class Ky (κ : Type) [En κ] where
  k : κ → Key
  kd : ∀ a : κ, keyD (En.e a) = some (k a)
  ij : ∀ a b : κ, k a = k b ↔ a = b
instance : Ky Int := ⟨Sum.inl, fun _ => rfl, fun a b => by simp⟩
instance : Ky Str := ⟨Sum.inr, fun _ => rfl, fun a b => by simp⟩
section
variable {κ β : Type} [En κ] [Ky κ] [DecidableEq κ] [En β] {α : Type} [En α] {Γ : Ctx} {L : List Nat} {env e0 e1 e2 e3 e4 : Env} {a b c me lo hi : ME} {i j : Nat} {P : Res → Prop}
def dkE (l : List (κ × β)) : List (Key × D) := l.map fun p => (Ky.k p.1, En.e p.2)
def getO (l : List (κ × β)) (k : κ) : Option β := (l.find? fun p => decide (p.1 = k)).map (·.2)
def hasK (l : List (κ × β)) (k : κ) : Bool := l.any fun p => decide (p.1 = k)
def putL (l : List (κ × β)) (k : κ) (x : β) : List (κ × β) := if hasK l k then l.map (fun p => if p.1 = k then (p.1, x) else p) else l ++ [(k, x)]
def putO (l : List (κ × β)) (k : κ) (x : β) : Option (List (κ × β)) := if l.length < sizeLine then some (putL l k x) else none
def mergeL (l m : List (κ × β)) : List (κ × β) := m.foldl (fun acc p => putL acc p.1 p.2) l
theorem valT_e (k : κ) : ∀ l : List (κ × β), valT (dkE l) (Ky.k k) = (getO l k).map En.e
  | [] => rfl
  | p :: r => by
    unfold valT getO dkE
    rw [List.map_cons]
    by_cases h : p.1 = k
    · rw [List.find?_cons_of_pos (by simp [h]), List.find?_cons_of_pos (by simp [h])]; rfl
    · rw [List.find?_cons_of_neg (by simpa [Ky.ij] using h), List.find?_cons_of_neg (by simpa using h)]
      exact valT_e k r
theorem hasT_e (k : κ) : ∀ l : List (κ × β), (valT (dkE l) (Ky.k k)).isSome = hasK l k
  | [] => rfl
  | p :: r => by
    unfold valT dkE hasK
    rw [List.map_cons, List.any_cons]
    by_cases h : p.1 = k
    · rw [List.find?_cons_of_pos (by simp [h])]; simp [h]
    · rw [List.find?_cons_of_neg (by simpa [Ky.ij] using h)]
      rw [show decide (p.1 = k) = false from decide_eq_false h, Bool.false_or]
      exact hasT_e k r
theorem anyT_e (k : κ) : ∀ l : List (κ × β), ((dkE l).any fun kv => decide (kv.1 = Ky.k k)) = hasK l k
  | [] => rfl
  | p :: r => by
    unfold dkE hasK
    rw [List.map_cons, List.any_cons, List.any_cons]
    have := anyT_e k r
    unfold dkE hasK at this
    rw [this]
    congr 1
    rw [Bool.eq_iff_iff, decide_eq_true_iff, decide_eq_true_iff]
    exact Ky.ij _ _
theorem putT_e (l : List (κ × β)) (k : κ) (x : β) : putT (dkE l) (Ky.k k) (En.e x) = dkE (putL l k x) := by
  unfold putT putL
  rw [anyT_e]
  by_cases h : hasK l k = true
  · rw [if_pos h, if_pos h]
    unfold dkE
    rw [List.map_map, List.map_map]
    refine List.map_congr_left fun p _ => ?_
    show (if Ky.k p.1 = Ky.k k then _ else _) = _
    by_cases e : p.1 = k
    · rw [if_pos ((Ky.ij _ _).mpr e)]; simp [e]
    · rw [if_neg (fun z => e ((Ky.ij _ _).mp z))]; simp [e]
  · rw [if_neg h, if_neg h]
    unfold dkE
    rw [List.map_append]; rfl
theorem mergeT_e : ∀ (m l : List (κ × β)), mergeT (dkE l) (dkE m) = dkE (mergeL l m)
  | [], l => rfl
  | p :: r, l => by
    show mergeT (putT (dkE l) (Ky.k p.1) (En.e p.2)) (dkE r) = _
    rw [putT_e, mergeT_e r]; rfl
theorem pairs_e : ∀ l : List (κ × β), pairsD (l.map En.e) = some (dkE l)
  | [] => rfl
  | p :: r => by
    show (keyD (En.e p.1)).bind (fun k => (pairsD (r.map En.e)).map ((k, En.e p.2) :: ·)) = _
    rw [Ky.kd, Option.bind_some, pairs_e r]; rfl
theorem jk_new : ev Γ .dnew env = some (.v (.dk (dkE ([] : List (κ × β)))), env) := by rw [ev]; rfl
theorem jk_new1 {k : κ} {x : β} (ha : JX Γ env a e1 e1 k) (hb : JF Γ e1 b e2 x) : ev Γ (.dnew1 a b) env = some (.v (.dk (dkE [(k, x)])), e2) := by
  obtain ⟨r, h1, h2⟩ := ha
  rw [ev, h1, Option.bind_some]
  simp only [h2, Option.bind_some, Ky.kd]
  unfold JF at hb
  cases q : ev Γ b e1 with
  | none => rw [q] at hb; cases hb
  | some z =>
    rw [q] at hb
    simp only [Option.bind_some] at hb ⊢
    rw [hb]; rfl
theorem jd_dget {l : List (κ × β)} {k : κ} {x : β} {w0 : Val} (h0 : rd env i = some w0) (ha : JX Γ env a e1 e1 k) (hr : rd e1 i = some (.dk (dkE l))) (h : getO l k = some x) : JD Γ env (.dget i a) e1 x := by
  obtain ⟨r, h1, h2⟩ := ha
  show ev _ _ _ = _
  rw [ev, h0, Option.bind_some, h1, Option.bind_some]
  simp only [h2, Option.bind_some, Ky.kd, hr, valT_e, h, Option.map_some]
theorem jd_din {l : List (κ × β)} {k : κ} (ha : JX Γ env a e1 e1 k) (hr : rd e1 i = some (.dk (dkE l))) : JD Γ env (.din i a) e1 (hasK l k) := by
  obtain ⟨r, h1, h2⟩ := ha
  show ev _ _ _ = _
  rw [ev, h1, Option.bind_some]
  simp only [h2, Option.bind_some, Ky.kd, hr, hasT_e]
  rfl
theorem jd_dnin {l : List (κ × β)} {k : κ} (ha : JX Γ env a e1 e1 k) (hr : rd e1 i = some (.dk (dkE l))) : JD Γ env (.dnin i a) e1 (!hasK l k) := by
  obtain ⟨r, h1, h2⟩ := ha
  show ev _ _ _ = _
  rw [ev, h1, Option.bind_some]
  simp only [h2, Option.bind_some, Ky.kd, hr, hasT_e]
  rfl
theorem jd_dgetd {l l0 : List (κ × β)} {k : κ} {x : β} (h0 : rd env i = some (.dk (dkE l0))) (ha : JX Γ env a e1 e1 k) (hb : JF Γ e1 b e2 x) (hr : rd e2 i = some (.dk (dkE l))) : JD Γ env (.dgetd i a b) e2 ((getO l k).getD x) := by
  obtain ⟨r, h1, h2⟩ := ha
  show ev _ _ _ = _
  rw [ev, h0]
  simp only [h1, Option.bind_some, h2, Ky.kd]
  unfold JF at hb
  cases q : ev Γ b e1 with
  | none => rw [q] at hb; cases hb
  | some z =>
    rw [q] at hb
    simp only [Option.bind_some] at hb ⊢
    rw [hb]
    simp only [Option.bind_some, hr, valT_e]
    cases getO l k <;> rfl
theorem jk_of {l : List (κ × β)} (ha : JX Γ env a e1 e1 l) (h : l.length ≤ sizeLine) : ev Γ (.dof a) env = some (.v (.dk (dkE (mergeL [] l))), e1) := by
  obtain ⟨r, h1, h2⟩ := ha
  rw [ev, h1, Option.bind_some]
  simp only [h2, Option.bind_some]
  show (pairsD (l.map En.e)).bind _ = _
  rw [pairs_e, Option.bind_some, if_pos (by unfold dkE; rw [List.length_map]; exact h)]
  rw [show ([] : List (Key × D)) = dkE ([] : List (κ × β)) from rfl, mergeT_e]
def dofO (l : List (κ × β)) : Option (List (κ × β)) := if l.length ≤ sizeLine then some (mergeL [] l) else none
theorem jk_ofO {l m : List (κ × β)} (ha : JX Γ env a e1 e1 l) (h : dofO l = some m) : ev Γ (.dof a) env = some (.v (.dk (dkE m)), e1) := by
  obtain ⟨h1, h2⟩ := (Option.ite_none_right_eq_some ..).mp h
  cases h2
  exact jk_of ha h1
theorem st_dput {ss : List MS} {ke ve : ME} {l m : List (κ × β)} {k : κ} {x : β} {w0 : Val} (hf : JF Γ env ve e1 x) (h0 : rd e1 i = some w0) (ha : JX Γ e1 ke e2 e2 k) (hr : rd e2 i = some (.dk (dkE l))) (h : putO l k x = some m) (he : e2.set i (some (.dk (dkE m))) = e3) (kk : OK (evSs Γ L ss e3) P) : OK (evSs Γ L (.dput i ke ve :: ss) env) P := by
  refine ok_step ?_ kk
  obtain ⟨h1, h2⟩ := (Option.ite_none_right_eq_some ..).mp h
  cases h2
  obtain ⟨r, h3, h4⟩ := ha
  rw [evS]
  unfold JF at hf
  cases q : ev Γ ve env with
  | none => rw [q] at hf; cases hf
  | some z =>
    rw [q] at hf
    simp only [Option.bind_some] at hf ⊢
    rw [hf]
    simp only [Option.bind_some, h0, h3, h4, Ky.kd, hr, putT_e]
    have : (dkE l).length < sizeLine := by unfold dkE; rw [List.length_map]; exact h1
    rw [if_pos this, he]
theorem jk_som {l m : List (κ × β)} {Γ : Ctx} (h : ev Γ me env = some (.v (.dk (dkE l)), e1)) (k : some l = some m) : ev Γ me env = some (.v (.dk (dkE m)), e1) := Option.some.inj k ▸ h
/-! lists of fixed kinds of things -/
theorem jf_lst {v : α} {es : List ME} {xs : List D} (h : evF Γ es env = some (xs, e1)) (hv : En.e v = .list xs) : JF Γ env (.lst es) e1 v := by
  unfold JF
  rw [ev, h]
  simp only [Option.map_some, Option.bind_some, fz, valD]
  rw [hv]
/-! pieces of tuples -/
theorem jd_sliP {x : α} {v : β} {l' h' : Option Int} (ha : JX Γ env a e1 e3 x) (hl : JP Γ e1 lo e2 l') (hh : JP Γ e2 hi e3 h') (h : sliD (En.e x) l' h' = some (.d (En.e v))) : JD Γ env (.sli a lo hi) e3 v := jw_sli ha hl hh h
theorem jd_catP {γ : Type} [En γ] {x : α} {y : β} {v : γ} {xs ys : List D} (ha : JX Γ env a e1 e2 x) (hb : JX Γ e1 b e2 e2 y) (hx : En.e x = .tuple xs) (hy : En.e y = .tuple ys) (hv : En.e v = .tuple (xs ++ ys)) (hl : Nat.ble (xs.length + ys.length) 100 = true) : JD Γ env (.bin .add a b) e2 v := jw_bin ha hb (by
  rw [hx, hy, hv]
  exact if_pos (Nat.le_trans (Nat.le_of_ble_eq_true hl) (Nat.le_trans (by decide) big)))
/-! lists times ints -/
def repO (l : List α) (k : Int) : Option (List α) := if -4611686018427387904 ≤ k ∧ k < 4611686018427387904 ∧ l.length * k.toNat ≤ sizeLine then some (List.replicate k.toNat l).flatten else none
theorem jo_rep {l w : List α} {k : Int} (ha : JX Γ env a e1 e2 l) (hb : JX Γ e1 b e2 e2 k) (h : repO l k = some w) : JO Γ env (.bin .mul a b) e2 w := jw_bin ha hb (by
  obtain ⟨h1, h2⟩ := (Option.ite_none_right_eq_some ..).mp h
  cases h2
  show (if -4611686018427387904 ≤ k ∧ k < 4611686018427387904 ∧ (l.map En.e).length * k.toNat ≤ sizeLine then some (Val.own (List.replicate k.toNat (l.map En.e)).flatten) else none) = _
  rw [List.length_map, if_pos h1, List.map_flatten, List.map_replicate])
/-! what the words tell -/
theorem getO_put (l : List (κ × β)) (k : κ) (x : β) (k' : κ) : getO (putL l k x) k' = if k' = k then some x else getO l k' := by
  have nh : ∀ l : List (κ × β), hasK l k = false → getO l k = none := fun l h => by
    unfold hasK at h
    rw [List.any_eq_false] at h
    unfold getO
    rw [List.find?_eq_none.mpr fun p hp => h p hp]; rfl
  by_cases h : hasK l k = true
  · unfold putL
    rw [if_pos h]
    clear nh
    induction l with
    | nil => simp [hasK] at h
    | cons p r ih =>
      unfold getO
      rw [List.map_cons]
      by_cases e : p.1 = k
      · rw [if_pos e]
        by_cases e' : k' = k
        · subst e'
          rw [List.find?_cons_of_pos (by simp [e]), if_pos rfl]; rfl
        · rw [List.find?_cons_of_neg (by simpa [e] using fun z => e' z.symm), if_neg e', List.find?_cons_of_neg (by simpa [e] using fun z => e' z.symm)]
          congr 1
          rw [List.find?_map]
          have : ((fun p : κ × β => decide (p.1 = k')) ∘ fun p => if p.1 = k then (p.1, x) else p) = fun p => decide (p.1 = k') := funext fun p => by
            show decide ((if p.1 = k then (p.1, x) else p).1 = k') = _
            split <;> rfl
          rw [this]
          cases q : r.find? fun p => decide (p.1 = k') with
          | none => rfl
          | some z =>
            have := List.find?_some q
            have hz : z.1 = k' := by simpa using this
            show some (if z.1 = k then (z.1, x) else z) = some z
            rw [if_neg (by rw [hz]; exact e')]
      · rw [if_neg e]
        have hr : hasK r k = true := by
          unfold hasK at h ⊢
          rw [List.any_cons, decide_eq_false e, Bool.false_or] at h
          exact h
        have ih := ih hr
        unfold getO at ih
        by_cases e' : p.1 = k'
        · rw [List.find?_cons_of_pos (by simpa using e'), List.find?_cons_of_pos (by simpa using e'), if_neg (fun z => e (e'.trans z))]
        · rw [List.find?_cons_of_neg (by simpa using e'), List.find?_cons_of_neg (by simpa using e')]
          exact ih
  · have h : hasK l k = false := by simpa using h
    have := nh l h
    unfold putL
    rw [if_neg (by rw [h]; decide)]
    unfold getO at this ⊢
    rw [List.find?_append]
    by_cases e' : k' = k
    · subst e'
      rw [if_pos rfl]
      have : (l.find? fun p => decide (p.1 = k')) = none := by simpa using this
      rw [this]; simp
    · rw [if_neg e']
      have e2 : decide (k = k') = false := decide_eq_false fun z => e' z.symm
      cases l.find? fun p => decide (p.1 = k') <;> simp [e2]
theorem hasK_get (l : List (κ × β)) (k : κ) : hasK l k = (getO l k).isSome := by
  induction l with
  | nil => rfl
  | cons p r ih =>
    unfold hasK getO
    rw [List.any_cons]
    by_cases e : p.1 = k
    · rw [List.find?_cons_of_pos (by simpa using e), decide_eq_true e]; rfl
    · rw [List.find?_cons_of_neg (by simpa using e), decide_eq_false e, Bool.false_or]
      exact ih
theorem putL_len (l : List (κ × β)) (k : κ) (x : β) : (putL l k x).length ≤ l.length + 1 := by
  unfold putL
  split
  · rw [List.length_map]; omega
  · rw [List.length_append]; simp
theorem putO_eq {l : List (κ × β)} {k : κ} {x : β} (h : l.length < 1000000) : putO l k x = some (putL l k x) := if_pos (Nat.lt_of_lt_of_le h big)
theorem repO_eq {l : List α} {k : Int} (h : 0 ≤ k) (h1 : k ≤ 1000) (hl : l.length ≤ 1000) : repO l k = some (List.replicate k.toNat l).flatten := if_pos ⟨by omega, by omega, by
  have := Nat.mul_le_mul hl (show k.toNat ≤ 1000 by omega)
  exact Nat.le_trans this big⟩
end
end Ev

namespace Ev
open PySem L2
def top (i : Nat) : Stmt := PySem.Challenge.pw_mailwright_k40_whole_answers.main.body.getD i (.Pass ⟨0, 0, 0, 0⟩)

/-- answered -/
def n0 : List Str := ["days", "pause", "found", "last", "at", "day"]
def b0 : List MS := [
  .asg (.nm 2) (.lst []),
  .asg (.nm 3) (.con .none),
  .for_ (.tup [(.nm 4), (.nm 5)]) (.enum (.var 0)) [.ifs (.orE (.cmp .isN (.var 3) (.con .none)) (.cmp .ge (.bin .sub (.var 5) (.var 3)) (.var 1))) [.app 2 (.var 4), .asg (.nm 3) (.var 5)] []],
  .ret (.var 2)]
/-- most_answers -/
def n1 : List Str := ["first", "last", "pause"]
def b1 : List MS := [
  .ret (.ite (.cmp .lt (.var 1) (.var 0)) (.con (.int 0)) (.ite (.cmp .gt (.var 2) (.con (.int 0))) (.bin .add (.bin .fdiv (.bin .sub (.var 1) (.var 0)) (.bi .max2 [(.con (.int 1)), (.var 2)])) (.con (.int 1))) (.con .none)))]
/-- talk -/
def n2 : List Str := ["one", "other", "delays", "start", "pauses", "last", "rows", "seen", "day", "side", "taker", "arrives", "state", "told"]
def b2 : List MS := [
  .asg (.nm 4) (.tup [(.var 0), (.var 1)]),
  .asg (.nm 5) (.lst [(.con .none), (.con .none)]),
  .asg (.nm 6) (.lst [(.tup [(.var 3), (.con (.int 0))])]),
  .asg (.nm 7) (.lst []),
  .whl (.con (.bool true)) [.asg (.tup [(.nm 8), (.nm 9)]) (.idx (.var 6) (.neg (.con (.int 1)))), .asg (.nm 10) (.bin .sub (.con (.int 1)) (.var 9)), .asg (.nm 11) (.bin .add (.var 8) (.idx (.var 2) (.var 9))), .ifs (.andE (.cmp .notN (.idx (.var 5) (.var 10)) (.con .none)) (.cmp .lt (.bin .sub (.var 11) (.idx (.var 5) (.var 10))) (.idx (.var 4) (.var 10)))) [.ret (.tup [(.con (.str "ends")), (.var 6)])] [], .asg (.nm 12) (.bin .add (.tup [(.var 10)]) (.bi .tuple [(.lc (.ite (.cmp .isN (.var 13) (.con .none)) (.con .none) (.bin .sub (.var 11) (.var 13))) (.nm 13) (.seq (.var 5)) (.con (.bool true)) [13])])), .ifs (.cmp .mem (.var 12) (.var 7)) [.ret (.tup [(.con (.str "round")), (.var 6)])] [], .app 7 (.var 12), .seti 5 (.var 10) (.var 11), .app 6 (.tup [(.var 11), (.var 10)])]]
/-- goes_on -/
def n3 : List Str := ["one", "other", "delays"]
def b3 : List MS := [
  .ret (.cmp .le (.bi .max2 [(.var 0), (.var 1)]) (.bin .add (.idx (.var 2) (.con (.int 0))) (.idx (.var 2) (.con (.int 1)))))]
/-- least_pause -/
def n4 : List Str := ["delays"]
def b4 : List MS := [
  .ret (.bin .add (.bin .add (.idx (.var 0) (.con (.int 0))) (.idx (.var 0) (.con (.int 1)))) (.con (.int 1)))]
/-- answered_once -/
def n5 : List Str := ["letters", "pause", "found", "last", "at", "day", "sender"]
def b5 : List MS := [
  .asg (.nm 2) (.lst []),
  .asg (.nm 3) .dnew,
  .for_ (.tup [(.nm 4), (.tup [(.nm 5), (.nm 6)])]) (.enum (.var 0)) [.ifs (.orE (.dnin 3 (.var 6)) (.cmp .ge (.bin .sub (.var 5) (.dget 3 (.var 6))) (.var 1))) [.app 2 (.var 4), .dput 3 (.var 6) (.var 5)] []],
  .ret (.var 2)]
/-- pause_for -/
def n6 : List Str := ["letters", "most", "gaps", "day", "sender", "pause", "before", "other"]
def b6 : List MS := [
  .asg (.nm 2) (.lst [(.con (.int 0))]),
  .for_ (.tup [(.nm 3), (.nm 4)]) (.seq (.var 0)) [.ext 2 (.lc (.bin .add (.bin .sub (.var 3) (.var 6)) (.con (.int 1))) (.tup [(.nm 6), (.nm 7)]) (.seq (.var 0)) (.andE (.cmp .eq (.var 7) (.var 4)) (.cmp .le (.var 6) (.var 3))) [6, 7])],
  .for_ (.nm 5) (.seq (.sset (.var 2))) [.ifs (.cmp .le (.bi .len [(.call 5 [(.var 0), (.var 5)])]) (.var 1)) [.ret (.var 5)] []],
  .ret (.con .none)]
/-- _law_draw -/
def n7 : List Str := ["state", "script", "size", "digit", "cell", "mixed"]
def b7 : List MS := [
  .ifs (.cmp .eq (.idx (.var 0) (.con (.int 1))) (.con (.int 0))) [.asg (.nm 4) (.con (.int 0)), .ifs (.cmp .gt (.slen 1) (.con (.int 0))) [.asg (.nm 4) (.sidx 1 (.bin .md (.idx (.var 0) (.con (.int 0))) (.slen 1)))] [], .ifs (.cmp .lt (.var 4) (.con (.int 0))) [.asg (.nm 4) (.bin .sub (.con (.int 1)) (.bin .mul (.con (.int 2)) (.var 4)))] [], .asg (.nm 5) (.bin .md (.bi .int [(.bin .mul (.bin .add (.bin .add (.var 4) (.bin .mul (.idx (.var 0) (.con (.int 0))) (.con (.int 7919)))) (.con (.int 1))) (.con (.int 48271)))]) (.con (.int 2147483647))), .seti 0 (.con (.int 1)) (.bin .md (.bi .int [(.bin .add (.bin .mul (.var 5) (.con (.int 69621))) (.bin .mul (.idx (.var 0) (.con (.int 0))) (.con (.int 104729))))]) (.con (.int 4294967291))), .ifs (.andE (.cmp .ge (.var 4) (.bin .pow (.con (.int 10)) (.con (.int 18)))) (.cmp .lt (.idx (.var 0) (.con (.int 0))) (.slen 1))) [.seti 0 (.con (.int 1)) (.var 4)] [], .seti 0 (.con (.int 0)) (.bin .add (.idx (.var 0) (.con (.int 0))) (.con (.int 1)))] [],
  .asg (.nm 3) (.bin .md (.bi .int [(.idx (.var 0) (.con (.int 1)))]) (.var 2)),
  .seti 0 (.con (.int 1)) (.bin .fdiv (.idx (.var 0) (.con (.int 1))) (.var 2)),
  .ret (.var 3)]
/-- _law_pick -/
def n8 : List Str := ["state", "script", "items"]
def b8 : List MS := [
  .ret (.idx (.var 2) (.call 7 [(.var 0), (.var 1), (.bi .len [(.var 2)])]))]
/-- _law_answered -/
def n9 : List Str := ["letters", "pause", "found", "k", "day", "sender", "i"]
def b9 : List MS := [
  .asg (.nm 2) (.lst []),
  .for_ (.nm 3) (.rng [(.bi .len [(.var 0)])]) [.asg (.tup [(.nm 4), (.nm 5)]) (.idx (.var 0) (.var 3)), .ifs (.cmp .eq (.bi .len [(.lc (.var 6) (.nm 6) (.seq (.var 2)) (.andE (.cmp .eq (.idx (.idx (.var 0) (.var 6)) (.con (.int 1))) (.var 5)) (.cmp .lt (.bin .sub (.var 4) (.idx (.idx (.var 0) (.var 6)) (.con (.int 0)))) (.var 1))) [6])]) (.con (.int 0))) [.app 2 (.var 3)] []],
  .ret (.var 2)]
/-- _law_talk -/
def n10 : List Str := ["pauses", "delays", "start", "most", "last", "day", "side", "rows"]
def b10 : List MS := [
  .asg (.nm 4) (.lst [(.con .none), (.con .none)]),
  .asg (.nm 5) (.var 2),
  .asg (.nm 6) (.con (.int 0)),
  .asg (.nm 7) (.lst [(.tup [(.var 2), (.con (.int 0))])]),
  .whl (.cmp .lt (.bi .len [(.var 7)]) (.var 3)) [.asg (.nm 5) (.bin .add (.var 5) (.idx (.var 1) (.var 6))), .asg (.nm 6) (.bin .sub (.con (.int 1)) (.var 6)), .ifs (.andE (.cmp .notN (.idx (.var 4) (.var 6)) (.con .none)) (.cmp .lt (.bin .sub (.var 5) (.idx (.var 4) (.var 6))) (.idx (.var 0) (.var 6)))) [.ret (.fz (.lst [(.var 7), (.con (.bool true))]))] [], .seti 4 (.var 6) (.var 5), .app 7 (.tup [(.var 5), (.var 6)])],
  .ret (.fz (.lst [(.var 7), (.con (.bool false))]))]
/-- law -/
def n11 : List Str := [("script" : Str), ("state" : Str), ("letters" : Str), ("day" : Str), ("_" : Str), ("pause" : Str), ("kept" : Str), ("days" : Str), ("first" : Str), ("last" : Str), ("most" : Str), ("wish" : Str), ("best" : Str), ("one" : Str), ("pauses" : Str), ("delays" : Str), ("rows" : Str), ("ends" : Str), ("told" : Str), ("least" : Str), ("other" : Str), ("line" : Str), ("letter" : Str)]
def b11 : List MS := [
  .asg (.nm 1) (.lst [(.con (.int 0)), (.con (.int 0))]),
  .asg (.nm 2) (.lst []),
  .asg (.nm 3) (.con (.int 0)),
  .for_ (.nm 4) (.rng [(.call 7 [(.var 1), (.var 0), (.con (.int 8))])]) [.asg (.nm 3) (.bin .add (.var 3) (.call 7 [(.var 1), (.var 0), (.con (.int 4))])), .app 2 (.tup [(.var 3), (.call 8 [(.var 1), (.var 0), (.lst [(.con (.str "a")), (.con (.str "b")), (.con (.str "c"))])])])],
  .asg (.nm 5) (.call 7 [(.var 1), (.var 0), (.con (.int 7))]),
  .asg (.nm 6) (.bi .repr [(.var 2)]),
  .ifs (.cmp .ne (.call 5 [(.var 2), (.var 5)]) (.call 9 [(.var 2), (.var 5)])) [.ret (.con (.bool false))] [],
  .asg (.nm 7) (.lc (.idx (.var 22) (.con (.int 0))) (.nm 22) (.seq (.var 2)) (.con (.bool true)) [22]),
  .ifs (.cmp .ne (.call 0 [(.var 7), (.var 5)]) (.call 9 [(.lc (.tup [(.var 3), (.con (.str "a"))]) (.nm 3) (.seq (.var 7)) (.con (.bool true)) [3]), (.var 5)])) [.ret (.con (.bool false))] [],
  .asg (.nm 8) (.call 7 [(.var 1), (.var 0), (.con (.int 9))]),
  .asg (.nm 9) (.bin .sub (.bin .add (.var 8) (.call 7 [(.var 1), (.var 0), (.con (.int 14))])) (.con (.int 2))),
  .asg (.nm 10) (.call 1 [(.var 8), (.var 9), (.var 5)]),
  .ifs (.cmp .eq (.var 5) (.con (.int 0))) [.ifs (.cmp .ne (.var 10) (.idx (.lst [(.con .none), (.con (.int 0))]) (.bi .int [(.cmp .lt (.var 9) (.var 8))]))) [.ret (.con (.bool false))] []] [.asg (.nm 21) (.lc (.tup [(.var 3), (.con (.str "a"))]) (.nm 3) (.rng [(.var 8), (.bin .add (.var 9) (.con (.int 1)))]) (.con (.bool true)) [3]), .ifs (.cmp .ne (.var 10) (.bi .len [(.call 9 [(.var 21), (.var 5)])])) [.ret (.con (.bool false))] []],
  .asg (.nm 11) (.call 7 [(.var 1), (.var 0), (.con (.int 6))]),
  .asg (.nm 12) (.con .none),
  .for_ (.nm 13) (.rng [(.con (.int 60)), (.neg (.con (.int 1))), (.neg (.con (.int 1)))]) [.ifs (.cmp .le (.bi .len [(.call 9 [(.var 2), (.var 13)])]) (.var 11)) [.asg (.nm 12) (.var 13)] []],
  .ifs (.cmp .ne (.bi .repr [(.call 6 [(.var 2), (.var 11)])]) (.bi .repr [(.var 12)])) [.ret (.con (.bool false))] [],
  .asg (.nm 14) (.tup [(.call 7 [(.var 1), (.var 0), (.con (.int 9))]), (.call 7 [(.var 1), (.var 0), (.con (.int 9))])]),
  .asg (.nm 15) (.tup [(.call 7 [(.var 1), (.var 0), (.con (.int 5))]), (.call 7 [(.var 1), (.var 0), (.con (.int 5))])]),
  .asg (.tup [(.nm 16), (.nm 17)]) (.call 10 [(.var 14), (.var 15), (.var 8), (.con (.int 40))]),
  .asg (.nm 18) (.call 2 [(.idx (.var 14) (.con (.int 0))), (.idx (.var 14) (.con (.int 1))), (.var 15), (.var 8)]),
  .ifs (.orE (.cmp .ne (.idx (.var 18) (.con (.int 0))) (.idx (.lst [(.con (.str "round")), (.con (.str "ends"))]) (.bi .int [(.var 17)]))) (.orE (.cmp .ne (.idx (.var 18) (.con (.int 1))) (.sli (.var 16) (.con .none) (.bi .len [(.idx (.var 18) (.con (.int 1)))]))) (.andE (.var 17) (.cmp .ne (.idx (.var 18) (.con (.int 1))) (.var 16))))) [.ret (.con (.bool false))] [],
  .ifs (.cmp .ne (.call 3 [(.idx (.var 14) (.con (.int 0))), (.idx (.var 14) (.con (.int 1))), (.var 15)]) (.notE (.var 17))) [.ret (.con (.bool false))] [],
  .ifs (.andE (.notE (.var 17)) (.notE (.chain .le .le (.con (.int 2)) (.bi .len [(.idx (.var 18) (.con (.int 1)))]) (.con (.int 6))))) [.ret (.con (.bool false))] [],
  .asg (.nm 19) (.call 4 [(.var 15)]),
  .for_ (.nm 20) (.rng [(.con (.int 9))]) [.ifs (.orE (.notE (.idx (.call 10 [(.tup [(.var 19), (.var 20)]), (.var 15), (.var 8), (.con (.int 40))]) (.con (.int 1)))) (.notE (.idx (.call 10 [(.tup [(.var 20), (.var 19)]), (.var 15), (.var 8), (.con (.int 40))]) (.con (.int 1))))) [.ret (.con (.bool false))] []],
  .ifs (.idx (.call 10 [(.tup [(.bin .sub (.var 19) (.con (.int 1))), (.con (.int 0))]), (.var 15), (.var 8), (.con (.int 40))]) (.con (.int 1))) [.ret (.con (.bool false))] [],
  .ret (.cmp .eq (.bi .repr [(.var 2)]) (.var 6))]
def TT : List Fd := [.py 2 n0.length [] b0, .py 3 n1.length [] b1, .py 4 n2.length [] b2, .py 3 n3.length [] b3, .py 1 n4.length [] b4, .py 2 n5.length [] b5, .py 2 n6.length [] b6, .py 3 n7.length [0] b7, .py 3 n8.length [0] b8, .py 2 n9.length [] b9, .py 4 n10.length [] b10, .py 1 n11.length [] b11]
abbrev GG : List D := []
def TB : Tab := ⟨["answered", "most_answers", "talk", "goes_on", "least_pause", "answered_once", "pause_for", "_law_draw", "_law_pick", "_law_answered", "_law_talk"], [], ["enumerate", "max", "tuple", "sorted", "set", "len", "int", "range", "repr", "abs"], false⟩
theorem s0 : FnScope n0 ["days", "pause"] (defScope (top 1)) := ⟨rfl, rfl, rfl, by decide +kernel, rfl, by decide +kernel, by decide +kernel⟩
theorem k0 : okSs TB n0 (defScope (top 1)) b0 (defBody (top 1)) = true := by decide +kernel
theorem s1 : FnScope n1 ["first", "last", "pause"] (defScope (top 2)) := ⟨rfl, rfl, rfl, by decide +kernel, rfl, by decide +kernel, by decide +kernel⟩
theorem k1 : okSs TB n1 (defScope (top 2)) b1 (defBody (top 2)) = true := by decide +kernel
theorem s2 : FnScope n2 ["one", "other", "delays", "start"] (defScope (top 3)) := ⟨rfl, rfl, rfl, by decide +kernel, rfl, by decide +kernel, by decide +kernel⟩
theorem k2 : okSs TB n2 (defScope (top 3)) b2 (defBody (top 3)) = true := by decide +kernel
theorem s3 : FnScope n3 ["one", "other", "delays"] (defScope (top 4)) := ⟨rfl, rfl, rfl, by decide +kernel, rfl, by decide +kernel, by decide +kernel⟩
theorem k3 : okSs TB n3 (defScope (top 4)) b3 (defBody (top 4)) = true := by decide +kernel
theorem s4 : FnScope n4 ["delays"] (defScope (top 5)) := ⟨rfl, rfl, rfl, by decide +kernel, rfl, by decide +kernel, by decide +kernel⟩
theorem k4 : okSs TB n4 (defScope (top 5)) b4 (defBody (top 5)) = true := by decide +kernel
theorem s5 : FnScope n5 ["letters", "pause"] (defScope (top 6)) := ⟨rfl, rfl, rfl, by decide +kernel, rfl, by decide +kernel, by decide +kernel⟩
theorem k5 : okSs TB n5 (defScope (top 6)) b5 (defBody (top 6)) = true := by decide +kernel
theorem s6 : FnScope n6 ["letters", "most"] (defScope (top 7)) := ⟨rfl, rfl, rfl, by decide +kernel, rfl, by decide +kernel, by decide +kernel⟩
theorem k6 : okSs TB n6 (defScope (top 7)) b6 (defBody (top 7)) = true := by decide +kernel
theorem s7 : FnScope n7 ["state", "script", "size"] (defScope (top 9)) := ⟨rfl, rfl, rfl, by decide +kernel, rfl, by decide +kernel, by decide +kernel⟩
theorem k7 : okSs TB n7 (defScope (top 9)) b7 (defBody (top 9)) = true := by decide +kernel
theorem s8 : FnScope n8 ["state", "script", "items"] (defScope (top 10)) := ⟨rfl, rfl, rfl, by decide +kernel, rfl, by decide +kernel, by decide +kernel⟩
theorem k8 : okSs TB n8 (defScope (top 10)) b8 (defBody (top 10)) = true := by decide +kernel
theorem s9 : FnScope n9 ["letters", "pause"] (defScope (top 11)) := ⟨rfl, rfl, rfl, by decide +kernel, rfl, by decide +kernel, by decide +kernel⟩
theorem k9 : okSs TB n9 (defScope (top 11)) b9 (defBody (top 11)) = true := by decide +kernel
theorem s10 : FnScope n10 ["pauses", "delays", "start", "most"] (defScope (top 12)) := ⟨rfl, rfl, rfl, by decide +kernel, rfl, by decide +kernel, by decide +kernel⟩
theorem k10 : okSs TB n10 (defScope (top 12)) b10 (defBody (top 12)) = true := by decide +kernel
theorem s11 : FnScope n11 ["script"] (defScope (top 13)) := ⟨rfl, rfl, rfl, by decide +kernel, rfl, by decide +kernel, by decide +kernel⟩
theorem k11 : okSs { TB with rp := true } n11 (defScope (top 13)) b11 (defBody (top 13)) = true := by decide +kernel
theorem all_ok {P : Program} {w : World} {K : PySem.W.Frag} {h : Heap} {mg : Str → Option Value} {f0 f1 f2 f3 f4 f5 f6 f7 f8 f9 f10 f11 : Addr} (X : K.In h) (Gn : h.Ns mainGlobals mg)
    {od0 an0 od1 an1 od2 an2 od3 an3 od4 an4 od5 an5 od6 an6 od7 an7 od8 an8 od9 an9 od10 an10 od11 an11 : Option Addr} {sl0 sl1 sl2 sl3 sl4 sl5 sl6 sl7 sl8 sl9 sl10 sl11 : Array (Option Value)} {oc0 kV0 dc0 pm0 cd0 ct0 oc1 kV1 dc1 pm1 cd1 ct1 oc2 kV2 dc2 pm2 cd2 ct2 oc3 kV3 dc3 pm3 cd3 ct3 oc4 kV4 dc4 pm4 cd4 ct4 oc5 kV5 dc5 pm5 cd5 ct5 oc6 kV6 dc6 pm6 cd6 ct6 oc7 kV7 dc7 pm7 cd7 ct7 oc8 kV8 dc8 pm8 cd8 ct8 oc9 kV9 dc9 pm9 cd9 ct9 oc10 kV10 dc10 pm10 cd10 ct10 oc11 kV11 dc11 pm11 cd11 ct11 : Value}
    (a0 : PySem.W.nsIn K mainGlobals "answered" = some (some (.ref f0))) (l0 : K.lookup f0 = some ⟨oc0, od0, .func (PySem.W.fnOf "answered" "answered" (defArgs (top 1)) (defBody (top 1)) (defScope (top 1)) .none kV0 dc0 pm0 an0 cd0 ct0), sl0⟩) (c0 : PySem.W.codeIn K cd0 "answered" = true) (e0 : PySem.W.keepIn K (.ref f0) = true)
    (a1 : PySem.W.nsIn K mainGlobals "most_answers" = some (some (.ref f1))) (l1 : K.lookup f1 = some ⟨oc1, od1, .func (PySem.W.fnOf "most_answers" "most_answers" (defArgs (top 2)) (defBody (top 2)) (defScope (top 2)) .none kV1 dc1 pm1 an1 cd1 ct1), sl1⟩) (c1 : PySem.W.codeIn K cd1 "most_answers" = true) (e1 : PySem.W.keepIn K (.ref f1) = true)
    (a2 : PySem.W.nsIn K mainGlobals "talk" = some (some (.ref f2))) (l2 : K.lookup f2 = some ⟨oc2, od2, .func (PySem.W.fnOf "talk" "talk" (defArgs (top 3)) (defBody (top 3)) (defScope (top 3)) .none kV2 dc2 pm2 an2 cd2 ct2), sl2⟩) (c2 : PySem.W.codeIn K cd2 "talk" = true) (e2 : PySem.W.keepIn K (.ref f2) = true)
    (a3 : PySem.W.nsIn K mainGlobals "goes_on" = some (some (.ref f3))) (l3 : K.lookup f3 = some ⟨oc3, od3, .func (PySem.W.fnOf "goes_on" "goes_on" (defArgs (top 4)) (defBody (top 4)) (defScope (top 4)) .none kV3 dc3 pm3 an3 cd3 ct3), sl3⟩) (c3 : PySem.W.codeIn K cd3 "goes_on" = true) (e3 : PySem.W.keepIn K (.ref f3) = true)
    (a4 : PySem.W.nsIn K mainGlobals "least_pause" = some (some (.ref f4))) (l4 : K.lookup f4 = some ⟨oc4, od4, .func (PySem.W.fnOf "least_pause" "least_pause" (defArgs (top 5)) (defBody (top 5)) (defScope (top 5)) .none kV4 dc4 pm4 an4 cd4 ct4), sl4⟩) (c4 : PySem.W.codeIn K cd4 "least_pause" = true) (e4 : PySem.W.keepIn K (.ref f4) = true)
    (a5 : PySem.W.nsIn K mainGlobals "answered_once" = some (some (.ref f5))) (l5 : K.lookup f5 = some ⟨oc5, od5, .func (PySem.W.fnOf "answered_once" "answered_once" (defArgs (top 6)) (defBody (top 6)) (defScope (top 6)) .none kV5 dc5 pm5 an5 cd5 ct5), sl5⟩) (c5 : PySem.W.codeIn K cd5 "answered_once" = true) (e5 : PySem.W.keepIn K (.ref f5) = true)
    (a6 : PySem.W.nsIn K mainGlobals "pause_for" = some (some (.ref f6))) (l6 : K.lookup f6 = some ⟨oc6, od6, .func (PySem.W.fnOf "pause_for" "pause_for" (defArgs (top 7)) (defBody (top 7)) (defScope (top 7)) .none kV6 dc6 pm6 an6 cd6 ct6), sl6⟩) (c6 : PySem.W.codeIn K cd6 "pause_for" = true) (e6 : PySem.W.keepIn K (.ref f6) = true)
    (a7 : PySem.W.nsIn K mainGlobals "_law_draw" = some (some (.ref f7))) (l7 : K.lookup f7 = some ⟨oc7, od7, .func (PySem.W.fnOf "_law_draw" "_law_draw" (defArgs (top 9)) (defBody (top 9)) (defScope (top 9)) .none kV7 dc7 pm7 an7 cd7 ct7), sl7⟩) (c7 : PySem.W.codeIn K cd7 "_law_draw" = true) (e7 : PySem.W.keepIn K (.ref f7) = true)
    (a8 : PySem.W.nsIn K mainGlobals "_law_pick" = some (some (.ref f8))) (l8 : K.lookup f8 = some ⟨oc8, od8, .func (PySem.W.fnOf "_law_pick" "_law_pick" (defArgs (top 10)) (defBody (top 10)) (defScope (top 10)) .none kV8 dc8 pm8 an8 cd8 ct8), sl8⟩) (c8 : PySem.W.codeIn K cd8 "_law_pick" = true) (e8 : PySem.W.keepIn K (.ref f8) = true)
    (a9 : PySem.W.nsIn K mainGlobals "_law_answered" = some (some (.ref f9))) (l9 : K.lookup f9 = some ⟨oc9, od9, .func (PySem.W.fnOf "_law_answered" "_law_answered" (defArgs (top 11)) (defBody (top 11)) (defScope (top 11)) .none kV9 dc9 pm9 an9 cd9 ct9), sl9⟩) (c9 : PySem.W.codeIn K cd9 "_law_answered" = true) (e9 : PySem.W.keepIn K (.ref f9) = true)
    (a10 : PySem.W.nsIn K mainGlobals "_law_talk" = some (some (.ref f10))) (l10 : K.lookup f10 = some ⟨oc10, od10, .func (PySem.W.fnOf "_law_talk" "_law_talk" (defArgs (top 12)) (defBody (top 12)) (defScope (top 12)) .none kV10 dc10 pm10 an10 cd10 ct10), sl10⟩) (c10 : PySem.W.codeIn K cd10 "_law_talk" = true) (e10 : PySem.W.keepIn K (.ref f10) = true)
    (a11 : PySem.W.nsIn K mainGlobals "law" = some (some (.ref f11))) (l11 : K.lookup f11 = some ⟨oc11, od11, .func (PySem.W.fnOf "law" "law" (defArgs (top 13)) (defBody (top 13)) (defScope (top 13)) .none kV11 dc11 pm11 an11 cd11 ct11), sl11⟩) (c11 : PySem.W.codeIn K cd11 "law" = true) (e11 : PySem.W.keepIn K (.ref f11) = true)
    (z0 : PySem.W.nsIn K mainGlobals "enumerate" = some none)
    (z1 : PySem.W.nsIn K mainGlobals "max" = some none)
    (z2 : PySem.W.nsIn K mainGlobals "tuple" = some none)
    (z3 : PySem.W.nsIn K mainGlobals "sorted" = some none)
    (z4 : PySem.W.nsIn K mainGlobals "set" = some none)
    (z5 : PySem.W.nsIn K mainGlobals "len" = some none)
    (z6 : PySem.W.nsIn K mainGlobals "int" = some none)
    (z7 : PySem.W.nsIn K mainGlobals "range" = some none)
    (z8 : PySem.W.nsIn K mainGlobals "repr" = some none)
    (z9 : PySem.W.nsIn K mainGlobals "abs" = some none)
    : DefAt K mg "law" (top 13) ∧ ∀ (base : Heap) (k : Nat), Names P w K mg base TT GG TB k := by
  have d0 := def_at X Gn a0 l0 c0 e0
  have d1 := def_at X Gn a1 l1 c1 e1
  have d2 := def_at X Gn a2 l2 c2 e2
  have d3 := def_at X Gn a3 l3 c3 e3
  have d4 := def_at X Gn a4 l4 c4 e4
  have d5 := def_at X Gn a5 l5 c5 e5
  have d6 := def_at X Gn a6 l6 c6 e6
  have d7 := def_at X Gn a7 l7 c7 e7
  have d8 := def_at X Gn a8 l8 c8 e8
  have d9 := def_at X Gn a9 l9 c9 e9
  have d10 := def_at X Gn a10 l10 c10 e10
  have d11 := def_at X Gn a11 l11 c11 e11
  have y0 := PySem.W.mg_none_of X Gn z0
  have y1 := PySem.W.mg_none_of X Gn z1
  have y2 := PySem.W.mg_none_of X Gn z2
  have y3 := PySem.W.mg_none_of X Gn z3
  have y4 := PySem.W.mg_none_of X Gn z4
  have y5 := PySem.W.mg_none_of X Gn z5
  have y6 := PySem.W.mg_none_of X Gn z6
  have y7 := PySem.W.mg_none_of X Gn z7
  have y8 := PySem.W.mg_none_of X Gn z8
  have y9 := PySem.W.mg_none_of X Gn z9
  refine ⟨d11, fun base => names_ok ⟨?q0, ?q1, ?q2, ?q3, ?q4, ?q5, ?q6, ?q7, ?q8, ?q9, ?q10, trivial⟩ gl_nil (fun x hx => ?_)⟩
  case q0 => exact defOk_py (ps := ["days", "pause"]) d0 (fun f fd F => F.binds (ps := ["days", "pause"]) fun _ _ _ _ _ _ us hl => match us, hl with | [_, _], _ => rfl) s0 rfl rfl k0
  case q1 => exact defOk_py (ps := ["first", "last", "pause"]) d1 (fun f fd F => F.binds (ps := ["first", "last", "pause"]) fun _ _ _ _ _ _ us hl => match us, hl with | [_, _, _], _ => rfl) s1 rfl rfl k1
  case q2 => exact defOk_py (ps := ["one", "other", "delays", "start"]) d2 (fun f fd F => F.binds (ps := ["one", "other", "delays", "start"]) fun _ _ _ _ _ _ us hl => match us, hl with | [_, _, _, _], _ => rfl) s2 rfl rfl k2
  case q3 => exact defOk_py (ps := ["one", "other", "delays"]) d3 (fun f fd F => F.binds (ps := ["one", "other", "delays"]) fun _ _ _ _ _ _ us hl => match us, hl with | [_, _, _], _ => rfl) s3 rfl rfl k3
  case q4 => exact defOk_py (ps := ["delays"]) d4 (fun f fd F => F.binds (ps := ["delays"]) fun _ _ _ _ _ _ us hl => match us, hl with | [_], _ => rfl) s4 rfl rfl k4
  case q5 => exact defOk_py (ps := ["letters", "pause"]) d5 (fun f fd F => F.binds (ps := ["letters", "pause"]) fun _ _ _ _ _ _ us hl => match us, hl with | [_, _], _ => rfl) s5 rfl rfl k5
  case q6 => exact defOk_py (ps := ["letters", "most"]) d6 (fun f fd F => F.binds (ps := ["letters", "most"]) fun _ _ _ _ _ _ us hl => match us, hl with | [_, _], _ => rfl) s6 rfl rfl k6
  case q7 => exact defOk_py (ps := ["state", "script", "size"]) d7 (fun f fd F => F.binds (ps := ["state", "script", "size"]) fun _ _ _ _ _ _ us hl => match us, hl with | [_, _, _], _ => rfl) s7 rfl rfl k7
  case q8 => exact defOk_py (ps := ["state", "script", "items"]) d8 (fun f fd F => F.binds (ps := ["state", "script", "items"]) fun _ _ _ _ _ _ us hl => match us, hl with | [_, _, _], _ => rfl) s8 rfl rfl k8
  case q9 => exact defOk_py (ps := ["letters", "pause"]) d9 (fun f fd F => F.binds (ps := ["letters", "pause"]) fun _ _ _ _ _ _ us hl => match us, hl with | [_, _], _ => rfl) s9 rfl rfl k9
  case q10 => exact defOk_py (ps := ["pauses", "delays", "start", "most"]) d10 (fun f fd F => F.binds (ps := ["pauses", "delays", "start", "most"]) fun _ _ _ _ _ _ us hl => match us, hl with | [_, _, _, _], _ => rfl) s10 rfl rfl k10
  have hx : x ∈ (["enumerate", "max", "tuple", "sorted", "set", "len", "int", "range", "repr", "abs"] : List Str) := hx
  simp only [List.mem_cons, List.not_mem_nil, or_false] at hx
  rcases hx with rfl | rfl | rfl | rfl | rfl | rfl | rfl | rfl | rfl | rfl
  · exact y0
  · exact y1
  · exact y2
  · exact y3
  · exact y4
  · exact y5
  · exact y6
  · exact y7
  · exact y8
  · exact y9
theorem io0 : ioT TT 0 = [] := rfl
theorem io1 : ioT TT 1 = [] := rfl
theorem io2 : ioT TT 2 = [] := rfl
theorem io3 : ioT TT 3 = [] := rfl
theorem io4 : ioT TT 4 = [] := rfl
theorem io5 : ioT TT 5 = [] := rfl
theorem io6 : ioT TT 6 = [] := rfl
theorem io7 : ioT TT 7 = [0] := rfl
theorem io8 : ioT TT 8 = [0] := rfl
theorem io9 : ioT TT 9 = [] := rfl
theorem io10 : ioT TT 10 = [] := rfl
theorem io11 : ioT TT 11 = [] := rfl
set_option exponentiation.threshold 3000
theorem wDraw (n : Nat) (hn : 1 ≤ n) (s : DR) (ns : List Int) (m : Int) {r : Int × DR} (h : drawO s ns m = some r) : callT TT GG n 7 [drV s, .scr ns, .d (En.e m)] = some (.d (En.e r.1), [drV r.2, .scr ns, .d (En.e m)]) := by
  obtain ⟨n, rfl⟩ : ∃ k, n = k + 1 := ⟨n - 1, by omega⟩
  unfold drawO at h
  obtain ⟨h1, h2⟩ := (Option.ite_none_right_eq_some ..).mp h
  cases h2
  obtain ⟨x4, x5, e⟩ := dr_run ⟨callT TT GG n, ioT TT, GG⟩ ns s m h1
  show (evSs ⟨callT TT GG n, ioT TT, GG⟩ [0] drawB (drE s.a s.b ns m none none none)).bind (endF [0] [drV s, .scr ns, .d (En.e m)]) = _
  rw [e, Option.bind_some]
  rfl
theorem wPick {α : Type} [En α] (n : Nat) (hn : 2 ≤ n) (s : DR) (ns : List Int) (xs : List α) {r : α × DR} (h : pickO s ns xs = some r) : callT TT GG n 8 [drV s, .scr ns, .d (En.e xs)] = some (.d (En.e r.1), [drV r.2, .scr ns, .d (En.e xs)]) := by
  obtain ⟨n, rfl⟩ : ∃ k, n = k + 1 := ⟨n - 1, by omega⟩
  obtain ⟨q, h1, h2⟩ := Option.bind_eq_some_iff.mp h
  obtain ⟨x, h3, h4⟩ := Option.map_eq_some_iff.mp h2
  cases h4
  have hc := wDraw n (by omega) s ns (xs.length : Int) h1
  refine call_py rfl rfl (by decide) ?_
  show OK (evSs ⟨callT TT GG n, ioT TT, GG⟩ _ b8 [some (drV s), some (.scr ns), some (.d (En.e xs))]) _
  generalize callT TT GG n = C at hc ⊢
  have e : ev ⟨C, ioT TT, GG⟩ (.call 7 [.var 0, .var 1, .bi .len [.var 2]]) [some (drV s), some (.scr ns), some (.d (En.e xs))] = some (.v (.d (En.e q.1)), [some (drV q.2), some (.scr ns), some (.d (En.e xs))]) :=
    jw_call (rs := [.ali 0, .ali 1, .v (.d (En.e ((xs.length : Nat) : Int)))]) (ws := [drV s, .scr ns, .d (En.e ((xs.length : Nat) : Int))]) (ws' := [drV q.2, .scr ns, .d (En.e ((xs.length : Nat) : Int))]) true
      (jl_cons (ja_dr rfl) (jl_cons (ja_scr rfl) (jl_cons (jd_len (jx_d (jd_var (v := xs) rfl))) jl_nil))) (show ([0, 1] : List Nat).Nodup by decide) rfl hc (fl_v (α := Int) rfl) rfl
  have j : JD ⟨C, ioT TT, GG⟩ [some (drV s), some (.scr ns), some (.d (En.e xs))] (.idx (.var 2) (.call 7 [.var 0, .var 1, .bi .len [.var 2]])) [some (drV q.2), some (.scr ns), some (.d (En.e xs))] x :=
    jd_at (jx_d (jd_var (v := xs) rfl)) ⟨_, e, rfl⟩ h3
  exact st_ret j (by first | rfl | simp [endF, outs, isSt])

/-! answered -/
noncomputable def Fn0 (days_0 : (List Int)) (pause_0 : Int) : Option (List Int) :=
  (some (([] : (List Int)) : (List Int))).bind fun found_1 => (some ((none : (Option Int)) : (Option Int))).bind fun last_3 => (foldO (α := (Int × Int)) (σ := ((List Int) × (Option Int))) (fun a_5 s_6 => (if s_6.2.isNone then some true else (s_6.2).bind fun v_20 => some (decide (pause_0 ≤ (a_5.2 - v_20)))).bind fun p_22 => (if p_22 then (appO s_6.1 a_5.1).bind fun found_24 => (some ((some a_5.2) : (Option Int))).bind fun last_26 => some (found_24, last_26) else some (s_6.1, s_6.2))) (enumT 0 days_0) (found_1, last_3)).bind fun s_28 => some s_28.1
theorem w0 (n : Nat) (hn : 1 ≤ n) (days_0 : (List Int)) (pause_0 : Int) {r : (List Int)} (h : Fn0 days_0 pause_0 = some r) : callT TT GG n 0 [.d (En.e (days_0 : (List Int))), .d (En.e (pause_0 : Int))] = some (.own (List.map En.e (r : (List Int))), [.d (En.e (days_0 : (List Int))), .d (En.e (pause_0 : Int))]) := by
  obtain ⟨n, rfl⟩ : ∃ k, n = k + 1 := ⟨n - 1, by omega⟩
  refine call_py rfl rfl (by decide) ?_
  show OK (evSs ⟨callT TT GG n, ioT TT, GG⟩ _ b0 [some (.d (En.e (days_0 : (List Int)))), some (.d (En.e (pause_0 : Int))), none, none, none, none]) _
  generalize callT TT GG n = C at ⊢
  unfold Fn0 at h
  obtain ⟨found_1, h_2, h⟩ := bnd h
  refine st_asg (e2 := [some (.d (En.e (days_0 : (List Int)))), some (.d (En.e (pause_0 : Int))), some (.own (List.map En.e (found_1 : (List Int)))), none, none, none]) (jo_som (jo_lst (v := ([] : (List Int))) ef_nil rfl) h_2) rfl rfl rfl ?_
  obtain ⟨last_3, h_4, h⟩ := bnd h
  refine st_asg (e2 := [some (.d (En.e (days_0 : (List Int)))), some (.d (En.e (pause_0 : Int))), some (.own (List.map En.e (found_1 : (List Int)))), some (.d (En.e (last_3 : (Option Int)))), none, none]) (jd_som (jd_con (v := (none : (Option Int))) rfl) h_4) rfl rfl rfl ?_
  obtain ⟨s_28, h_29, h⟩ := bnd h
  refine st_foldO (fun (s_6 : ((List Int) × (Option Int))) (e_ : Env) => ∃ (x_7 : Option D) (x_8 : Option D), e_ = [some (.d (En.e (days_0 : (List Int)))), some (.d (En.e (pause_0 : Int))), some (.own (List.map En.e (s_6.1 : (List Int)))), some (.d (En.e (s_6.2 : (Option Int)))), (jd x_7), (jd x_8)]) h_29 (ji_enum (l := (days_0 : (List Int))) (jd_var (v := (days_0 : (List Int))) rfl) rfl) ⟨none, none, rfl⟩ (fun _ _ _ => trivial) (fun a_5 s_6 e_ r_ _ hR h_18 => ?_) (fun e_ hR => ?_)
  · obtain ⟨x_7, x_8, rfl⟩ := hR
    show ∃ e2, bindT _ _ _ [some (.d (En.e (days_0 : (List Int)))), some (.d (En.e (pause_0 : Int))), some (.own (List.map En.e (s_6.1 : (List Int)))), some (.d (En.e (s_6.2 : (Option Int)))), (jd x_7), (jd x_8)] = some e2 ∧ _
    refine ⟨[some (.d (En.e (days_0 : (List Int)))), some (.d (En.e (pause_0 : Int))), some (.own (List.map En.e (s_6.1 : (List Int)))), some (.d (En.e (s_6.2 : (Option Int)))), some (.d (En.e (a_5.1 : Int))), some (.d (En.e (a_5.2 : Int)))], rfl, ?_⟩
    obtain ⟨p_22, h_23, h_18⟩ := bnd h_18
    refine st_ifs (jc_orP (R := some (p_22, [some (.d (En.e (days_0 : (List Int)))), some (.d (En.e (pause_0 : Int))), some (.own (List.map En.e (s_6.1 : (List Int)))), some (.d (En.e (s_6.2 : (Option Int)))), some (.d (En.e (a_5.1 : Int))), some (.d (En.e (a_5.2 : Int)))])) (jc_d (jd_isN (jx_d (jd_var (v := (s_6.2 : (Option Int))) rfl)) ev_con)) (fun hp => by have h_19 := if_f h_23 hp; obtain ⟨v_20, h_21, h_19⟩ := bnd h_19; exact jc_som (jc_d (jd_ge (jx_d (jd_sub (jx_d (jd_var (v := (a_5.2 : Int)) rfl)) (jx_d (jd_cast (jd_var (v := (s_6.2 : (Option Int))) rfl) (w := (v_20 : Int)) (congrArg En.e h_21))))) (jx_d (jd_var (v := (pause_0 : Int)) rfl)))) h_19) (fun hp => by have hq := if_t h_23 hp; cases hq; rfl)) (fun hp => ?_) (fun hp => ?_)
    · replace h_18 := if_t h_18 hp
      obtain ⟨found_24, h_25, h_18⟩ := bnd h_18
      refine st_app (v := (a_5.1 : Int)) (l := (s_6.1 : (List Int))) (e2 := [some (.d (En.e (days_0 : (List Int)))), some (.d (En.e (pause_0 : Int))), some (.own (List.map En.e (found_24 : (List Int)))), some (.d (En.e (s_6.2 : (Option Int)))), some (.d (En.e (a_5.1 : Int))), some (.d (En.e (a_5.2 : Int)))]) rfl (jf_d (jd_var (v := (a_5.1 : Int)) rfl)) rfl h_25 rfl ?_
      obtain ⟨last_26, h_27, h_18⟩ := bnd h_18
      refine st_asg (e2 := [some (.d (En.e (days_0 : (List Int)))), some (.d (En.e (pause_0 : Int))), some (.own (List.map En.e (found_24 : (List Int)))), some (.d (En.e (last_26 : (Option Int)))), some (.d (En.e (a_5.1 : Int))), some (.d (En.e (a_5.2 : Int)))]) (jd_som (jd_cast (jd_var (v := (a_5.2 : Int)) rfl) (w := (some a_5.2 : (Option Int))) rfl) h_27) rfl rfl rfl ?_
      refine ok_nilT ?_
      have hE_ := Option.some.inj h_18
      subst hE_
      exact ok_nil (show ∃ (x_7w : Option D) (x_8w : Option D), ([some (.d (En.e (days_0 : (List Int)))), some (.d (En.e (pause_0 : Int))), some (.own (List.map En.e (found_24 : (List Int)))), some (.d (En.e (last_26 : (Option Int)))), some (.d (En.e (a_5.1 : Int))), some (.d (En.e (a_5.2 : Int)))] : Env) = [some (.d (En.e (days_0 : (List Int)))), some (.d (En.e (pause_0 : Int))), some (.own (List.map En.e (((found_24, last_26) : ((List Int) × (Option Int))).1 : (List Int)))), some (.d (En.e (((found_24, last_26) : ((List Int) × (Option Int))).2 : (Option Int)))), (jd x_7w), (jd x_8w)] from ⟨(some (En.e (a_5.1 : Int))), (some (En.e (a_5.2 : Int))), rfl⟩)
    · replace h_18 := if_f h_18 hp
      refine ok_nilT ?_
      have hE_ := Option.some.inj h_18
      subst hE_
      exact ok_nil (show ∃ (x_7w : Option D) (x_8w : Option D), ([some (.d (En.e (days_0 : (List Int)))), some (.d (En.e (pause_0 : Int))), some (.own (List.map En.e (s_6.1 : (List Int)))), some (.d (En.e (s_6.2 : (Option Int)))), some (.d (En.e (a_5.1 : Int))), some (.d (En.e (a_5.2 : Int)))] : Env) = [some (.d (En.e (days_0 : (List Int)))), some (.d (En.e (pause_0 : Int))), some (.own (List.map En.e (((s_6.1, s_6.2) : ((List Int) × (Option Int))).1 : (List Int)))), some (.d (En.e (((s_6.1, s_6.2) : ((List Int) × (Option Int))).2 : (Option Int)))), (jd x_7w), (jd x_8w)] from ⟨(some (En.e (a_5.1 : Int))), (some (En.e (a_5.2 : Int))), rfl⟩)
  · obtain ⟨x_7, x_8, rfl⟩ := hR
    show OK (evSs _ _ _ [some (.d (En.e (days_0 : (List Int)))), some (.d (En.e (pause_0 : Int))), some (.own (List.map En.e (s_28.1 : (List Int)))), some (.d (En.e (s_28.2 : (Option Int)))), (jd x_7), (jd x_8)]) _
    have hE_ := Option.some.inj h
    subst hE_
    exact st_ret (ja_var rfl) (show endF [] [.d (En.e (days_0 : (List Int))), .d (En.e (pause_0 : Int))] (.rt (.ali 2) [some (.d (En.e (days_0 : (List Int)))), some (.d (En.e (pause_0 : Int))), some (.own (List.map En.e (s_28.1 : (List Int)))), some (.d (En.e (s_28.2 : (Option Int)))), (jd x_7), (jd x_8)]) = some (.own (List.map En.e (s_28.1 : (List Int))), [.d (En.e (days_0 : (List Int))), .d (En.e (pause_0 : Int))]) from (by first | rfl | simp [endF, outs, isSt]))
/-! most_answers -/
noncomputable def Fn1 (first_0 : Int) (last_0 : Int) (pause_0 : Int) : Option (Option Int) :=
  (if (decide (last_0 < first_0)) then some (some 0) else (if (decide (0 < pause_0)) then (fdivO (last_0 - first_0) (max2 1 pause_0)).bind fun n_4 => some (some (n_4 + 1)) else some (none : (Option Int))).bind fun v_7 => some v_7).bind fun v_9 => some v_9
theorem w1 (n : Nat) (hn : 1 ≤ n) (first_0 : Int) (last_0 : Int) (pause_0 : Int) {r : (Option Int)} (h : Fn1 first_0 last_0 pause_0 = some r) : callT TT GG n 1 [.d (En.e (first_0 : Int)), .d (En.e (last_0 : Int)), .d (En.e (pause_0 : Int))] = some (.d (En.e (r : (Option Int))), [.d (En.e (first_0 : Int)), .d (En.e (last_0 : Int)), .d (En.e (pause_0 : Int))]) := by
  obtain ⟨n, rfl⟩ : ∃ k, n = k + 1 := ⟨n - 1, by omega⟩
  refine call_py rfl rfl (by decide) ?_
  show OK (evSs ⟨callT TT GG n, ioT TT, GG⟩ _ b1 [some (.d (En.e (first_0 : Int))), some (.d (En.e (last_0 : Int))), some (.d (En.e (pause_0 : Int)))]) _
  generalize callT TT GG n = C at ⊢
  unfold Fn1 at h
  obtain ⟨v_9, h_10, h⟩ := bnd h
  have hE_ := Option.some.inj h
  subst hE_
  exact st_ret (jw_iteP (R := some (.v (.d (En.e (v_9 : (Option Int)))), [some (.d (En.e (first_0 : Int))), some (.d (En.e (last_0 : Int))), some (.d (En.e (pause_0 : Int)))])) (jc_d (jd_lt (jx_d (jd_var (v := (last_0 : Int)) rfl)) (jx_d (jd_var (v := (first_0 : Int)) rfl)))) (fun hp => by have h_1 := if_t h_10 hp; exact jd_som (jd_cast (jd_con (v := (0 : Int)) rfl) (w := (some 0 : (Option Int))) rfl) h_1) (fun hp => by have h_2 := if_f h_10 hp; obtain ⟨v_7, h_8, h_2⟩ := bnd h_2; exact jd_som (jw_iteP (R := some (.v (.d (En.e (v_7 : (Option Int)))), [some (.d (En.e (first_0 : Int))), some (.d (En.e (last_0 : Int))), some (.d (En.e (pause_0 : Int)))])) (jc_d (jd_gt (jx_d (jd_var (v := (pause_0 : Int)) rfl)) (jx_d (jd_con (v := (0 : Int)) rfl)))) (fun hp => by have h_3 := if_t h_8 hp; obtain ⟨n_4, h_5, h_3⟩ := bnd h_3; exact jd_som (jd_cast (jd_add (jx_d (jd_fdiv (jx_d (jd_sub (jx_d (jd_var (v := (last_0 : Int)) rfl)) (jx_d (jd_var (v := (first_0 : Int)) rfl)))) (jx_d (jd_max2 (jx_d (jd_con (v := (1 : Int)) rfl)) (jx_d (jd_var (v := (pause_0 : Int)) rfl)))) h_5)) (jx_d (jd_con (v := (1 : Int)) rfl))) (w := (some (n_4 + 1) : (Option Int))) rfl) h_3) (fun hp => by have h_6 := if_f h_8 hp; exact jd_som (jd_con (v := (none : (Option Int))) rfl) h_6)) h_2)) (show endF [] [.d (En.e (first_0 : Int)), .d (En.e (last_0 : Int)), .d (En.e (pause_0 : Int))] (.rt (.v (.d (En.e (v_9 : (Option Int))))) [some (.d (En.e (first_0 : Int))), some (.d (En.e (last_0 : Int))), some (.d (En.e (pause_0 : Int)))]) = some (.d (En.e (v_9 : (Option Int))), [.d (En.e (first_0 : Int)), .d (En.e (last_0 : Int)), .d (En.e (pause_0 : Int))]) from (by first | rfl | simp [endF, outs, isSt]))
/-! talk -/
noncomputable def Fn2 (one_0 : Int) (other_0 : Int) (delays_0 : (Int × Int)) (start_0 : Int) : Option (Str × (List (Int × Int))) :=
  (some (((one_0, other_0) : (Int × Int)) : (Int × Int))).bind fun pauses_1 => (some (([(none : (Option Int)), (none : (Option Int))] : (List (Option Int))) : (List (Option Int)))).bind fun last_3 => (some (([((start_0, 0) : (Int × Int))] : (List (Int × Int))) : (List (Int × Int)))).bind fun rows_5 => (some (([] : (List (Tp (Option Int)))) : (List (Tp (Option Int))))).bind fun seen_7 => (whT (σ := ((List (Option Int)) × (List (Int × Int)) × (List (Tp (Option Int))))) (ρ := (Str × (List (Int × Int)))) (fun s_9 => some true) (fun s_9 => (atO s_9.2.1 (-1)).bind fun x_65 => (some ((1 - x_65.2) : Int)).bind fun taker_67 => (idxD (En.e (delays_0 : (Int × Int))) (En.e (x_65.2 : Int))).bind fun x_69 => (decO Int x_69).bind fun v_71 => (some ((x_65.1 + v_71) : Int)).bind fun arrives_73 => (atO s_9.1 taker_67).bind fun x_75 => (if x_75.isSome then (atO s_9.1 taker_67).bind fun x_78 => (x_78).bind fun v_80 => (idxD (En.e (pauses_1 : (Int × Int))) (En.e (taker_67 : Int))).bind fun x_82 => (decO Int x_82).bind fun v_84 => some (decide ((arrives_73 - v_80) < v_84)) else some false).bind fun p_86 => (if p_86 then some (.rt ((("ends" : Str), s_9.2.1) : (Str × (List (Int × Int))))) else (lcO (α := (Option Int)) (β := (Option Int)) (fun x_88 => some true) (fun x_88 => (if x_88.isNone then some (none : (Option Int)) else (x_88).bind fun v_97 => some (some (arrives_73 - v_97))).bind fun v_99 => some v_99) s_9.1).bind fun l_101 => (catO (Tp.mk [(some taker_67)] : (Tp (Option Int))).l (Tp.mk l_101).l).bind fun l_103 => (some ((Tp.mk l_103) : (Tp (Option Int)))).bind fun state_105 => (if (decide (state_105 ∈ s_9.2.2)) then some (.rt ((("round" : Str), s_9.2.1) : (Str × (List (Int × Int))))) else (appO s_9.2.2 state_105).bind fun seen_107 => (setO s_9.1 taker_67 (some arrives_73)).bind fun last_109 => (appO s_9.2.1 ((arrives_73, taker_67) : (Int × Int))).bind fun rows_111 => some (.nx (last_109, rows_111, seen_107))))) (last_3, rows_5, seen_7)).bind fun r_113 => r_113.go (fun s_9 => none) (fun v_ => some v_)
theorem w2 (n : Nat) (hn : 1 ≤ n) (one_0 : Int) (other_0 : Int) (delays_0 : (Int × Int)) (start_0 : Int) {r : (Str × (List (Int × Int)))} (h : Fn2 one_0 other_0 delays_0 start_0 = some r) : callT TT GG n 2 [.d (En.e (one_0 : Int)), .d (En.e (other_0 : Int)), .d (En.e (delays_0 : (Int × Int))), .d (En.e (start_0 : Int))] = some (.d (En.e (r : (Str × (List (Int × Int))))), [.d (En.e (one_0 : Int)), .d (En.e (other_0 : Int)), .d (En.e (delays_0 : (Int × Int))), .d (En.e (start_0 : Int))]) := by
  obtain ⟨n, rfl⟩ : ∃ k, n = k + 1 := ⟨n - 1, by omega⟩
  refine call_py rfl rfl (by decide) ?_
  show OK (evSs ⟨callT TT GG n, ioT TT, GG⟩ _ b2 [some (.d (En.e (one_0 : Int))), some (.d (En.e (other_0 : Int))), some (.d (En.e (delays_0 : (Int × Int)))), some (.d (En.e (start_0 : Int))), none, none, none, none, none, none, none, none, none, none]) _
  generalize callT TT GG n = C at ⊢
  unfold Fn2 at h
  obtain ⟨pauses_1, h_2, h⟩ := bnd h
  refine st_asg (e2 := [some (.d (En.e (one_0 : Int))), some (.d (En.e (other_0 : Int))), some (.d (En.e (delays_0 : (Int × Int)))), some (.d (En.e (start_0 : Int))), some (.d (En.e (pauses_1 : (Int × Int)))), none, none, none, none, none, none, none, none, none]) (jd_som (jd_tup (v := ((one_0, other_0) : (Int × Int))) (ef_cons (jf_d (jd_var (v := (one_0 : Int)) rfl)) (ef_cons (jf_d (jd_var (v := (other_0 : Int)) rfl)) ef_nil)) rfl) h_2) rfl rfl rfl ?_
  obtain ⟨last_3, h_4, h⟩ := bnd h
  refine st_asg (e2 := [some (.d (En.e (one_0 : Int))), some (.d (En.e (other_0 : Int))), some (.d (En.e (delays_0 : (Int × Int)))), some (.d (En.e (start_0 : Int))), some (.d (En.e (pauses_1 : (Int × Int)))), some (.own (List.map En.e (last_3 : (List (Option Int))))), none, none, none, none, none, none, none, none]) (jo_som (jo_lst (v := ([(none : (Option Int)), (none : (Option Int))] : (List (Option Int)))) (ef_cons (jf_d (jd_con (v := (none : (Option Int))) rfl)) (ef_cons (jf_d (jd_con (v := (none : (Option Int))) rfl)) ef_nil)) rfl) h_4) rfl rfl rfl ?_
  obtain ⟨rows_5, h_6, h⟩ := bnd h
  refine st_asg (e2 := [some (.d (En.e (one_0 : Int))), some (.d (En.e (other_0 : Int))), some (.d (En.e (delays_0 : (Int × Int)))), some (.d (En.e (start_0 : Int))), some (.d (En.e (pauses_1 : (Int × Int)))), some (.own (List.map En.e (last_3 : (List (Option Int))))), some (.own (List.map En.e (rows_5 : (List (Int × Int))))), none, none, none, none, none, none, none]) (jo_som (jo_lst (v := ([((start_0, 0) : (Int × Int))] : (List (Int × Int)))) (ef_cons (jf_d (jd_tup (v := ((start_0, 0) : (Int × Int))) (ef_cons (jf_d (jd_var (v := (start_0 : Int)) rfl)) (ef_cons (jf_d (jd_con (v := (0 : Int)) rfl)) ef_nil)) rfl)) ef_nil) rfl) h_6) rfl rfl rfl ?_
  obtain ⟨seen_7, h_8, h⟩ := bnd h
  refine st_asg (e2 := [some (.d (En.e (one_0 : Int))), some (.d (En.e (other_0 : Int))), some (.d (En.e (delays_0 : (Int × Int)))), some (.d (En.e (start_0 : Int))), some (.d (En.e (pauses_1 : (Int × Int)))), some (.own (List.map En.e (last_3 : (List (Option Int))))), some (.own (List.map En.e (rows_5 : (List (Int × Int))))), some (.own (List.map En.e (seen_7 : (List (Tp (Option Int)))))), none, none, none, none, none, none]) (jo_som (jo_lst (v := ([] : (List (Tp (Option Int))))) ef_nil rfl) h_8) rfl rfl rfl ?_
  obtain ⟨r_113, h_114, h⟩ := bnd h
  refine st_whT (fun (s_9 : ((List (Option Int)) × (List (Int × Int)) × (List (Tp (Option Int))))) (e_ : Env) => ∃ (x_10 : Option D) (x_11 : Option D) (x_12 : Option D) (x_13 : Option D) (x_14 : Option D), e_ = [some (.d (En.e (one_0 : Int))), some (.d (En.e (other_0 : Int))), some (.d (En.e (delays_0 : (Int × Int)))), some (.d (En.e (start_0 : Int))), some (.d (En.e (pauses_1 : (Int × Int)))), some (.own (List.map En.e (s_9.1 : (List (Option Int))))), some (.own (List.map En.e (s_9.2.1 : (List (Int × Int))))), some (.own (List.map En.e (s_9.2.2 : (List (Tp (Option Int)))))), (jd x_10), (jd x_11), (jd x_12), (jd x_13), (jd x_14), none]) (fun (v_ : (Str × (List (Int × Int)))) r_ => endF [] [.d (En.e (one_0 : Int)), .d (En.e (other_0 : Int)), .d (En.e (delays_0 : (Int × Int))), .d (En.e (start_0 : Int))] r_ = some (.d (En.e (v_ : (Str × (List (Int × Int))))), [.d (En.e (one_0 : Int)), .d (En.e (other_0 : Int)), .d (En.e (delays_0 : (Int × Int))), .d (En.e (start_0 : Int))])) h_114 ⟨none, none, none, none, none, rfl⟩ (fun s_9 e_ p_ hR h_63 => ?_) (fun s_9 e_ r_ hR h_64 => ?_) (fun s_9 e_ hr hR => ?_) (fun v_ r_ e_ hr hF => ?_)
  · obtain ⟨x_10, x_11, x_12, x_13, x_14, rfl⟩ := hR
    show ∃ e1, JC _ [some (.d (En.e (one_0 : Int))), some (.d (En.e (other_0 : Int))), some (.d (En.e (delays_0 : (Int × Int)))), some (.d (En.e (start_0 : Int))), some (.d (En.e (pauses_1 : (Int × Int)))), some (.own (List.map En.e (s_9.1 : (List (Option Int))))), some (.own (List.map En.e (s_9.2.1 : (List (Int × Int))))), some (.own (List.map En.e (s_9.2.2 : (List (Tp (Option Int)))))), (jd x_10), (jd x_11), (jd x_12), (jd x_13), (jd x_14), none] _ e1 _ ∧ _
    exact ⟨_, jc_som (jc_d (jd_con (v := true) rfl)) h_63, ⟨x_10, x_11, x_12, x_13, x_14, rfl⟩⟩
  · obtain ⟨x_10, x_11, x_12, x_13, x_14, rfl⟩ := hR
    show OK (evSs _ _ _ [some (.d (En.e (one_0 : Int))), some (.d (En.e (other_0 : Int))), some (.d (En.e (delays_0 : (Int × Int)))), some (.d (En.e (start_0 : Int))), some (.d (En.e (pauses_1 : (Int × Int)))), some (.own (List.map En.e (s_9.1 : (List (Option Int))))), some (.own (List.map En.e (s_9.2.1 : (List (Int × Int))))), some (.own (List.map En.e (s_9.2.2 : (List (Tp (Option Int)))))), (jd x_10), (jd x_11), (jd x_12), (jd x_13), (jd x_14), none]) _
    obtain ⟨x_65, h_66, h_64⟩ := bnd h_64
    refine st_asgT (v := (x_65 : (Int × Int))) (e2 := [some (.d (En.e (one_0 : Int))), some (.d (En.e (other_0 : Int))), some (.d (En.e (delays_0 : (Int × Int)))), some (.d (En.e (start_0 : Int))), some (.d (En.e (pauses_1 : (Int × Int)))), some (.own (List.map En.e (s_9.1 : (List (Option Int))))), some (.own (List.map En.e (s_9.2.1 : (List (Int × Int))))), some (.own (List.map En.e (s_9.2.2 : (List (Tp (Option Int)))))), some (.d (En.e (x_65.1 : Int))), some (.d (En.e (x_65.2 : Int))), (jd x_12), (jd x_13), (jd x_14), none]) (jf_d (jd_at (jx_own (v := (s_9.2.1 : (List (Int × Int)))) rfl rfl) (jx_d (jd_neg (jx_d (jd_con (v := (1 : Int)) rfl)))) h_66)) rfl ?_
    obtain ⟨taker_67, h_68, h_64⟩ := bnd h_64
    refine st_asg (e2 := [some (.d (En.e (one_0 : Int))), some (.d (En.e (other_0 : Int))), some (.d (En.e (delays_0 : (Int × Int)))), some (.d (En.e (start_0 : Int))), some (.d (En.e (pauses_1 : (Int × Int)))), some (.own (List.map En.e (s_9.1 : (List (Option Int))))), some (.own (List.map En.e (s_9.2.1 : (List (Int × Int))))), some (.own (List.map En.e (s_9.2.2 : (List (Tp (Option Int)))))), some (.d (En.e (x_65.1 : Int))), some (.d (En.e (x_65.2 : Int))), some (.d (En.e (taker_67 : Int))), (jd x_13), (jd x_14), none]) (jd_som (jd_sub (jx_d (jd_con (v := (1 : Int)) rfl)) (jx_d (jd_var (v := (x_65.2 : Int)) rfl))) h_68) rfl rfl rfl ?_
    obtain ⟨x_69, h_70, h_64⟩ := bnd h_64
    obtain ⟨v_71, h_72, h_64⟩ := bnd h_64
    obtain ⟨arrives_73, h_74, h_64⟩ := bnd h_64
    refine st_asg (e2 := [some (.d (En.e (one_0 : Int))), some (.d (En.e (other_0 : Int))), some (.d (En.e (delays_0 : (Int × Int)))), some (.d (En.e (start_0 : Int))), some (.d (En.e (pauses_1 : (Int × Int)))), some (.own (List.map En.e (s_9.1 : (List (Option Int))))), some (.own (List.map En.e (s_9.2.1 : (List (Int × Int))))), some (.own (List.map En.e (s_9.2.2 : (List (Tp (Option Int)))))), some (.d (En.e (x_65.1 : Int))), some (.d (En.e (x_65.2 : Int))), some (.d (En.e (taker_67 : Int))), some (.d (En.e (arrives_73 : Int))), (jd x_14), none]) (jd_som (jd_add (jx_d (jd_var (v := (x_65.1 : Int)) rfl)) (jx_d (jd_dec (jd_idx (v := (x_69 : D)) (jx_d (jd_var (v := (delays_0 : (Int × Int))) rfl)) (jx_d (jd_var (v := (x_65.2 : Int)) rfl)) h_70) h_72))) h_74) rfl rfl rfl ?_
    obtain ⟨x_75, h_76, h_64⟩ := bnd h_64
    obtain ⟨p_86, h_87, h_64⟩ := bnd h_64
    refine st_ifs (jc_andP (R := some (p_86, [some (.d (En.e (one_0 : Int))), some (.d (En.e (other_0 : Int))), some (.d (En.e (delays_0 : (Int × Int)))), some (.d (En.e (start_0 : Int))), some (.d (En.e (pauses_1 : (Int × Int)))), some (.own (List.map En.e (s_9.1 : (List (Option Int))))), some (.own (List.map En.e (s_9.2.1 : (List (Int × Int))))), some (.own (List.map En.e (s_9.2.2 : (List (Tp (Option Int)))))), some (.d (En.e (x_65.1 : Int))), some (.d (En.e (x_65.2 : Int))), some (.d (En.e (taker_67 : Int))), some (.d (En.e (arrives_73 : Int))), (jd x_14), none])) (jc_d (jd_notN (jx_d (jd_at (jx_own (v := (s_9.1 : (List (Option Int)))) rfl rfl) (jx_d (jd_var (v := (taker_67 : Int)) rfl)) h_76)) ev_con)) (fun hp => by have h_77 := if_t h_87 hp; obtain ⟨x_78, h_79, h_77⟩ := bnd h_77; obtain ⟨v_80, h_81, h_77⟩ := bnd h_77; obtain ⟨x_82, h_83, h_77⟩ := bnd h_77; obtain ⟨v_84, h_85, h_77⟩ := bnd h_77; exact jc_som (jc_d (jd_lt (jx_d (jd_sub (jx_d (jd_var (v := (arrives_73 : Int)) rfl)) (jx_d (jd_cast (jd_at (jx_own (v := (s_9.1 : (List (Option Int)))) rfl rfl) (jx_d (jd_var (v := (taker_67 : Int)) rfl)) h_79) (w := (v_80 : Int)) (congrArg En.e h_81))))) (jx_d (jd_dec (jd_idx (v := (x_82 : D)) (jx_d (jd_var (v := (pauses_1 : (Int × Int))) rfl)) (jx_d (jd_var (v := (taker_67 : Int)) rfl)) h_83) h_85)))) h_77) (fun hp => by have hq := if_f h_87 hp; cases hq; rfl)) (fun hp => ?_) (fun hp => ?_)
    · replace h_64 := if_t h_64 hp
      have hE_ := Option.some.inj h_64
      subst hE_
      exact st_ret (jd_tup (v := ((("ends" : Str), s_9.2.1) : (Str × (List (Int × Int))))) (ef_cons (jf_d (jd_con (v := ("ends" : Str)) rfl)) (ef_cons (jf_a (v := (s_9.2.1 : (List (Int × Int)))) rfl rfl) ef_nil)) rfl) (show endF [] [.d (En.e (one_0 : Int)), .d (En.e (other_0 : Int)), .d (En.e (delays_0 : (Int × Int))), .d (En.e (start_0 : Int))] (.rt (.v (.d (En.e (((("ends" : Str), s_9.2.1) : (Str × (List (Int × Int)))) : (Str × (List (Int × Int))))))) [some (.d (En.e (one_0 : Int))), some (.d (En.e (other_0 : Int))), some (.d (En.e (delays_0 : (Int × Int)))), some (.d (En.e (start_0 : Int))), some (.d (En.e (pauses_1 : (Int × Int)))), some (.own (List.map En.e (s_9.1 : (List (Option Int))))), some (.d (En.e (s_9.2.1 : (List (Int × Int))))), some (.own (List.map En.e (s_9.2.2 : (List (Tp (Option Int)))))), some (.d (En.e (x_65.1 : Int))), some (.d (En.e (x_65.2 : Int))), some (.d (En.e (taker_67 : Int))), some (.d (En.e (arrives_73 : Int))), (jd x_14), none]) = some (.d (En.e (((("ends" : Str), s_9.2.1) : (Str × (List (Int × Int)))) : (Str × (List (Int × Int))))), [.d (En.e (one_0 : Int)), .d (En.e (other_0 : Int)), .d (En.e (delays_0 : (Int × Int))), .d (En.e (start_0 : Int))]) from (by first | rfl | simp [endF, outs, isSt]))
    · replace h_64 := if_f h_64 hp
      refine ok_nilT ?_
      obtain ⟨l_101, h_102, h_64⟩ := bnd h_64
      obtain ⟨l_103, h_104, h_64⟩ := bnd h_64
      obtain ⟨state_105, h_106, h_64⟩ := bnd h_64
      refine st_asg (e2 := [some (.d (En.e (one_0 : Int))), some (.d (En.e (other_0 : Int))), some (.d (En.e (delays_0 : (Int × Int)))), some (.d (En.e (start_0 : Int))), some (.d (En.e (pauses_1 : (Int × Int)))), some (.own (List.map En.e (s_9.1 : (List (Option Int))))), some (.own (List.map En.e (s_9.2.1 : (List (Int × Int))))), some (.own (List.map En.e (s_9.2.2 : (List (Tp (Option Int)))))), some (.d (En.e (x_65.1 : Int))), some (.d (En.e (x_65.2 : Int))), some (.d (En.e (taker_67 : Int))), some (.d (En.e (arrives_73 : Int))), some (.d (En.e (state_105 : (Tp (Option Int))))), none]) (jd_som (jd_catT (jx_d (jd_tup (v := (Tp.mk [(some taker_67)] : (Tp (Option Int)))) (ef_cons (jf_d (jd_cast (jd_var (v := (taker_67 : Int)) rfl) (w := (some taker_67 : (Option Int))) rfl)) ef_nil) rfl)) (jx_d (jd_tuple (jx_o (jo_lcO (α := (Option Int)) (β := (Option Int)) (ji_a (l := (s_9.1 : (List (Option Int)))) rfl) rfl (.inl rfl) rfl h_102 (fun x_88 _ => ⟨[some (.d (En.e (one_0 : Int))), some (.d (En.e (other_0 : Int))), some (.d (En.e (delays_0 : (Int × Int)))), some (.d (En.e (start_0 : Int))), some (.d (En.e (pauses_1 : (Int × Int)))), some (.own (List.map En.e (s_9.1 : (List (Option Int))))), some (.own (List.map En.e (s_9.2.1 : (List (Int × Int))))), some (.own (List.map En.e (s_9.2.2 : (List (Tp (Option Int)))))), some (.d (En.e (x_65.1 : Int))), some (.d (En.e (x_65.2 : Int))), some (.d (En.e (taker_67 : Int))), some (.d (En.e (arrives_73 : Int))), (jd x_14), some (.d (En.e (x_88 : (Option Int))))], rfl, rfl, (fun q_ h_89 => by exact jc_som tru_evC h_89), (fun y_ h_90 => by obtain ⟨v_99, h_100, h_90⟩ := bnd h_90; exact jf_som (jf_d (jw_iteP (R := some (.v (.d (En.e (v_99 : (Option Int)))), [some (.d (En.e (one_0 : Int))), some (.d (En.e (other_0 : Int))), some (.d (En.e (delays_0 : (Int × Int)))), some (.d (En.e (start_0 : Int))), some (.d (En.e (pauses_1 : (Int × Int)))), some (.own (List.map En.e (s_9.1 : (List (Option Int))))), some (.own (List.map En.e (s_9.2.1 : (List (Int × Int))))), some (.own (List.map En.e (s_9.2.2 : (List (Tp (Option Int)))))), some (.d (En.e (x_65.1 : Int))), some (.d (En.e (x_65.2 : Int))), some (.d (En.e (taker_67 : Int))), some (.d (En.e (arrives_73 : Int))), (jd x_14), some (.d (En.e (x_88 : (Option Int))))])) (jc_d (jd_isN (jx_d (jd_var (v := (x_88 : (Option Int))) rfl)) ev_con)) (fun hp => by have h_95 := if_t h_100 hp; exact jd_som (jd_con (v := (none : (Option Int))) rfl) h_95) (fun hp => by have h_96 := if_f h_100 hp; obtain ⟨v_97, h_98, h_96⟩ := bnd h_96; exact jd_som (jd_cast (jd_sub (jx_d (jd_var (v := (arrives_73 : Int)) rfl)) (jx_d (jd_cast (jd_var (v := (x_88 : (Option Int))) rfl) (w := (v_97 : Int)) (congrArg En.e h_98)))) (w := (some (arrives_73 - v_97) : (Option Int))) rfl) h_96))) h_90)⟩))))) h_104) h_106) rfl rfl rfl ?_
      refine st_ifs (jc_d (jd_mem (by decide) (jx_d (jd_var (v := (state_105 : (Tp (Option Int)))) rfl)) (jx_own (v := (s_9.2.2 : (List (Tp (Option Int))))) rfl rfl))) (fun hp => ?_) (fun hp => ?_)
      · replace h_64 := if_t h_64 hp
        have hE_ := Option.some.inj h_64
        subst hE_
        exact st_ret (jd_tup (v := ((("round" : Str), s_9.2.1) : (Str × (List (Int × Int))))) (ef_cons (jf_d (jd_con (v := ("round" : Str)) rfl)) (ef_cons (jf_a (v := (s_9.2.1 : (List (Int × Int)))) rfl rfl) ef_nil)) rfl) (show endF [] [.d (En.e (one_0 : Int)), .d (En.e (other_0 : Int)), .d (En.e (delays_0 : (Int × Int))), .d (En.e (start_0 : Int))] (.rt (.v (.d (En.e (((("round" : Str), s_9.2.1) : (Str × (List (Int × Int)))) : (Str × (List (Int × Int))))))) [some (.d (En.e (one_0 : Int))), some (.d (En.e (other_0 : Int))), some (.d (En.e (delays_0 : (Int × Int)))), some (.d (En.e (start_0 : Int))), some (.d (En.e (pauses_1 : (Int × Int)))), some (.own (List.map En.e (s_9.1 : (List (Option Int))))), some (.d (En.e (s_9.2.1 : (List (Int × Int))))), some (.own (List.map En.e (s_9.2.2 : (List (Tp (Option Int)))))), some (.d (En.e (x_65.1 : Int))), some (.d (En.e (x_65.2 : Int))), some (.d (En.e (taker_67 : Int))), some (.d (En.e (arrives_73 : Int))), some (.d (En.e (state_105 : (Tp (Option Int))))), none]) = some (.d (En.e (((("round" : Str), s_9.2.1) : (Str × (List (Int × Int)))) : (Str × (List (Int × Int))))), [.d (En.e (one_0 : Int)), .d (En.e (other_0 : Int)), .d (En.e (delays_0 : (Int × Int))), .d (En.e (start_0 : Int))]) from (by first | rfl | simp [endF, outs, isSt]))
      · replace h_64 := if_f h_64 hp
        refine ok_nilT ?_
        obtain ⟨seen_107, h_108, h_64⟩ := bnd h_64
        refine st_app (v := (state_105 : (Tp (Option Int)))) (l := (s_9.2.2 : (List (Tp (Option Int))))) (e2 := [some (.d (En.e (one_0 : Int))), some (.d (En.e (other_0 : Int))), some (.d (En.e (delays_0 : (Int × Int)))), some (.d (En.e (start_0 : Int))), some (.d (En.e (pauses_1 : (Int × Int)))), some (.own (List.map En.e (s_9.1 : (List (Option Int))))), some (.own (List.map En.e (s_9.2.1 : (List (Int × Int))))), some (.own (List.map En.e (seen_107 : (List (Tp (Option Int)))))), some (.d (En.e (x_65.1 : Int))), some (.d (En.e (x_65.2 : Int))), some (.d (En.e (taker_67 : Int))), some (.d (En.e (arrives_73 : Int))), some (.d (En.e (state_105 : (Tp (Option Int))))), none]) rfl (jf_d (jd_var (v := (state_105 : (Tp (Option Int)))) rfl)) rfl h_108 rfl ?_
        obtain ⟨last_109, h_110, h_64⟩ := bnd h_64
        refine st_seti (v := ((some arrives_73) : (Option Int))) (l := (s_9.1 : (List (Option Int)))) (e3 := [some (.d (En.e (one_0 : Int))), some (.d (En.e (other_0 : Int))), some (.d (En.e (delays_0 : (Int × Int)))), some (.d (En.e (start_0 : Int))), some (.d (En.e (pauses_1 : (Int × Int)))), some (.own (List.map En.e (last_109 : (List (Option Int))))), some (.own (List.map En.e (s_9.2.1 : (List (Int × Int))))), some (.own (List.map En.e (seen_107 : (List (Tp (Option Int)))))), some (.d (En.e (x_65.1 : Int))), some (.d (En.e (x_65.2 : Int))), some (.d (En.e (taker_67 : Int))), some (.d (En.e (arrives_73 : Int))), some (.d (En.e (state_105 : (Tp (Option Int))))), none]) (jf_d (jd_cast (jd_var (v := (arrives_73 : Int)) rfl) (w := (some arrives_73 : (Option Int))) rfl)) rfl (jx_d (jd_var (v := (taker_67 : Int)) rfl)) rfl h_110 rfl ?_
        obtain ⟨rows_111, h_112, h_64⟩ := bnd h_64
        refine st_app (v := (((arrives_73, taker_67) : (Int × Int)) : (Int × Int))) (l := (s_9.2.1 : (List (Int × Int)))) (e2 := [some (.d (En.e (one_0 : Int))), some (.d (En.e (other_0 : Int))), some (.d (En.e (delays_0 : (Int × Int)))), some (.d (En.e (start_0 : Int))), some (.d (En.e (pauses_1 : (Int × Int)))), some (.own (List.map En.e (last_109 : (List (Option Int))))), some (.own (List.map En.e (rows_111 : (List (Int × Int))))), some (.own (List.map En.e (seen_107 : (List (Tp (Option Int)))))), some (.d (En.e (x_65.1 : Int))), some (.d (En.e (x_65.2 : Int))), some (.d (En.e (taker_67 : Int))), some (.d (En.e (arrives_73 : Int))), some (.d (En.e (state_105 : (Tp (Option Int))))), none]) rfl (jf_d (jd_tup (v := ((arrives_73, taker_67) : (Int × Int))) (ef_cons (jf_d (jd_var (v := (arrives_73 : Int)) rfl)) (ef_cons (jf_d (jd_var (v := (taker_67 : Int)) rfl)) ef_nil)) rfl)) rfl h_112 rfl ?_
        have hE_ := Option.some.inj h_64
        subst hE_
        exact ok_nil (show ∃ (x_10w : Option D) (x_11w : Option D) (x_12w : Option D) (x_13w : Option D) (x_14w : Option D), ([some (.d (En.e (one_0 : Int))), some (.d (En.e (other_0 : Int))), some (.d (En.e (delays_0 : (Int × Int)))), some (.d (En.e (start_0 : Int))), some (.d (En.e (pauses_1 : (Int × Int)))), some (.own (List.map En.e (last_109 : (List (Option Int))))), some (.own (List.map En.e (rows_111 : (List (Int × Int))))), some (.own (List.map En.e (seen_107 : (List (Tp (Option Int)))))), some (.d (En.e (x_65.1 : Int))), some (.d (En.e (x_65.2 : Int))), some (.d (En.e (taker_67 : Int))), some (.d (En.e (arrives_73 : Int))), some (.d (En.e (state_105 : (Tp (Option Int))))), none] : Env) = [some (.d (En.e (one_0 : Int))), some (.d (En.e (other_0 : Int))), some (.d (En.e (delays_0 : (Int × Int)))), some (.d (En.e (start_0 : Int))), some (.d (En.e (pauses_1 : (Int × Int)))), some (.own (List.map En.e (((last_109, rows_111, seen_107) : ((List (Option Int)) × (List (Int × Int)) × (List (Tp (Option Int))))).1 : (List (Option Int))))), some (.own (List.map En.e (((last_109, rows_111, seen_107) : ((List (Option Int)) × (List (Int × Int)) × (List (Tp (Option Int))))).2.1 : (List (Int × Int))))), some (.own (List.map En.e (((last_109, rows_111, seen_107) : ((List (Option Int)) × (List (Int × Int)) × (List (Tp (Option Int))))).2.2 : (List (Tp (Option Int)))))), (jd x_10w), (jd x_11w), (jd x_12w), (jd x_13w), (jd x_14w), none] from ⟨(some (En.e (x_65.1 : Int))), (some (En.e (x_65.2 : Int))), (some (En.e (taker_67 : Int))), (some (En.e (arrives_73 : Int))), (some (En.e (state_105 : (Tp (Option Int))))), rfl⟩)
  · subst hr
    replace h := goN h
    obtain ⟨x_10, x_11, x_12, x_13, x_14, rfl⟩ := hR
    show OK (evSs _ _ _ [some (.d (En.e (one_0 : Int))), some (.d (En.e (other_0 : Int))), some (.d (En.e (delays_0 : (Int × Int)))), some (.d (En.e (start_0 : Int))), some (.d (En.e (pauses_1 : (Int × Int)))), some (.own (List.map En.e (s_9.1 : (List (Option Int))))), some (.own (List.map En.e (s_9.2.1 : (List (Int × Int))))), some (.own (List.map En.e (s_9.2.2 : (List (Tp (Option Int)))))), (jd x_10), (jd x_11), (jd x_12), (jd x_13), (jd x_14), none]) _
    cases h
  · subst hr
    replace h := goR h
    cases h
    exact hF
/-! goes_on -/
noncomputable def Fn3 (one_0 : Int) (other_0 : Int) (delays_0 : (Int × Int)) : Option Bool :=
  some (decide ((max2 one_0 other_0) ≤ (delays_0.1 + delays_0.2)))
theorem w3 (n : Nat) (hn : 1 ≤ n) (one_0 : Int) (other_0 : Int) (delays_0 : (Int × Int)) {r : Bool} (h : Fn3 one_0 other_0 delays_0 = some r) : callT TT GG n 3 [.d (En.e (one_0 : Int)), .d (En.e (other_0 : Int)), .d (En.e (delays_0 : (Int × Int)))] = some (.d (En.e (r : Bool)), [.d (En.e (one_0 : Int)), .d (En.e (other_0 : Int)), .d (En.e (delays_0 : (Int × Int)))]) := by
  obtain ⟨n, rfl⟩ : ∃ k, n = k + 1 := ⟨n - 1, by omega⟩
  refine call_py rfl rfl (by decide) ?_
  show OK (evSs ⟨callT TT GG n, ioT TT, GG⟩ _ b3 [some (.d (En.e (one_0 : Int))), some (.d (En.e (other_0 : Int))), some (.d (En.e (delays_0 : (Int × Int))))]) _
  generalize callT TT GG n = C at ⊢
  unfold Fn3 at h
  have hE_ := Option.some.inj h
  subst hE_
  exact st_ret (jd_le (jx_d (jd_max2 (jx_d (jd_var (v := (one_0 : Int)) rfl)) (jx_d (jd_var (v := (other_0 : Int)) rfl)))) (jx_d (jd_add (jx_d (jd_idx (v := (delays_0.1 : Int)) (jx_d (jd_var (v := (delays_0 : (Int × Int))) rfl)) (jx_d (jd_con (v := (0 : Int)) rfl)) rfl)) (jx_d (jd_idx (v := (delays_0.2 : Int)) (jx_d (jd_var (v := (delays_0 : (Int × Int))) rfl)) (jx_d (jd_con (v := (1 : Int)) rfl)) rfl))))) (show endF [] [.d (En.e (one_0 : Int)), .d (En.e (other_0 : Int)), .d (En.e (delays_0 : (Int × Int)))] (.rt (.v (.d (En.e ((decide ((max2 one_0 other_0) ≤ (delays_0.1 + delays_0.2))) : Bool)))) [some (.d (En.e (one_0 : Int))), some (.d (En.e (other_0 : Int))), some (.d (En.e (delays_0 : (Int × Int))))]) = some (.d (En.e ((decide ((max2 one_0 other_0) ≤ (delays_0.1 + delays_0.2))) : Bool)), [.d (En.e (one_0 : Int)), .d (En.e (other_0 : Int)), .d (En.e (delays_0 : (Int × Int)))]) from (by first | rfl | simp [endF, outs, isSt]))
/-! least_pause -/
noncomputable def Fn4 (delays_0 : (Int × Int)) : Option Int :=
  some ((delays_0.1 + delays_0.2) + 1)
theorem w4 (n : Nat) (hn : 1 ≤ n) (delays_0 : (Int × Int)) {r : Int} (h : Fn4 delays_0 = some r) : callT TT GG n 4 [.d (En.e (delays_0 : (Int × Int)))] = some (.d (En.e (r : Int)), [.d (En.e (delays_0 : (Int × Int)))]) := by
  obtain ⟨n, rfl⟩ : ∃ k, n = k + 1 := ⟨n - 1, by omega⟩
  refine call_py rfl rfl (by decide) ?_
  show OK (evSs ⟨callT TT GG n, ioT TT, GG⟩ _ b4 [some (.d (En.e (delays_0 : (Int × Int))))]) _
  generalize callT TT GG n = C at ⊢
  unfold Fn4 at h
  have hE_ := Option.some.inj h
  subst hE_
  exact st_ret (jd_add (jx_d (jd_add (jx_d (jd_idx (v := (delays_0.1 : Int)) (jx_d (jd_var (v := (delays_0 : (Int × Int))) rfl)) (jx_d (jd_con (v := (0 : Int)) rfl)) rfl)) (jx_d (jd_idx (v := (delays_0.2 : Int)) (jx_d (jd_var (v := (delays_0 : (Int × Int))) rfl)) (jx_d (jd_con (v := (1 : Int)) rfl)) rfl)))) (jx_d (jd_con (v := (1 : Int)) rfl))) (show endF [] [.d (En.e (delays_0 : (Int × Int)))] (.rt (.v (.d (En.e (((delays_0.1 + delays_0.2) + 1) : Int)))) [some (.d (En.e (delays_0 : (Int × Int))))]) = some (.d (En.e (((delays_0.1 + delays_0.2) + 1) : Int)), [.d (En.e (delays_0 : (Int × Int)))]) from (by first | rfl | simp [endF, outs, isSt]))
/-! answered_once -/
noncomputable def Fn5 (letters_0 : (List (Int × Str))) (pause_0 : Int) : Option (List Int) :=
  (some (([] : (List Int)) : (List Int))).bind fun found_1 => (some (([] : (List (Str × Int))) : (List (Str × Int)))).bind fun last_3 => (foldO (α := (Int × (Int × Str))) (σ := ((List Int) × (List (Str × Int)))) (fun a_5 s_6 => (if (!hasK s_6.2 a_5.2.2) then some true else (getO s_6.2 a_5.2.2).bind fun x_21 => some (decide (pause_0 ≤ (a_5.2.1 - x_21)))).bind fun p_23 => (if p_23 then (appO s_6.1 a_5.1).bind fun found_25 => (putO s_6.2 a_5.2.2 a_5.2.1).bind fun last_27 => some (found_25, last_27) else some (s_6.1, s_6.2))) (enumT 0 letters_0) (found_1, last_3)).bind fun s_29 => some s_29.1
theorem w5 (n : Nat) (hn : 1 ≤ n) (letters_0 : (List (Int × Str))) (pause_0 : Int) {r : (List Int)} (h : Fn5 letters_0 pause_0 = some r) : callT TT GG n 5 [.d (En.e (letters_0 : (List (Int × Str)))), .d (En.e (pause_0 : Int))] = some (.own (List.map En.e (r : (List Int))), [.d (En.e (letters_0 : (List (Int × Str)))), .d (En.e (pause_0 : Int))]) := by
  obtain ⟨n, rfl⟩ : ∃ k, n = k + 1 := ⟨n - 1, by omega⟩
  refine call_py rfl rfl (by decide) ?_
  show OK (evSs ⟨callT TT GG n, ioT TT, GG⟩ _ b5 [some (.d (En.e (letters_0 : (List (Int × Str))))), some (.d (En.e (pause_0 : Int))), none, none, none, none, none]) _
  generalize callT TT GG n = C at ⊢
  unfold Fn5 at h
  obtain ⟨found_1, h_2, h⟩ := bnd h
  refine st_asg (e2 := [some (.d (En.e (letters_0 : (List (Int × Str))))), some (.d (En.e (pause_0 : Int))), some (.own (List.map En.e (found_1 : (List Int)))), none, none, none, none]) (jo_som (jo_lst (v := ([] : (List Int))) ef_nil rfl) h_2) rfl rfl rfl ?_
  obtain ⟨last_3, h_4, h⟩ := bnd h
  refine st_asg (e2 := [some (.d (En.e (letters_0 : (List (Int × Str))))), some (.d (En.e (pause_0 : Int))), some (.own (List.map En.e (found_1 : (List Int)))), some (.dk (dkE (last_3 : (List (Str × Int))))), none, none, none]) (jk_som (jk_new (κ := Str) (β := Int)) h_4) rfl rfl rfl ?_
  obtain ⟨s_29, h_30, h⟩ := bnd h
  refine st_foldO (fun (s_6 : ((List Int) × (List (Str × Int)))) (e_ : Env) => ∃ (x_7 : Option D) (x_8 : Option D) (x_9 : Option D), e_ = [some (.d (En.e (letters_0 : (List (Int × Str))))), some (.d (En.e (pause_0 : Int))), some (.own (List.map En.e (s_6.1 : (List Int)))), some (.dk (dkE (s_6.2 : (List (Str × Int))))), (jd x_7), (jd x_8), (jd x_9)]) h_30 (ji_enum (l := (letters_0 : (List (Int × Str)))) (jd_var (v := (letters_0 : (List (Int × Str)))) rfl) rfl) ⟨none, none, none, rfl⟩ (fun _ _ _ => trivial) (fun a_5 s_6 e_ r_ _ hR h_19 => ?_) (fun e_ hR => ?_)
  · obtain ⟨x_7, x_8, x_9, rfl⟩ := hR
    show ∃ e2, bindT _ _ _ [some (.d (En.e (letters_0 : (List (Int × Str))))), some (.d (En.e (pause_0 : Int))), some (.own (List.map En.e (s_6.1 : (List Int)))), some (.dk (dkE (s_6.2 : (List (Str × Int))))), (jd x_7), (jd x_8), (jd x_9)] = some e2 ∧ _
    refine ⟨[some (.d (En.e (letters_0 : (List (Int × Str))))), some (.d (En.e (pause_0 : Int))), some (.own (List.map En.e (s_6.1 : (List Int)))), some (.dk (dkE (s_6.2 : (List (Str × Int))))), some (.d (En.e (a_5.1 : Int))), some (.d (En.e (a_5.2.1 : Int))), some (.d (En.e (a_5.2.2 : Str)))], rfl, ?_⟩
    obtain ⟨p_23, h_24, h_19⟩ := bnd h_19
    refine st_ifs (jc_orP (R := some (p_23, [some (.d (En.e (letters_0 : (List (Int × Str))))), some (.d (En.e (pause_0 : Int))), some (.own (List.map En.e (s_6.1 : (List Int)))), some (.dk (dkE (s_6.2 : (List (Str × Int))))), some (.d (En.e (a_5.1 : Int))), some (.d (En.e (a_5.2.1 : Int))), some (.d (En.e (a_5.2.2 : Str)))])) (jc_d (jd_dnin (l := (s_6.2 : (List (Str × Int)))) (jx_d (jd_var (v := (a_5.2.2 : Str)) rfl)) rfl)) (fun hp => by have h_20 := if_f h_24 hp; obtain ⟨x_21, h_22, h_20⟩ := bnd h_20; exact jc_som (jc_d (jd_ge (jx_d (jd_sub (jx_d (jd_var (v := (a_5.2.1 : Int)) rfl)) (jx_d (jd_dget (l := (s_6.2 : (List (Str × Int)))) rfl (jx_d (jd_var (v := (a_5.2.2 : Str)) rfl)) rfl h_22)))) (jx_d (jd_var (v := (pause_0 : Int)) rfl)))) h_20) (fun hp => by have hq := if_t h_24 hp; cases hq; rfl)) (fun hp => ?_) (fun hp => ?_)
    · replace h_19 := if_t h_19 hp
      obtain ⟨found_25, h_26, h_19⟩ := bnd h_19
      refine st_app (v := (a_5.1 : Int)) (l := (s_6.1 : (List Int))) (e2 := [some (.d (En.e (letters_0 : (List (Int × Str))))), some (.d (En.e (pause_0 : Int))), some (.own (List.map En.e (found_25 : (List Int)))), some (.dk (dkE (s_6.2 : (List (Str × Int))))), some (.d (En.e (a_5.1 : Int))), some (.d (En.e (a_5.2.1 : Int))), some (.d (En.e (a_5.2.2 : Str)))]) rfl (jf_d (jd_var (v := (a_5.1 : Int)) rfl)) rfl h_26 rfl ?_
      obtain ⟨last_27, h_28, h_19⟩ := bnd h_19
      refine st_dput (x := (a_5.2.1 : Int)) (l := (s_6.2 : (List (Str × Int)))) (e3 := [some (.d (En.e (letters_0 : (List (Int × Str))))), some (.d (En.e (pause_0 : Int))), some (.own (List.map En.e (found_25 : (List Int)))), some (.dk (dkE (last_27 : (List (Str × Int))))), some (.d (En.e (a_5.1 : Int))), some (.d (En.e (a_5.2.1 : Int))), some (.d (En.e (a_5.2.2 : Str)))]) (jf_d (jd_var (v := (a_5.2.1 : Int)) rfl)) rfl (jx_d (jd_var (v := (a_5.2.2 : Str)) rfl)) rfl h_28 rfl ?_
      refine ok_nilT ?_
      have hE_ := Option.some.inj h_19
      subst hE_
      exact ok_nil (show ∃ (x_7w : Option D) (x_8w : Option D) (x_9w : Option D), ([some (.d (En.e (letters_0 : (List (Int × Str))))), some (.d (En.e (pause_0 : Int))), some (.own (List.map En.e (found_25 : (List Int)))), some (.dk (dkE (last_27 : (List (Str × Int))))), some (.d (En.e (a_5.1 : Int))), some (.d (En.e (a_5.2.1 : Int))), some (.d (En.e (a_5.2.2 : Str)))] : Env) = [some (.d (En.e (letters_0 : (List (Int × Str))))), some (.d (En.e (pause_0 : Int))), some (.own (List.map En.e (((found_25, last_27) : ((List Int) × (List (Str × Int)))).1 : (List Int)))), some (.dk (dkE (((found_25, last_27) : ((List Int) × (List (Str × Int)))).2 : (List (Str × Int))))), (jd x_7w), (jd x_8w), (jd x_9w)] from ⟨(some (En.e (a_5.1 : Int))), (some (En.e (a_5.2.1 : Int))), (some (En.e (a_5.2.2 : Str))), rfl⟩)
    · replace h_19 := if_f h_19 hp
      refine ok_nilT ?_
      have hE_ := Option.some.inj h_19
      subst hE_
      exact ok_nil (show ∃ (x_7w : Option D) (x_8w : Option D) (x_9w : Option D), ([some (.d (En.e (letters_0 : (List (Int × Str))))), some (.d (En.e (pause_0 : Int))), some (.own (List.map En.e (s_6.1 : (List Int)))), some (.dk (dkE (s_6.2 : (List (Str × Int))))), some (.d (En.e (a_5.1 : Int))), some (.d (En.e (a_5.2.1 : Int))), some (.d (En.e (a_5.2.2 : Str)))] : Env) = [some (.d (En.e (letters_0 : (List (Int × Str))))), some (.d (En.e (pause_0 : Int))), some (.own (List.map En.e (((s_6.1, s_6.2) : ((List Int) × (List (Str × Int)))).1 : (List Int)))), some (.dk (dkE (((s_6.1, s_6.2) : ((List Int) × (List (Str × Int)))).2 : (List (Str × Int))))), (jd x_7w), (jd x_8w), (jd x_9w)] from ⟨(some (En.e (a_5.1 : Int))), (some (En.e (a_5.2.1 : Int))), (some (En.e (a_5.2.2 : Str))), rfl⟩)
  · obtain ⟨x_7, x_8, x_9, rfl⟩ := hR
    show OK (evSs _ _ _ [some (.d (En.e (letters_0 : (List (Int × Str))))), some (.d (En.e (pause_0 : Int))), some (.own (List.map En.e (s_29.1 : (List Int)))), some (.dk (dkE (s_29.2 : (List (Str × Int))))), (jd x_7), (jd x_8), (jd x_9)]) _
    have hE_ := Option.some.inj h
    subst hE_
    exact st_ret (ja_var rfl) (show endF [] [.d (En.e (letters_0 : (List (Int × Str)))), .d (En.e (pause_0 : Int))] (.rt (.ali 2) [some (.d (En.e (letters_0 : (List (Int × Str))))), some (.d (En.e (pause_0 : Int))), some (.own (List.map En.e (s_29.1 : (List Int)))), some (.dk (dkE (s_29.2 : (List (Str × Int))))), (jd x_7), (jd x_8), (jd x_9)]) = some (.own (List.map En.e (s_29.1 : (List Int))), [.d (En.e (letters_0 : (List (Int × Str)))), .d (En.e (pause_0 : Int))]) from (by first | rfl | simp [endF, outs, isSt]))
/-! pause_for -/
noncomputable def Fn6 (letters_0 : (List (Int × Str))) (most_0 : Int) : Option (Option Int) :=
  (some (([0] : (List Int)) : (List Int))).bind fun gaps_1 => (foldO (α := (Int × Str)) (σ := (List Int)) (fun a_3 s_4 => (catO s_4 ((List.map (fun x_14 => ((a_3.1 - x_14.1) + 1)) (List.filter (fun x_14 => ((decide (x_14.2 = a_3.2)) && (decide (x_14.1 ≤ a_3.1)))) letters_0)) : (List Int))).bind fun gaps_18 => some gaps_18) letters_0 gaps_1).bind fun s_20 => (setO' s_20).bind fun l_22 => (forT (α := Int) (σ := Unit) (ρ := (Option Int)) (fun a_24 s_25 => (Fn5 letters_0 a_24).bind fun answered_32 => (if (decide ((answered_32.length : Int) ≤ most_0)) then some (.rt (some a_24)) else some (.nx ()))) l_22 ()).bind fun r_34 => r_34.go (fun s_25 => some (none : (Option Int))) (fun v_ => some v_)
theorem w6 (n : Nat) (hn : 2 ≤ n) (letters_0 : (List (Int × Str))) (most_0 : Int) {r : (Option Int)} (h : Fn6 letters_0 most_0 = some r) : callT TT GG n 6 [.d (En.e (letters_0 : (List (Int × Str)))), .d (En.e (most_0 : Int))] = some (.d (En.e (r : (Option Int))), [.d (En.e (letters_0 : (List (Int × Str)))), .d (En.e (most_0 : Int))]) := by
  obtain ⟨n, rfl⟩ : ∃ k, n = k + 1 := ⟨n - 1, by omega⟩
  have c5 := fun a0_ a1_ r h => w5 n (by omega) a0_ a1_ (r := r) h
  refine call_py rfl rfl (by decide) ?_
  show OK (evSs ⟨callT TT GG n, ioT TT, GG⟩ _ b6 [some (.d (En.e (letters_0 : (List (Int × Str))))), some (.d (En.e (most_0 : Int))), none, none, none, none, none, none]) _
  generalize callT TT GG n = C at c5 ⊢
  unfold Fn6 at h
  obtain ⟨gaps_1, h_2, h⟩ := bnd h
  refine st_asg (e2 := [some (.d (En.e (letters_0 : (List (Int × Str))))), some (.d (En.e (most_0 : Int))), some (.own (List.map En.e (gaps_1 : (List Int)))), none, none, none, none, none]) (jo_som (jo_lst (v := ([0] : (List Int))) (ef_cons (jf_d (jd_con (v := (0 : Int)) rfl)) ef_nil) rfl) h_2) rfl rfl rfl ?_
  obtain ⟨s_20, h_21, h⟩ := bnd h
  refine st_foldO (fun (s_4 : (List Int)) (e_ : Env) => ∃ (x_5 : Option D) (x_6 : Option D), e_ = [some (.d (En.e (letters_0 : (List (Int × Str))))), some (.d (En.e (most_0 : Int))), some (.own (List.map En.e (s_4 : (List Int)))), (jd x_5), (jd x_6), none, none, none]) h_21 (ji_d (jd_var (v := (letters_0 : (List (Int × Str)))) rfl)) ⟨none, none, rfl⟩ (fun _ _ _ => trivial) (fun a_3 s_4 e_ r_ _ hR h_13 => ?_) (fun e_ hR => ?_)
  · obtain ⟨x_5, x_6, rfl⟩ := hR
    show ∃ e2, bindT _ _ _ [some (.d (En.e (letters_0 : (List (Int × Str))))), some (.d (En.e (most_0 : Int))), some (.own (List.map En.e (s_4 : (List Int)))), (jd x_5), (jd x_6), none, none, none] = some e2 ∧ _
    refine ⟨[some (.d (En.e (letters_0 : (List (Int × Str))))), some (.d (En.e (most_0 : Int))), some (.own (List.map En.e (s_4 : (List Int)))), some (.d (En.e (a_3.1 : Int))), some (.d (En.e (a_3.2 : Str))), none, none, none], rfl, ?_⟩
    obtain ⟨gaps_18, h_19, h_13⟩ := bnd h_13
    refine st_ext (v := (((List.map (fun x_14 => ((a_3.1 - x_14.1) + 1)) (List.filter (fun x_14 => ((decide (x_14.2 = a_3.2)) && (decide (x_14.1 ≤ a_3.1)))) letters_0)) : (List Int)) : (List Int))) (l := (s_4 : (List Int))) (e2 := [some (.d (En.e (letters_0 : (List (Int × Str))))), some (.d (En.e (most_0 : Int))), some (.own (List.map En.e (gaps_18 : (List Int)))), some (.d (En.e (a_3.1 : Int))), some (.d (En.e (a_3.2 : Str))), none, none, none]) rfl (jx_o (jo_lc (α := (Int × Str)) (β := Int) (l := letters_0) (fun x_14 => ((decide (x_14.2 = a_3.2)) && (decide (x_14.1 ≤ a_3.1)))) (fun x_14 => ((a_3.1 - x_14.1) + 1)) (ji_d (jd_var (v := (letters_0 : (List (Int × Str)))) rfl)) rfl trivial rfl (fun x_14 _ => ⟨[some (.d (En.e (letters_0 : (List (Int × Str))))), some (.d (En.e (most_0 : Int))), some (.own (List.map En.e (s_4 : (List Int)))), some (.d (En.e (a_3.1 : Int))), some (.d (En.e (a_3.2 : Str))), none, some (.d (En.e (x_14.1 : Int))), some (.d (En.e (x_14.2 : Str)))], rfl, (jc_and (jc_d (jd_eq (by decide) (jx_d (jd_var (v := (x_14.2 : Str)) rfl)) (jx_d (jd_var (v := (a_3.2 : Str)) rfl)))) (jc_d (jd_le (jx_d (jd_var (v := (x_14.1 : Int)) rfl)) (jx_d (jd_var (v := (a_3.1 : Int)) rfl))))), rfl, (jf_d (jd_add (jx_d (jd_sub (jx_d (jd_var (v := (a_3.1 : Int)) rfl)) (jx_d (jd_var (v := (x_14.1 : Int)) rfl)))) (jx_d (jd_con (v := (1 : Int)) rfl))))⟩))) rfl h_19 rfl ?_
    have hE_ := Option.some.inj h_13
    subst hE_
    exact ok_nil (show ∃ (x_5w : Option D) (x_6w : Option D), ([some (.d (En.e (letters_0 : (List (Int × Str))))), some (.d (En.e (most_0 : Int))), some (.own (List.map En.e (gaps_18 : (List Int)))), some (.d (En.e (a_3.1 : Int))), some (.d (En.e (a_3.2 : Str))), none, none, none] : Env) = [some (.d (En.e (letters_0 : (List (Int × Str))))), some (.d (En.e (most_0 : Int))), some (.own (List.map En.e ((gaps_18 : (List Int)) : (List Int)))), (jd x_5w), (jd x_6w), none, none, none] from ⟨(some (En.e (a_3.1 : Int))), (some (En.e (a_3.2 : Str))), rfl⟩)
  · obtain ⟨x_5, x_6, rfl⟩ := hR
    show OK (evSs _ _ _ [some (.d (En.e (letters_0 : (List (Int × Str))))), some (.d (En.e (most_0 : Int))), some (.own (List.map En.e (s_20 : (List Int)))), (jd x_5), (jd x_6), none, none, none]) _
    obtain ⟨l_22, h_23, h⟩ := bnd h
    obtain ⟨r_34, h_35, h⟩ := bnd h
    refine st_forT (fun (s_25 : Unit) (e_ : Env) => ∃ (x_26 : Option D) (x_27 : Option D) (x_28 : Option D), e_ = [some (.d (En.e (letters_0 : (List (Int × Str))))), some (.d (En.e (most_0 : Int))), some (.own (List.map En.e (s_20 : (List Int)))), (jd x_26), (jd x_27), (jd x_28), none, none]) (fun (v_ : (Option Int)) r_ => endF [] [.d (En.e (letters_0 : (List (Int × Str)))), .d (En.e (most_0 : Int))] r_ = some (.d (En.e (v_ : (Option Int))), [.d (En.e (letters_0 : (List (Int × Str)))), .d (En.e (most_0 : Int))])) h_35 (ji_o (jo_sset (jx_own (v := (s_20 : (List Int))) rfl rfl) h_23)) ⟨x_5, x_6, none, rfl⟩ (fun _ _ _ => trivial) (fun a_24 s_25 e_ r_ _ hR h_31 => ?_) (fun s_25 e_ hr hR => ?_) (fun v_ r_ e_ hr hF => ?_)
    · obtain ⟨x_26, x_27, x_28, rfl⟩ := hR
      show ∃ e2, bindT _ _ _ [some (.d (En.e (letters_0 : (List (Int × Str))))), some (.d (En.e (most_0 : Int))), some (.own (List.map En.e (s_20 : (List Int)))), (jd x_26), (jd x_27), (jd x_28), none, none] = some e2 ∧ _
      refine ⟨[some (.d (En.e (letters_0 : (List (Int × Str))))), some (.d (En.e (most_0 : Int))), some (.own (List.map En.e (s_20 : (List Int)))), (jd x_26), (jd x_27), some (.d (En.e (a_24 : Int))), none, none], rfl, ?_⟩
      obtain ⟨answered_32, h_33, h_31⟩ := bnd h_31
      refine st_ifs (jc_d (jd_le (jx_d (jd_len (jx_o (jw_callP (rs := [.v (.d (En.e (letters_0 : (List (Int × Str))))), .v (.d (En.e (a_24 : Int)))]) (ws := [.d (En.e (letters_0 : (List (Int × Str)))), .d (En.e (a_24 : Int))]) (ws' := [.d (En.e (letters_0 : (List (Int × Str)))), .d (En.e (a_24 : Int))]) (jl_cons (jd_var (v := (letters_0 : (List (Int × Str)))) rfl) (jl_cons (jd_var (v := (a_24 : Int)) rfl) jl_nil)) rfl rfl (c5 _ _ _ h_33))))) (jx_d (jd_var (v := (most_0 : Int)) rfl)))) (fun hp => ?_) (fun hp => ?_)
      · replace h_31 := if_t h_31 hp
        have hE_ := Option.some.inj h_31
        subst hE_
        exact st_ret (jd_cast (jd_var (v := (a_24 : Int)) rfl) (w := (some a_24 : (Option Int))) rfl) (show endF [] [.d (En.e (letters_0 : (List (Int × Str)))), .d (En.e (most_0 : Int))] (.rt (.v (.d (En.e ((some a_24) : (Option Int))))) [some (.d (En.e (letters_0 : (List (Int × Str))))), some (.d (En.e (most_0 : Int))), some (.own (List.map En.e (s_20 : (List Int)))), (jd x_26), (jd x_27), some (.d (En.e (a_24 : Int))), none, none]) = some (.d (En.e ((some a_24) : (Option Int))), [.d (En.e (letters_0 : (List (Int × Str)))), .d (En.e (most_0 : Int))]) from (by first | rfl | simp [endF, outs, isSt]))
      · replace h_31 := if_f h_31 hp
        refine ok_nilT ?_
        have hE_ := Option.some.inj h_31
        subst hE_
        exact ok_nil (show ∃ (x_26w : Option D) (x_27w : Option D) (x_28w : Option D), ([some (.d (En.e (letters_0 : (List (Int × Str))))), some (.d (En.e (most_0 : Int))), some (.own (List.map En.e (s_20 : (List Int)))), (jd x_26), (jd x_27), some (.d (En.e (a_24 : Int))), none, none] : Env) = [some (.d (En.e (letters_0 : (List (Int × Str))))), some (.d (En.e (most_0 : Int))), some (.own (List.map En.e (s_20 : (List Int)))), (jd x_26w), (jd x_27w), (jd x_28w), none, none] from ⟨x_26, x_27, (some (En.e (a_24 : Int))), rfl⟩)
    · subst hr
      replace h := goN h
      obtain ⟨x_26, x_27, x_28, rfl⟩ := hR
      show OK (evSs _ _ _ [some (.d (En.e (letters_0 : (List (Int × Str))))), some (.d (En.e (most_0 : Int))), some (.own (List.map En.e (s_20 : (List Int)))), (jd x_26), (jd x_27), (jd x_28), none, none]) _
      have hE_ := Option.some.inj h
      subst hE_
      exact st_ret (jd_con (v := (none : (Option Int))) rfl) (show endF [] [.d (En.e (letters_0 : (List (Int × Str)))), .d (En.e (most_0 : Int))] (.rt (.v (.d (En.e ((none : (Option Int)) : (Option Int))))) [some (.d (En.e (letters_0 : (List (Int × Str))))), some (.d (En.e (most_0 : Int))), some (.own (List.map En.e (s_20 : (List Int)))), (jd x_26), (jd x_27), (jd x_28), none, none]) = some (.d (En.e ((none : (Option Int)) : (Option Int))), [.d (En.e (letters_0 : (List (Int × Str)))), .d (En.e (most_0 : Int))]) from (by first | rfl | simp [endF, outs, isSt]))
    · subst hr
      replace h := goR h
      cases h
      exact hF
/-! _law_answered -/
noncomputable def Fn9 (letters_0 : (List (Int × Str))) (pause_0 : Int) : Option (List Int) :=
  (some (([] : (List Int)) : (List Int))).bind fun found_1 => (rngO 0 (letters_0.length : Int)).bind fun r_3 => (foldO (α := Int) (σ := (List Int)) (fun a_5 s_6 => (atO letters_0 a_5).bind fun x_27 => (lcO (α := Int) (β := Int) (fun x_29 => (atO letters_0 x_29).bind fun x_31 => (if (decide (x_31.2 = x_27.2)) then (atO letters_0 x_29).bind fun x_34 => some (decide ((x_27.1 - x_34.1) < pause_0)) else some false).bind fun p_36 => some p_36) (fun x_29 => some x_29) s_6).bind fun l_39 => (if (decide ((l_39.length : Int) = 0)) then (appO s_6 a_5).bind fun found_41 => some found_41 else some s_6)) r_3 found_1).bind fun s_43 => some s_43
theorem w9 (n : Nat) (hn : 1 ≤ n) (letters_0 : (List (Int × Str))) (pause_0 : Int) {r : (List Int)} (h : Fn9 letters_0 pause_0 = some r) : callT TT GG n 9 [.d (En.e (letters_0 : (List (Int × Str)))), .d (En.e (pause_0 : Int))] = some (.own (List.map En.e (r : (List Int))), [.d (En.e (letters_0 : (List (Int × Str)))), .d (En.e (pause_0 : Int))]) := by
  obtain ⟨n, rfl⟩ : ∃ k, n = k + 1 := ⟨n - 1, by omega⟩
  refine call_py rfl rfl (by decide) ?_
  show OK (evSs ⟨callT TT GG n, ioT TT, GG⟩ _ b9 [some (.d (En.e (letters_0 : (List (Int × Str))))), some (.d (En.e (pause_0 : Int))), none, none, none, none, none]) _
  generalize callT TT GG n = C at ⊢
  unfold Fn9 at h
  obtain ⟨found_1, h_2, h⟩ := bnd h
  refine st_asg (e2 := [some (.d (En.e (letters_0 : (List (Int × Str))))), some (.d (En.e (pause_0 : Int))), some (.own (List.map En.e (found_1 : (List Int)))), none, none, none, none]) (jo_som (jo_lst (v := ([] : (List Int))) ef_nil rfl) h_2) rfl rfl rfl ?_
  obtain ⟨r_3, h_4, h⟩ := bnd h
  obtain ⟨s_43, h_44, h⟩ := bnd h
  refine st_foldO (fun (s_6 : (List Int)) (e_ : Env) => ∃ (x_7 : Option D) (x_8 : Option D) (x_9 : Option D), e_ = [some (.d (En.e (letters_0 : (List (Int × Str))))), some (.d (En.e (pause_0 : Int))), some (.own (List.map En.e (s_6 : (List Int)))), (jd x_7), (jd x_8), (jd x_9), none]) h_44 (ji_rng1 (jx_d (jd_len (jx_d (jd_var (v := (letters_0 : (List (Int × Str)))) rfl)))) h_4) ⟨none, none, none, rfl⟩ (fun _ _ _ => trivial) (fun a_5 s_6 e_ r_ _ hR h_26 => ?_) (fun e_ hR => ?_)
  · obtain ⟨x_7, x_8, x_9, rfl⟩ := hR
    show ∃ e2, bindT _ _ _ [some (.d (En.e (letters_0 : (List (Int × Str))))), some (.d (En.e (pause_0 : Int))), some (.own (List.map En.e (s_6 : (List Int)))), (jd x_7), (jd x_8), (jd x_9), none] = some e2 ∧ _
    refine ⟨[some (.d (En.e (letters_0 : (List (Int × Str))))), some (.d (En.e (pause_0 : Int))), some (.own (List.map En.e (s_6 : (List Int)))), some (.d (En.e (a_5 : Int))), (jd x_8), (jd x_9), none], rfl, ?_⟩
    obtain ⟨x_27, h_28, h_26⟩ := bnd h_26
    refine st_asgT (v := (x_27 : (Int × Str))) (e2 := [some (.d (En.e (letters_0 : (List (Int × Str))))), some (.d (En.e (pause_0 : Int))), some (.own (List.map En.e (s_6 : (List Int)))), some (.d (En.e (a_5 : Int))), some (.d (En.e (x_27.1 : Int))), some (.d (En.e (x_27.2 : Str))), none]) (jf_d (jd_at (jx_d (jd_var (v := (letters_0 : (List (Int × Str)))) rfl)) (jx_d (jd_var (v := (a_5 : Int)) rfl)) h_28)) rfl ?_
    obtain ⟨l_39, h_40, h_26⟩ := bnd h_26
    refine st_ifs (jc_d (jd_eq (by decide) (jx_d (jd_len (jx_o (jo_lcO (α := Int) (β := Int) (ji_a (l := (s_6 : (List Int))) rfl) rfl (.inl rfl) rfl h_40 (fun x_29 _ => ⟨[some (.d (En.e (letters_0 : (List (Int × Str))))), some (.d (En.e (pause_0 : Int))), some (.own (List.map En.e (s_6 : (List Int)))), some (.d (En.e (a_5 : Int))), some (.d (En.e (x_27.1 : Int))), some (.d (En.e (x_27.2 : Str))), some (.d (En.e (x_29 : Int)))], rfl, rfl, (fun q_ h_30 => by obtain ⟨x_31, h_32, h_30⟩ := bnd h_30; obtain ⟨p_36, h_37, h_30⟩ := bnd h_30; exact jc_som (jc_andP (R := some (p_36, [some (.d (En.e (letters_0 : (List (Int × Str))))), some (.d (En.e (pause_0 : Int))), some (.own (List.map En.e (s_6 : (List Int)))), some (.d (En.e (a_5 : Int))), some (.d (En.e (x_27.1 : Int))), some (.d (En.e (x_27.2 : Str))), some (.d (En.e (x_29 : Int)))])) (jc_d (jd_eq (by decide) (jx_d (jd_idx (v := (x_31.2 : Str)) (jx_d (jd_at (jx_d (jd_var (v := (letters_0 : (List (Int × Str)))) rfl)) (jx_d (jd_var (v := (x_29 : Int)) rfl)) h_32)) (jx_d (jd_con (v := (1 : Int)) rfl)) rfl)) (jx_d (jd_var (v := (x_27.2 : Str)) rfl)))) (fun hp => by have h_33 := if_t h_37 hp; obtain ⟨x_34, h_35, h_33⟩ := bnd h_33; exact jc_som (jc_d (jd_lt (jx_d (jd_sub (jx_d (jd_var (v := (x_27.1 : Int)) rfl)) (jx_d (jd_idx (v := (x_34.1 : Int)) (jx_d (jd_at (jx_d (jd_var (v := (letters_0 : (List (Int × Str)))) rfl)) (jx_d (jd_var (v := (x_29 : Int)) rfl)) h_35)) (jx_d (jd_con (v := (0 : Int)) rfl)) rfl)))) (jx_d (jd_var (v := (pause_0 : Int)) rfl)))) h_33) (fun hp => by have hq := if_f h_37 hp; cases hq; rfl)) h_30), (fun y_ h_38 => by exact jf_som (jf_d (jd_var (v := (x_29 : Int)) rfl)) h_38)⟩))))) (jx_d (jd_con (v := (0 : Int)) rfl)))) (fun hp => ?_) (fun hp => ?_)
    · replace h_26 := if_t h_26 hp
      obtain ⟨found_41, h_42, h_26⟩ := bnd h_26
      refine st_app (v := (a_5 : Int)) (l := (s_6 : (List Int))) (e2 := [some (.d (En.e (letters_0 : (List (Int × Str))))), some (.d (En.e (pause_0 : Int))), some (.own (List.map En.e (found_41 : (List Int)))), some (.d (En.e (a_5 : Int))), some (.d (En.e (x_27.1 : Int))), some (.d (En.e (x_27.2 : Str))), none]) rfl (jf_d (jd_var (v := (a_5 : Int)) rfl)) rfl h_42 rfl ?_
      refine ok_nilT ?_
      have hE_ := Option.some.inj h_26
      subst hE_
      exact ok_nil (show ∃ (x_7w : Option D) (x_8w : Option D) (x_9w : Option D), ([some (.d (En.e (letters_0 : (List (Int × Str))))), some (.d (En.e (pause_0 : Int))), some (.own (List.map En.e (found_41 : (List Int)))), some (.d (En.e (a_5 : Int))), some (.d (En.e (x_27.1 : Int))), some (.d (En.e (x_27.2 : Str))), none] : Env) = [some (.d (En.e (letters_0 : (List (Int × Str))))), some (.d (En.e (pause_0 : Int))), some (.own (List.map En.e ((found_41 : (List Int)) : (List Int)))), (jd x_7w), (jd x_8w), (jd x_9w), none] from ⟨(some (En.e (a_5 : Int))), (some (En.e (x_27.1 : Int))), (some (En.e (x_27.2 : Str))), rfl⟩)
    · replace h_26 := if_f h_26 hp
      refine ok_nilT ?_
      have hE_ := Option.some.inj h_26
      subst hE_
      exact ok_nil (show ∃ (x_7w : Option D) (x_8w : Option D) (x_9w : Option D), ([some (.d (En.e (letters_0 : (List (Int × Str))))), some (.d (En.e (pause_0 : Int))), some (.own (List.map En.e (s_6 : (List Int)))), some (.d (En.e (a_5 : Int))), some (.d (En.e (x_27.1 : Int))), some (.d (En.e (x_27.2 : Str))), none] : Env) = [some (.d (En.e (letters_0 : (List (Int × Str))))), some (.d (En.e (pause_0 : Int))), some (.own (List.map En.e ((s_6 : (List Int)) : (List Int)))), (jd x_7w), (jd x_8w), (jd x_9w), none] from ⟨(some (En.e (a_5 : Int))), (some (En.e (x_27.1 : Int))), (some (En.e (x_27.2 : Str))), rfl⟩)
  · obtain ⟨x_7, x_8, x_9, rfl⟩ := hR
    show OK (evSs _ _ _ [some (.d (En.e (letters_0 : (List (Int × Str))))), some (.d (En.e (pause_0 : Int))), some (.own (List.map En.e (s_43 : (List Int)))), (jd x_7), (jd x_8), (jd x_9), none]) _
    have hE_ := Option.some.inj h
    subst hE_
    exact st_ret (ja_var rfl) (show endF [] [.d (En.e (letters_0 : (List (Int × Str)))), .d (En.e (pause_0 : Int))] (.rt (.ali 2) [some (.d (En.e (letters_0 : (List (Int × Str))))), some (.d (En.e (pause_0 : Int))), some (.own (List.map En.e (s_43 : (List Int)))), (jd x_7), (jd x_8), (jd x_9), none]) = some (.own (List.map En.e (s_43 : (List Int))), [.d (En.e (letters_0 : (List (Int × Str)))), .d (En.e (pause_0 : Int))]) from (by first | rfl | simp [endF, outs, isSt]))
/-! _law_talk -/
noncomputable def Fn10 (pauses_0 : (Int × Int)) (delays_0 : (Int × Int)) (start_0 : Int) (most_0 : Int) : Option (H2 (List (Int × Int)) Bool) :=
  (some (([(none : (Option Int)), (none : (Option Int))] : (List (Option Int))) : (List (Option Int)))).bind fun last_1 => (some (0 : Int)).bind fun side_3 => (some (([((start_0, 0) : (Int × Int))] : (List (Int × Int))) : (List (Int × Int)))).bind fun rows_5 => (whT (σ := ((List (Option Int)) × Int × Int × (List (Int × Int)))) (ρ := (H2 (List (Int × Int)) Bool)) (fun s_7 => some (decide ((s_7.2.2.2.length : Int) < most_0))) (fun s_7 => (idxD (En.e (delays_0 : (Int × Int))) (En.e (s_7.2.2.1 : Int))).bind fun x_35 => (decO Int x_35).bind fun v_37 => (some ((s_7.2.1 + v_37) : Int)).bind fun day_39 => (some ((1 - s_7.2.2.1) : Int)).bind fun side_41 => (atO s_7.1 side_41).bind fun x_43 => (if x_43.isSome then (atO s_7.1 side_41).bind fun x_46 => (x_46).bind fun v_48 => (idxD (En.e (pauses_0 : (Int × Int))) (En.e (side_41 : Int))).bind fun x_50 => (decO Int x_50).bind fun v_52 => some (decide ((day_39 - v_48) < v_52)) else some false).bind fun p_54 => (if p_54 then some (.rt (H2.mk s_7.2.2.2 true : (H2 (List (Int × Int)) Bool))) else (setO s_7.1 side_41 (some day_39)).bind fun last_56 => (appO s_7.2.2.2 ((day_39, side_41) : (Int × Int))).bind fun rows_58 => some (.nx (last_56, day_39, side_41, rows_58)))) (last_1, start_0, side_3, rows_5)).bind fun r_60 => r_60.go (fun s_7 => some (H2.mk s_7.2.2.2 false : (H2 (List (Int × Int)) Bool))) (fun v_ => some v_)
theorem w10 (n : Nat) (hn : 1 ≤ n) (pauses_0 : (Int × Int)) (delays_0 : (Int × Int)) (start_0 : Int) (most_0 : Int) {r : (H2 (List (Int × Int)) Bool)} (h : Fn10 pauses_0 delays_0 start_0 most_0 = some r) : callT TT GG n 10 [.d (En.e (pauses_0 : (Int × Int))), .d (En.e (delays_0 : (Int × Int))), .d (En.e (start_0 : Int)), .d (En.e (most_0 : Int))] = some (.d (En.e (r : (H2 (List (Int × Int)) Bool))), [.d (En.e (pauses_0 : (Int × Int))), .d (En.e (delays_0 : (Int × Int))), .d (En.e (start_0 : Int)), .d (En.e (most_0 : Int))]) := by
  obtain ⟨n, rfl⟩ : ∃ k, n = k + 1 := ⟨n - 1, by omega⟩
  refine call_py rfl rfl (by decide) ?_
  show OK (evSs ⟨callT TT GG n, ioT TT, GG⟩ _ b10 [some (.d (En.e (pauses_0 : (Int × Int)))), some (.d (En.e (delays_0 : (Int × Int)))), some (.d (En.e (start_0 : Int))), some (.d (En.e (most_0 : Int))), none, none, none, none]) _
  generalize callT TT GG n = C at ⊢
  unfold Fn10 at h
  obtain ⟨last_1, h_2, h⟩ := bnd h
  refine st_asg (e2 := [some (.d (En.e (pauses_0 : (Int × Int)))), some (.d (En.e (delays_0 : (Int × Int)))), some (.d (En.e (start_0 : Int))), some (.d (En.e (most_0 : Int))), some (.own (List.map En.e (last_1 : (List (Option Int))))), none, none, none]) (jo_som (jo_lst (v := ([(none : (Option Int)), (none : (Option Int))] : (List (Option Int)))) (ef_cons (jf_d (jd_con (v := (none : (Option Int))) rfl)) (ef_cons (jf_d (jd_con (v := (none : (Option Int))) rfl)) ef_nil)) rfl) h_2) rfl rfl rfl ?_
  refine st_asg (e2 := [some (.d (En.e (pauses_0 : (Int × Int)))), some (.d (En.e (delays_0 : (Int × Int)))), some (.d (En.e (start_0 : Int))), some (.d (En.e (most_0 : Int))), some (.own (List.map En.e (last_1 : (List (Option Int))))), some (.d (En.e (start_0 : Int))), none, none]) (jd_var (v := (start_0 : Int)) rfl) rfl rfl rfl ?_
  obtain ⟨side_3, h_4, h⟩ := bnd h
  refine st_asg (e2 := [some (.d (En.e (pauses_0 : (Int × Int)))), some (.d (En.e (delays_0 : (Int × Int)))), some (.d (En.e (start_0 : Int))), some (.d (En.e (most_0 : Int))), some (.own (List.map En.e (last_1 : (List (Option Int))))), some (.d (En.e (start_0 : Int))), some (.d (En.e (side_3 : Int))), none]) (jd_som (jd_con (v := (0 : Int)) rfl) h_4) rfl rfl rfl ?_
  obtain ⟨rows_5, h_6, h⟩ := bnd h
  refine st_asg (e2 := [some (.d (En.e (pauses_0 : (Int × Int)))), some (.d (En.e (delays_0 : (Int × Int)))), some (.d (En.e (start_0 : Int))), some (.d (En.e (most_0 : Int))), some (.own (List.map En.e (last_1 : (List (Option Int))))), some (.d (En.e (start_0 : Int))), some (.d (En.e (side_3 : Int))), some (.own (List.map En.e (rows_5 : (List (Int × Int)))))]) (jo_som (jo_lst (v := ([((start_0, 0) : (Int × Int))] : (List (Int × Int)))) (ef_cons (jf_d (jd_tup (v := ((start_0, 0) : (Int × Int))) (ef_cons (jf_d (jd_var (v := (start_0 : Int)) rfl)) (ef_cons (jf_d (jd_con (v := (0 : Int)) rfl)) ef_nil)) rfl)) ef_nil) rfl) h_6) rfl rfl rfl ?_
  obtain ⟨r_60, h_61, h⟩ := bnd h
  refine st_whT (fun (s_7 : ((List (Option Int)) × Int × Int × (List (Int × Int)))) (e_ : Env) => e_ = [some (.d (En.e (pauses_0 : (Int × Int)))), some (.d (En.e (delays_0 : (Int × Int)))), some (.d (En.e (start_0 : Int))), some (.d (En.e (most_0 : Int))), some (.own (List.map En.e (s_7.1 : (List (Option Int))))), some (.d (En.e (s_7.2.1 : Int))), some (.d (En.e (s_7.2.2.1 : Int))), some (.own (List.map En.e (s_7.2.2.2 : (List (Int × Int)))))]) (fun (v_ : (H2 (List (Int × Int)) Bool)) r_ => endF [] [.d (En.e (pauses_0 : (Int × Int))), .d (En.e (delays_0 : (Int × Int))), .d (En.e (start_0 : Int)), .d (En.e (most_0 : Int))] r_ = some (.d (En.e (v_ : (H2 (List (Int × Int)) Bool))), [.d (En.e (pauses_0 : (Int × Int))), .d (En.e (delays_0 : (Int × Int))), .d (En.e (start_0 : Int)), .d (En.e (most_0 : Int))])) h_61 rfl (fun s_7 e_ p_ hR h_33 => ?_) (fun s_7 e_ r_ hR h_34 => ?_) (fun s_7 e_ hr hR => ?_) (fun v_ r_ e_ hr hF => ?_)
  · obtain rfl := hR
    show ∃ e1, JC _ [some (.d (En.e (pauses_0 : (Int × Int)))), some (.d (En.e (delays_0 : (Int × Int)))), some (.d (En.e (start_0 : Int))), some (.d (En.e (most_0 : Int))), some (.own (List.map En.e (s_7.1 : (List (Option Int))))), some (.d (En.e (s_7.2.1 : Int))), some (.d (En.e (s_7.2.2.1 : Int))), some (.own (List.map En.e (s_7.2.2.2 : (List (Int × Int)))))] _ e1 _ ∧ _
    exact ⟨_, jc_som (jc_d (jd_lt (jx_d (jd_len (jx_own (v := (s_7.2.2.2 : (List (Int × Int)))) rfl rfl))) (jx_d (jd_var (v := (most_0 : Int)) rfl)))) h_33, rfl⟩
  · obtain rfl := hR
    show OK (evSs _ _ _ [some (.d (En.e (pauses_0 : (Int × Int)))), some (.d (En.e (delays_0 : (Int × Int)))), some (.d (En.e (start_0 : Int))), some (.d (En.e (most_0 : Int))), some (.own (List.map En.e (s_7.1 : (List (Option Int))))), some (.d (En.e (s_7.2.1 : Int))), some (.d (En.e (s_7.2.2.1 : Int))), some (.own (List.map En.e (s_7.2.2.2 : (List (Int × Int)))))]) _
    obtain ⟨x_35, h_36, h_34⟩ := bnd h_34
    obtain ⟨v_37, h_38, h_34⟩ := bnd h_34
    obtain ⟨day_39, h_40, h_34⟩ := bnd h_34
    refine st_asg (e2 := [some (.d (En.e (pauses_0 : (Int × Int)))), some (.d (En.e (delays_0 : (Int × Int)))), some (.d (En.e (start_0 : Int))), some (.d (En.e (most_0 : Int))), some (.own (List.map En.e (s_7.1 : (List (Option Int))))), some (.d (En.e (day_39 : Int))), some (.d (En.e (s_7.2.2.1 : Int))), some (.own (List.map En.e (s_7.2.2.2 : (List (Int × Int)))))]) (jd_som (jd_add (jx_d (jd_var (v := (s_7.2.1 : Int)) rfl)) (jx_d (jd_dec (jd_idx (v := (x_35 : D)) (jx_d (jd_var (v := (delays_0 : (Int × Int))) rfl)) (jx_d (jd_var (v := (s_7.2.2.1 : Int)) rfl)) h_36) h_38))) h_40) rfl rfl rfl ?_
    obtain ⟨side_41, h_42, h_34⟩ := bnd h_34
    refine st_asg (e2 := [some (.d (En.e (pauses_0 : (Int × Int)))), some (.d (En.e (delays_0 : (Int × Int)))), some (.d (En.e (start_0 : Int))), some (.d (En.e (most_0 : Int))), some (.own (List.map En.e (s_7.1 : (List (Option Int))))), some (.d (En.e (day_39 : Int))), some (.d (En.e (side_41 : Int))), some (.own (List.map En.e (s_7.2.2.2 : (List (Int × Int)))))]) (jd_som (jd_sub (jx_d (jd_con (v := (1 : Int)) rfl)) (jx_d (jd_var (v := (s_7.2.2.1 : Int)) rfl))) h_42) rfl rfl rfl ?_
    obtain ⟨x_43, h_44, h_34⟩ := bnd h_34
    obtain ⟨p_54, h_55, h_34⟩ := bnd h_34
    refine st_ifs (jc_andP (R := some (p_54, [some (.d (En.e (pauses_0 : (Int × Int)))), some (.d (En.e (delays_0 : (Int × Int)))), some (.d (En.e (start_0 : Int))), some (.d (En.e (most_0 : Int))), some (.own (List.map En.e (s_7.1 : (List (Option Int))))), some (.d (En.e (day_39 : Int))), some (.d (En.e (side_41 : Int))), some (.own (List.map En.e (s_7.2.2.2 : (List (Int × Int)))))])) (jc_d (jd_notN (jx_d (jd_at (jx_own (v := (s_7.1 : (List (Option Int)))) rfl rfl) (jx_d (jd_var (v := (side_41 : Int)) rfl)) h_44)) ev_con)) (fun hp => by have h_45 := if_t h_55 hp; obtain ⟨x_46, h_47, h_45⟩ := bnd h_45; obtain ⟨v_48, h_49, h_45⟩ := bnd h_45; obtain ⟨x_50, h_51, h_45⟩ := bnd h_45; obtain ⟨v_52, h_53, h_45⟩ := bnd h_45; exact jc_som (jc_d (jd_lt (jx_d (jd_sub (jx_d (jd_var (v := (day_39 : Int)) rfl)) (jx_d (jd_cast (jd_at (jx_own (v := (s_7.1 : (List (Option Int)))) rfl rfl) (jx_d (jd_var (v := (side_41 : Int)) rfl)) h_47) (w := (v_48 : Int)) (congrArg En.e h_49))))) (jx_d (jd_dec (jd_idx (v := (x_50 : D)) (jx_d (jd_var (v := (pauses_0 : (Int × Int))) rfl)) (jx_d (jd_var (v := (side_41 : Int)) rfl)) h_51) h_53)))) h_45) (fun hp => by have hq := if_f h_55 hp; cases hq; rfl)) (fun hp => ?_) (fun hp => ?_)
    · replace h_34 := if_t h_34 hp
      have hE_ := Option.some.inj h_34
      subst hE_
      exact st_ret (jd_fz (jf_lst (v := (H2.mk s_7.2.2.2 true : (H2 (List (Int × Int)) Bool))) (ef_cons (jf_a (v := (s_7.2.2.2 : (List (Int × Int)))) rfl rfl) (ef_cons (jf_d (jd_con (v := true) rfl)) ef_nil)) rfl)) (show endF [] [.d (En.e (pauses_0 : (Int × Int))), .d (En.e (delays_0 : (Int × Int))), .d (En.e (start_0 : Int)), .d (En.e (most_0 : Int))] (.rt (.v (.d (En.e ((H2.mk s_7.2.2.2 true : (H2 (List (Int × Int)) Bool)) : (H2 (List (Int × Int)) Bool))))) [some (.d (En.e (pauses_0 : (Int × Int)))), some (.d (En.e (delays_0 : (Int × Int)))), some (.d (En.e (start_0 : Int))), some (.d (En.e (most_0 : Int))), some (.own (List.map En.e (s_7.1 : (List (Option Int))))), some (.d (En.e (day_39 : Int))), some (.d (En.e (side_41 : Int))), some (.d (En.e (s_7.2.2.2 : (List (Int × Int)))))]) = some (.d (En.e ((H2.mk s_7.2.2.2 true : (H2 (List (Int × Int)) Bool)) : (H2 (List (Int × Int)) Bool))), [.d (En.e (pauses_0 : (Int × Int))), .d (En.e (delays_0 : (Int × Int))), .d (En.e (start_0 : Int)), .d (En.e (most_0 : Int))]) from (by first | rfl | simp [endF, outs, isSt]))
    · replace h_34 := if_f h_34 hp
      refine ok_nilT ?_
      obtain ⟨last_56, h_57, h_34⟩ := bnd h_34
      refine st_seti (v := ((some day_39) : (Option Int))) (l := (s_7.1 : (List (Option Int)))) (e3 := [some (.d (En.e (pauses_0 : (Int × Int)))), some (.d (En.e (delays_0 : (Int × Int)))), some (.d (En.e (start_0 : Int))), some (.d (En.e (most_0 : Int))), some (.own (List.map En.e (last_56 : (List (Option Int))))), some (.d (En.e (day_39 : Int))), some (.d (En.e (side_41 : Int))), some (.own (List.map En.e (s_7.2.2.2 : (List (Int × Int)))))]) (jf_d (jd_cast (jd_var (v := (day_39 : Int)) rfl) (w := (some day_39 : (Option Int))) rfl)) rfl (jx_d (jd_var (v := (side_41 : Int)) rfl)) rfl h_57 rfl ?_
      obtain ⟨rows_58, h_59, h_34⟩ := bnd h_34
      refine st_app (v := (((day_39, side_41) : (Int × Int)) : (Int × Int))) (l := (s_7.2.2.2 : (List (Int × Int)))) (e2 := [some (.d (En.e (pauses_0 : (Int × Int)))), some (.d (En.e (delays_0 : (Int × Int)))), some (.d (En.e (start_0 : Int))), some (.d (En.e (most_0 : Int))), some (.own (List.map En.e (last_56 : (List (Option Int))))), some (.d (En.e (day_39 : Int))), some (.d (En.e (side_41 : Int))), some (.own (List.map En.e (rows_58 : (List (Int × Int)))))]) rfl (jf_d (jd_tup (v := ((day_39, side_41) : (Int × Int))) (ef_cons (jf_d (jd_var (v := (day_39 : Int)) rfl)) (ef_cons (jf_d (jd_var (v := (side_41 : Int)) rfl)) ef_nil)) rfl)) rfl h_59 rfl ?_
      have hE_ := Option.some.inj h_34
      subst hE_
      exact ok_nil (show ([some (.d (En.e (pauses_0 : (Int × Int)))), some (.d (En.e (delays_0 : (Int × Int)))), some (.d (En.e (start_0 : Int))), some (.d (En.e (most_0 : Int))), some (.own (List.map En.e (last_56 : (List (Option Int))))), some (.d (En.e (day_39 : Int))), some (.d (En.e (side_41 : Int))), some (.own (List.map En.e (rows_58 : (List (Int × Int)))))] : Env) = [some (.d (En.e (pauses_0 : (Int × Int)))), some (.d (En.e (delays_0 : (Int × Int)))), some (.d (En.e (start_0 : Int))), some (.d (En.e (most_0 : Int))), some (.own (List.map En.e (((last_56, day_39, side_41, rows_58) : ((List (Option Int)) × Int × Int × (List (Int × Int)))).1 : (List (Option Int))))), some (.d (En.e (((last_56, day_39, side_41, rows_58) : ((List (Option Int)) × Int × Int × (List (Int × Int)))).2.1 : Int))), some (.d (En.e (((last_56, day_39, side_41, rows_58) : ((List (Option Int)) × Int × Int × (List (Int × Int)))).2.2.1 : Int))), some (.own (List.map En.e (((last_56, day_39, side_41, rows_58) : ((List (Option Int)) × Int × Int × (List (Int × Int)))).2.2.2 : (List (Int × Int)))))] from rfl)
  · subst hr
    replace h := goN h
    obtain rfl := hR
    show OK (evSs _ _ _ [some (.d (En.e (pauses_0 : (Int × Int)))), some (.d (En.e (delays_0 : (Int × Int)))), some (.d (En.e (start_0 : Int))), some (.d (En.e (most_0 : Int))), some (.own (List.map En.e (s_7.1 : (List (Option Int))))), some (.d (En.e (s_7.2.1 : Int))), some (.d (En.e (s_7.2.2.1 : Int))), some (.own (List.map En.e (s_7.2.2.2 : (List (Int × Int)))))]) _
    have hE_ := Option.some.inj h
    subst hE_
    exact st_ret (jd_fz (jf_lst (v := (H2.mk s_7.2.2.2 false : (H2 (List (Int × Int)) Bool))) (ef_cons (jf_a (v := (s_7.2.2.2 : (List (Int × Int)))) rfl rfl) (ef_cons (jf_d (jd_con (v := false) rfl)) ef_nil)) rfl)) (show endF [] [.d (En.e (pauses_0 : (Int × Int))), .d (En.e (delays_0 : (Int × Int))), .d (En.e (start_0 : Int)), .d (En.e (most_0 : Int))] (.rt (.v (.d (En.e ((H2.mk s_7.2.2.2 false : (H2 (List (Int × Int)) Bool)) : (H2 (List (Int × Int)) Bool))))) [some (.d (En.e (pauses_0 : (Int × Int)))), some (.d (En.e (delays_0 : (Int × Int)))), some (.d (En.e (start_0 : Int))), some (.d (En.e (most_0 : Int))), some (.own (List.map En.e (s_7.1 : (List (Option Int))))), some (.d (En.e (s_7.2.1 : Int))), some (.d (En.e (s_7.2.2.1 : Int))), some (.d (En.e (s_7.2.2.2 : (List (Int × Int)))))]) = some (.d (En.e ((H2.mk s_7.2.2.2 false : (H2 (List (Int × Int)) Bool)) : (H2 (List (Int × Int)) Bool))), [.d (En.e (pauses_0 : (Int × Int))), .d (En.e (delays_0 : (Int × Int))), .d (En.e (start_0 : Int)), .d (En.e (most_0 : Int))]) from (by first | rfl | simp [endF, outs, isSt]))
  · subst hr
    replace h := goR h
    cases h
    exact hF
/-! law -/
noncomputable def Fn11 (script_0 : (List Int)) : Option Bool :=
  (some (([] : (List (Int × Str))) : (List (Int × Str)))).bind fun letters_1 => (some (0 : Int)).bind fun day_3 => (drawO (⟨0, 0⟩ : DR) script_0 8).bind fun u_5 => (rngO 0 u_5.1).bind fun r_7 => (foldO (α := Int) (σ := (DR × (List (Int × Str)) × Int)) (fun a_9 s_10 => (drawO s_10.1 script_0 4).bind fun u_24 => (some ((s_10.2.2 + u_24.1) : Int)).bind fun day_26 => (pickO (α := Str) u_24.2 script_0 ([("a" : Str), ("b" : Str), ("c" : Str)] : (List Str))).bind fun u_31 => (appO s_10.2.1 ((day_26, u_31.1) : (Int × Str))).bind fun letters_33 => some (u_31.2, letters_33, day_26)) r_7 (u_5.2, letters_1, day_3)).bind fun s_35 => (drawO s_35.1 script_0 7).bind fun u_37 => (reprO (s_35.2.1 : (List (Int × Str)))).bind fun k_39 => (Fn5 s_35.2.1 u_37.1).bind fun answered_41 => (Fn9 s_35.2.1 u_37.1).bind fun answered_43 => (if (!decide (answered_41 = answered_43)) then some false else (some (((List.map (fun x_45 => x_45.1) s_35.2.1) : (List Int)) : (List Int))).bind fun days_48 => (Fn0 days_48 u_37.1).bind fun answered_50 => (Fn9 ((List.map (fun x_52 => ((x_52, ("a" : Str)) : (Int × Str))) days_48) : (List (Int × Str))) u_37.1).bind fun answered_55 => (if (!decide (answered_50 = answered_55)) then some false else (drawO u_37.2 script_0 9).bind fun u_57 => (drawO u_57.2 script_0 14).bind fun u_59 => (some (((u_57.1 + u_59.1) - 2) : Int)).bind fun last_61 => (Fn1 u_57.1 last_61 u_37.1).bind fun most_ans_63 => (if (decide (u_37.1 = 0)) then (atO ([(none : (Option Int)), (some 0)] : (List (Option Int))) (b2T (decide (last_61 < u_57.1)))).bind fun x_67 => (if (!decide (most_ans_63 = x_67)) then some false else (drawO u_59.2 script_0 6).bind fun u_69 => (some ((none : (Option Int)) : (Option Int))).bind fun best_71 => (dnO 60 (-1)).bind fun r_73 => (foldO (α := Int) (σ := (Option Int)) (fun a_75 s_76 => (Fn9 s_35.2.1 a_75).bind fun answered_84 => (if (decide ((answered_84.length : Int) ≤ u_69.1)) then (some ((some a_75) : (Option Int))).bind fun best_86 => some best_86 else some s_76)) r_73 best_71).bind fun s_88 => (Fn6 s_35.2.1 u_69.1).bind fun pause_fo_90 => (reprO (pause_fo_90 : (Option Int))).bind fun k_92 => (reprO (s_88 : (Option Int))).bind fun k_94 => (if (!decide (k_92 = k_94)) then some false else (drawO u_69.2 script_0 9).bind fun u_96 => (drawO u_96.2 script_0 9).bind fun u_98 => (some (((u_96.1, u_98.1) : (Int × Int)) : (Int × Int))).bind fun pauses_100 => (drawO u_98.2 script_0 5).bind fun u_102 => (drawO u_102.2 script_0 5).bind fun u_104 => (some (((u_102.1, u_104.1) : (Int × Int)) : (Int × Int))).bind fun delays_106 => (Fn10 pauses_100 delays_106 u_57.1 40).bind fun talk_108 => (Fn2 pauses_100.1 pauses_100.2 delays_106 u_57.1).bind fun talk_110 => (atO ([("round" : Str), ("ends" : Str)] : (List Str)) (b2T talk_108.b)).bind fun x_114 => (if ((!decide (talk_110.1 = x_114)) || ((!decide (talk_110.2 = (cut talk_108.a none (some (talk_110.2.length : Int))))) || (talk_108.b && (!decide (talk_110.2 = talk_108.a))))) then some false else (Fn3 pauses_100.1 pauses_100.2 delays_106).bind fun goes_on_119 => (if (!decide (goes_on_119 = (!talk_108.b))) then some false else (if ((!talk_108.b) && (!(decide (2 ≤ (talk_110.2.length : Int)) && decide ((talk_110.2.length : Int) ≤ 6)))) then some false else (Fn4 delays_106).bind fun least_pa_122 => (rngO 0 9).bind fun r_124 => (forT (α := Int) (σ := Unit) (ρ := Bool) (fun a_126 s_127 => (Fn10 ((least_pa_122, a_126) : (Int × Int)) delays_106 u_57.1 40).bind fun talk_139 => (if (!talk_139.b) then some true else (Fn10 ((a_126, least_pa_122) : (Int × Int)) delays_106 u_57.1 40).bind fun talk_142 => some (!talk_142.b)).bind fun p_144 => (if p_144 then some (.rt false) else some (.nx ()))) r_124 ()).bind fun r_146 => r_146.go (fun s_127 => (Fn10 (((least_pa_122 - 1), 0) : (Int × Int)) delays_106 u_57.1 40).bind fun talk_148 => (if talk_148.b then some false else (reprO (s_35.2.1 : (List (Int × Str)))).bind fun k_150 => some (decide (k_150 = k_39)))) (fun v_ => some v_)))))) else (rngO u_57.1 (last_61 + 1)).bind fun r_152 => (some (((List.map (fun x_154 => ((x_154, ("a" : Str)) : (Int × Str))) r_152) : (List (Int × Str))) : (List (Int × Str)))).bind fun line_157 => (Fn9 line_157 u_37.1).bind fun answered_159 => (if (!decide (most_ans_63 = (some (answered_159.length : Int)))) then some false else (drawO u_59.2 script_0 6).bind fun u_161 => (some ((none : (Option Int)) : (Option Int))).bind fun best_163 => (dnO 60 (-1)).bind fun r_165 => (foldO (α := Int) (σ := (Option Int)) (fun a_167 s_168 => (Fn9 s_35.2.1 a_167).bind fun answered_176 => (if (decide ((answered_176.length : Int) ≤ u_161.1)) then (some ((some a_167) : (Option Int))).bind fun best_178 => some best_178 else some s_168)) r_165 best_163).bind fun s_180 => (Fn6 s_35.2.1 u_161.1).bind fun pause_fo_182 => (reprO (pause_fo_182 : (Option Int))).bind fun k_184 => (reprO (s_180 : (Option Int))).bind fun k_186 => (if (!decide (k_184 = k_186)) then some false else (drawO u_161.2 script_0 9).bind fun u_188 => (drawO u_188.2 script_0 9).bind fun u_190 => (some (((u_188.1, u_190.1) : (Int × Int)) : (Int × Int))).bind fun pauses_192 => (drawO u_190.2 script_0 5).bind fun u_194 => (drawO u_194.2 script_0 5).bind fun u_196 => (some (((u_194.1, u_196.1) : (Int × Int)) : (Int × Int))).bind fun delays_198 => (Fn10 pauses_192 delays_198 u_57.1 40).bind fun talk_200 => (Fn2 pauses_192.1 pauses_192.2 delays_198 u_57.1).bind fun talk_202 => (atO ([("round" : Str), ("ends" : Str)] : (List Str)) (b2T talk_200.b)).bind fun x_206 => (if ((!decide (talk_202.1 = x_206)) || ((!decide (talk_202.2 = (cut talk_200.a none (some (talk_202.2.length : Int))))) || (talk_200.b && (!decide (talk_202.2 = talk_200.a))))) then some false else (Fn3 pauses_192.1 pauses_192.2 delays_198).bind fun goes_on_211 => (if (!decide (goes_on_211 = (!talk_200.b))) then some false else (if ((!talk_200.b) && (!(decide (2 ≤ (talk_202.2.length : Int)) && decide ((talk_202.2.length : Int) ≤ 6)))) then some false else (Fn4 delays_198).bind fun least_pa_214 => (rngO 0 9).bind fun r_216 => (forT (α := Int) (σ := Unit) (ρ := Bool) (fun a_218 s_219 => (Fn10 ((least_pa_214, a_218) : (Int × Int)) delays_198 u_57.1 40).bind fun talk_231 => (if (!talk_231.b) then some true else (Fn10 ((a_218, least_pa_214) : (Int × Int)) delays_198 u_57.1 40).bind fun talk_234 => some (!talk_234.b)).bind fun p_236 => (if p_236 then some (.rt false) else some (.nx ()))) r_216 ()).bind fun r_238 => r_238.go (fun s_219 => (Fn10 (((least_pa_214 - 1), 0) : (Int × Int)) delays_198 u_57.1 40).bind fun talk_240 => (if talk_240.b then some false else (reprO (s_35.2.1 : (List (Int × Str)))).bind fun k_242 => some (decide (k_242 = k_39)))) (fun v_ => some v_)))))))))
theorem w11 (n : Nat) (hn : 3 ≤ n) (script_0 : (List Int)) {r : Bool} (h : Fn11 script_0 = some r) : callT TT GG n 11 [.scr script_0] = some (.d (En.e (r : Bool)), [.scr script_0]) := by
  obtain ⟨n, rfl⟩ : ∃ k, n = k + 1 := ⟨n - 1, by omega⟩
  have c0 := fun a0_ a1_ r h => w0 n (by omega) a0_ a1_ (r := r) h
  have c1 := fun a0_ a1_ a2_ r h => w1 n (by omega) a0_ a1_ a2_ (r := r) h
  have c2 := fun a0_ a1_ a2_ a3_ r h => w2 n (by omega) a0_ a1_ a2_ a3_ (r := r) h
  have c3 := fun a0_ a1_ a2_ r h => w3 n (by omega) a0_ a1_ a2_ (r := r) h
  have c4 := fun a0_ r h => w4 n (by omega) a0_ (r := r) h
  have c5 := fun a0_ a1_ r h => w5 n (by omega) a0_ a1_ (r := r) h
  have c6 := fun a0_ a1_ r h => w6 n (by omega) a0_ a1_ (r := r) h
  have cDraw := fun (s : DR) (ns : List Int) (m : Int) (r : Int × DR) (h : drawO s ns m = some r) => wDraw n (by omega) s ns m h
  have cPick := fun {α : Type} [En α] (s : DR) (ns : List Int) (xs : List α) (r : α × DR) (h : pickO s ns xs = some r) => wPick n (by omega) s ns xs h
  have c9 := fun a0_ a1_ r h => w9 n (by omega) a0_ a1_ (r := r) h
  have c10 := fun a0_ a1_ a2_ a3_ r h => w10 n (by omega) a0_ a1_ a2_ a3_ (r := r) h
  refine call_py rfl rfl (by decide) ?_
  show OK (evSs ⟨callT TT GG n, ioT TT, GG⟩ _ b11 [some (.scr script_0), none, none, none, none, none, none, none, none, none, none, none, none, none, none, none, none, none, none, none, none, none, none]) _
  generalize callT TT GG n = C at c0 c1 c2 c3 c4 c5 c6 cDraw cPick c9 c10 ⊢
  unfold Fn11 at h
  refine st_asg (e2 := [some (.scr script_0), some (drV (⟨0, 0⟩ : DR)), none, none, none, none, none, none, none, none, none, none, none, none, none, none, none, none, none, none, none, none, none]) jd_dr0 rfl rfl rfl ?_
  obtain ⟨letters_1, h_2, h⟩ := bnd h
  refine st_asg (e2 := [some (.scr script_0), some (drV (⟨0, 0⟩ : DR)), some (.own (List.map En.e (letters_1 : (List (Int × Str))))), none, none, none, none, none, none, none, none, none, none, none, none, none, none, none, none, none, none, none, none]) (jo_som (jo_lst (v := ([] : (List (Int × Str)))) ef_nil rfl) h_2) rfl rfl rfl ?_
  obtain ⟨day_3, h_4, h⟩ := bnd h
  refine st_asg (e2 := [some (.scr script_0), some (drV (⟨0, 0⟩ : DR)), some (.own (List.map En.e (letters_1 : (List (Int × Str))))), some (.d (En.e (day_3 : Int))), none, none, none, none, none, none, none, none, none, none, none, none, none, none, none, none, none, none, none]) (jd_som (jd_con (v := (0 : Int)) rfl) h_4) rfl rfl rfl ?_
  obtain ⟨u_5, h_6, h⟩ := bnd h
  obtain ⟨r_7, h_8, h⟩ := bnd h
  obtain ⟨s_35, h_36, h⟩ := bnd h
  refine st_foldO (fun (s_10 : (DR × (List (Int × Str)) × Int)) (e_ : Env) => ∃ (x_11 : Option D), e_ = [some (.scr script_0), some (drV s_10.1), some (.own (List.map En.e (s_10.2.1 : (List (Int × Str))))), some (.d (En.e (s_10.2.2 : Int))), (jd x_11), none, none, none, none, none, none, none, none, none, none, none, none, none, none, none, none, none, none]) h_36 (ji_rng1 (jx_d (jw_call (v := .d (En.e (u_5.1 : Int))) (rs := [.ali 1, .ali 0, .v (.d (En.e (8 : Int)))]) (ws := [drV (⟨0, 0⟩ : DR), .scr script_0, .d (En.e (8 : Int))]) (ws' := [drV u_5.2, .scr script_0, .d (En.e (8 : Int))]) (e2 := [some (.scr script_0), some (drV u_5.2), some (.own (List.map En.e (letters_1 : (List (Int × Str))))), some (.d (En.e (day_3 : Int))), none, none, none, none, none, none, none, none, none, none, none, none, none, none, none, none, none, none, none]) true (jl_cons (ja_dr rfl) (jl_cons (ja_scr rfl) (jl_cons (jd_con (v := (8 : Int)) rfl) jl_nil))) (show ([1, 0] : List Nat).Nodup by decide) rfl (cDraw _ _ _ _ h_6) (fl_v rfl) rfl)) h_8) ⟨none, rfl⟩ (fun _ _ _ => trivial) (fun a_9 s_10 e_ r_ _ hR h_23 => ?_) (fun e_ hR => ?_)
  · obtain ⟨x_11, rfl⟩ := hR
    show ∃ e2, bindT _ _ _ [some (.scr script_0), some (drV s_10.1), some (.own (List.map En.e (s_10.2.1 : (List (Int × Str))))), some (.d (En.e (s_10.2.2 : Int))), (jd x_11), none, none, none, none, none, none, none, none, none, none, none, none, none, none, none, none, none, none] = some e2 ∧ _
    refine ⟨[some (.scr script_0), some (drV s_10.1), some (.own (List.map En.e (s_10.2.1 : (List (Int × Str))))), some (.d (En.e (s_10.2.2 : Int))), some (.d (En.e (a_9 : Int))), none, none, none, none, none, none, none, none, none, none, none, none, none, none, none, none, none, none], rfl, ?_⟩
    obtain ⟨u_24, h_25, h_23⟩ := bnd h_23
    obtain ⟨day_26, h_27, h_23⟩ := bnd h_23
    refine st_asg (e2 := [some (.scr script_0), some (drV u_24.2), some (.own (List.map En.e (s_10.2.1 : (List (Int × Str))))), some (.d (En.e (day_26 : Int))), some (.d (En.e (a_9 : Int))), none, none, none, none, none, none, none, none, none, none, none, none, none, none, none, none, none, none]) (jd_som (jd_add (jx_d (jd_var (v := (s_10.2.2 : Int)) rfl)) (jx_d (jw_call (v := .d (En.e (u_24.1 : Int))) (rs := [.ali 1, .ali 0, .v (.d (En.e (4 : Int)))]) (ws := [drV s_10.1, .scr script_0, .d (En.e (4 : Int))]) (ws' := [drV u_24.2, .scr script_0, .d (En.e (4 : Int))]) (e2 := [some (.scr script_0), some (drV u_24.2), some (.own (List.map En.e (s_10.2.1 : (List (Int × Str))))), some (.d (En.e (s_10.2.2 : Int))), some (.d (En.e (a_9 : Int))), none, none, none, none, none, none, none, none, none, none, none, none, none, none, none, none, none, none]) true (jl_cons (ja_dr rfl) (jl_cons (ja_scr rfl) (jl_cons (jd_con (v := (4 : Int)) rfl) jl_nil))) (show ([1, 0] : List Nat).Nodup by decide) rfl (cDraw _ _ _ _ h_25) (fl_v rfl) rfl))) h_27) rfl rfl rfl ?_
    obtain ⟨u_31, h_32, h_23⟩ := bnd h_23
    obtain ⟨letters_33, h_34, h_23⟩ := bnd h_23
    refine st_app (v := (((day_26, u_31.1) : (Int × Str)) : (Int × Str))) (l := (s_10.2.1 : (List (Int × Str)))) (e2 := [some (.scr script_0), some (drV u_31.2), some (.own (List.map En.e (letters_33 : (List (Int × Str))))), some (.d (En.e (day_26 : Int))), some (.d (En.e (a_9 : Int))), none, none, none, none, none, none, none, none, none, none, none, none, none, none, none, none, none, none]) rfl (jf_d (jd_tup (v := ((day_26, u_31.1) : (Int × Str))) (ef_cons (jf_d (jd_var (v := (day_26 : Int)) rfl)) (ef_cons (jf_d (jw_call (v := .d (En.e (u_31.1 : Str))) (rs := [.ali 1, .ali 0, .v (.own (List.map En.e (([("a" : Str), ("b" : Str), ("c" : Str)] : (List Str)) : (List Str))))]) (ws := [drV u_24.2, .scr script_0, .d (En.e (([("a" : Str), ("b" : Str), ("c" : Str)] : (List Str)) : (List Str)))]) (ws' := [drV u_31.2, .scr script_0, .d (En.e (([("a" : Str), ("b" : Str), ("c" : Str)] : (List Str)) : (List Str)))]) (e2 := [some (.scr script_0), some (drV u_31.2), some (.own (List.map En.e (s_10.2.1 : (List (Int × Str))))), some (.d (En.e (day_26 : Int))), some (.d (En.e (a_9 : Int))), none, none, none, none, none, none, none, none, none, none, none, none, none, none, none, none, none, none]) true (jl_cons (ja_dr rfl) (jl_cons (ja_scr rfl) (jl_cons (jo_lst (v := ([("a" : Str), ("b" : Str), ("c" : Str)] : (List Str))) (ef_cons (jf_d (jd_con (v := ("a" : Str)) rfl)) (ef_cons (jf_d (jd_con (v := ("b" : Str)) rfl)) (ef_cons (jf_d (jd_con (v := ("c" : Str)) rfl)) ef_nil))) rfl) jl_nil))) (show ([1, 0] : List Nat).Nodup by decide) rfl (cPick _ _ _ _ h_32) (fl_v rfl) rfl)) ef_nil)) rfl)) rfl h_34 rfl ?_
    have hE_ := Option.some.inj h_23
    subst hE_
    exact ok_nil (show ∃ (x_11w : Option D), ([some (.scr script_0), some (drV u_31.2), some (.own (List.map En.e (letters_33 : (List (Int × Str))))), some (.d (En.e (day_26 : Int))), some (.d (En.e (a_9 : Int))), none, none, none, none, none, none, none, none, none, none, none, none, none, none, none, none, none, none] : Env) = [some (.scr script_0), some (drV ((u_31.2, letters_33, day_26) : (DR × (List (Int × Str)) × Int)).1), some (.own (List.map En.e (((u_31.2, letters_33, day_26) : (DR × (List (Int × Str)) × Int)).2.1 : (List (Int × Str))))), some (.d (En.e (((u_31.2, letters_33, day_26) : (DR × (List (Int × Str)) × Int)).2.2 : Int))), (jd x_11w), none, none, none, none, none, none, none, none, none, none, none, none, none, none, none, none, none, none] from ⟨(some (En.e (a_9 : Int))), rfl⟩)
  · obtain ⟨x_11, rfl⟩ := hR
    show OK (evSs _ _ _ [some (.scr script_0), some (drV s_35.1), some (.own (List.map En.e (s_35.2.1 : (List (Int × Str))))), some (.d (En.e (s_35.2.2 : Int))), (jd x_11), none, none, none, none, none, none, none, none, none, none, none, none, none, none, none, none, none, none]) _
    obtain ⟨u_37, h_38, h⟩ := bnd h
    refine st_asg (e2 := [some (.scr script_0), some (drV u_37.2), some (.own (List.map En.e (s_35.2.1 : (List (Int × Str))))), some (.d (En.e (s_35.2.2 : Int))), (jd x_11), some (.d (En.e (u_37.1 : Int))), none, none, none, none, none, none, none, none, none, none, none, none, none, none, none, none, none]) (jw_call (v := .d (En.e (u_37.1 : Int))) (rs := [.ali 1, .ali 0, .v (.d (En.e (7 : Int)))]) (ws := [drV s_35.1, .scr script_0, .d (En.e (7 : Int))]) (ws' := [drV u_37.2, .scr script_0, .d (En.e (7 : Int))]) (e2 := [some (.scr script_0), some (drV u_37.2), some (.own (List.map En.e (s_35.2.1 : (List (Int × Str))))), some (.d (En.e (s_35.2.2 : Int))), (jd x_11), none, none, none, none, none, none, none, none, none, none, none, none, none, none, none, none, none, none]) true (jl_cons (ja_dr rfl) (jl_cons (ja_scr rfl) (jl_cons (jd_con (v := (7 : Int)) rfl) jl_nil))) (show ([1, 0] : List Nat).Nodup by decide) rfl (cDraw _ _ _ _ h_38) (fl_v rfl) rfl) rfl rfl rfl ?_
    obtain ⟨k_39, h_40, h⟩ := bnd h
    refine st_asg (e2 := [some (.scr script_0), some (drV u_37.2), some (.own (List.map En.e (s_35.2.1 : (List (Int × Str))))), some (.d (En.e (s_35.2.2 : Int))), (jd x_11), some (.d (En.e (u_37.1 : Int))), some (.d (En.e (k_39 : Str))), none, none, none, none, none, none, none, none, none, none, none, none, none, none, none, none]) (jd_repr (jx_own (v := (s_35.2.1 : (List (Int × Str)))) rfl rfl) h_40) rfl rfl rfl ?_
    obtain ⟨answered_41, h_42, h⟩ := bnd h
    obtain ⟨answered_43, h_44, h⟩ := bnd h
    refine st_ifs (jc_d (jd_ne (by decide) (jx_o (jw_call (v := .own (List.map En.e (answered_41 : (List Int)))) (rs := [.ali 2, .v (.d (En.e (u_37.1 : Int)))]) (ws := [.d (En.e (s_35.2.1 : (List (Int × Str)))), .d (En.e (u_37.1 : Int))]) (ws' := [.d (En.e (s_35.2.1 : (List (Int × Str)))), .d (En.e (u_37.1 : Int))]) (e2 := [some (.scr script_0), some (drV u_37.2), some (.own (List.map En.e (s_35.2.1 : (List (Int × Str))))), some (.d (En.e (s_35.2.2 : Int))), (jd x_11), some (.d (En.e (u_37.1 : Int))), some (.d (En.e (k_39 : Str))), none, none, none, none, none, none, none, none, none, none, none, none, none, none, none, none]) true (jl_cons (ja_var rfl) (jl_cons (jd_var (v := (u_37.1 : Int)) rfl) jl_nil)) (show ([2] : List Nat).Nodup by decide) rfl (c5 _ _ _ h_42) (fl_o rfl) rfl)) (jx_o (jw_call (v := .own (List.map En.e (answered_43 : (List Int)))) (rs := [.ali 2, .v (.d (En.e (u_37.1 : Int)))]) (ws := [.d (En.e (s_35.2.1 : (List (Int × Str)))), .d (En.e (u_37.1 : Int))]) (ws' := [.d (En.e (s_35.2.1 : (List (Int × Str)))), .d (En.e (u_37.1 : Int))]) (e2 := [some (.scr script_0), some (drV u_37.2), some (.own (List.map En.e (s_35.2.1 : (List (Int × Str))))), some (.d (En.e (s_35.2.2 : Int))), (jd x_11), some (.d (En.e (u_37.1 : Int))), some (.d (En.e (k_39 : Str))), none, none, none, none, none, none, none, none, none, none, none, none, none, none, none, none]) true (jl_cons (ja_var rfl) (jl_cons (jd_var (v := (u_37.1 : Int)) rfl) jl_nil)) (show ([2] : List Nat).Nodup by decide) rfl (c9 _ _ _ h_44) (fl_o rfl) rfl)))) (fun hp => ?_) (fun hp => ?_)
    · replace h := if_t h hp
      have hE_ := Option.some.inj h
      subst hE_
      exact st_ret (jd_con (v := false) rfl) (show endF [] [.scr script_0] (.rt (.v (.d (En.e (false : Bool)))) [some (.scr script_0), some (drV u_37.2), some (.own (List.map En.e (s_35.2.1 : (List (Int × Str))))), some (.d (En.e (s_35.2.2 : Int))), (jd x_11), some (.d (En.e (u_37.1 : Int))), some (.d (En.e (k_39 : Str))), none, none, none, none, none, none, none, none, none, none, none, none, none, none, none, none]) = some (.d (En.e (false : Bool)), [.scr script_0]) from (by first | rfl | simp [endF, outs, isSt]))
    · replace h := if_f h hp
      refine ok_nilT ?_
      obtain ⟨days_48, h_49, h⟩ := bnd h
      refine st_asg (e2 := [some (.scr script_0), some (drV u_37.2), some (.own (List.map En.e (s_35.2.1 : (List (Int × Str))))), some (.d (En.e (s_35.2.2 : Int))), (jd x_11), some (.d (En.e (u_37.1 : Int))), some (.d (En.e (k_39 : Str))), some (.own (List.map En.e (days_48 : (List Int)))), none, none, none, none, none, none, none, none, none, none, none, none, none, none, none]) (jo_som (jo_lcM (α := (Int × Str)) (β := Int) (l := s_35.2.1) (fun x_45 => x_45.1) (ji_a (l := (s_35.2.1 : (List (Int × Str)))) rfl) rfl (.inl rfl) rfl (fun x_45 _ => ⟨[some (.scr script_0), some (drV u_37.2), some (.own (List.map En.e (s_35.2.1 : (List (Int × Str))))), some (.d (En.e (s_35.2.2 : Int))), (jd x_11), some (.d (En.e (u_37.1 : Int))), some (.d (En.e (k_39 : Str))), none, none, none, none, none, none, none, none, none, none, none, none, none, none, none, some (.d (En.e (x_45 : (Int × Str))))], rfl, rfl, (jf_d (jd_idx (v := (x_45.1 : Int)) (jx_d (jd_var (v := (x_45 : (Int × Str))) rfl)) (jx_d (jd_con (v := (0 : Int)) rfl)) rfl))⟩)) h_49) rfl rfl rfl ?_
      obtain ⟨answered_50, h_51, h⟩ := bnd h
      obtain ⟨answered_55, h_56, h⟩ := bnd h
      refine st_ifs (jc_d (jd_ne (by decide) (jx_o (jw_call (v := .own (List.map En.e (answered_50 : (List Int)))) (rs := [.ali 7, .v (.d (En.e (u_37.1 : Int)))]) (ws := [.d (En.e (days_48 : (List Int))), .d (En.e (u_37.1 : Int))]) (ws' := [.d (En.e (days_48 : (List Int))), .d (En.e (u_37.1 : Int))]) (e2 := [some (.scr script_0), some (drV u_37.2), some (.own (List.map En.e (s_35.2.1 : (List (Int × Str))))), some (.d (En.e (s_35.2.2 : Int))), (jd x_11), some (.d (En.e (u_37.1 : Int))), some (.d (En.e (k_39 : Str))), some (.own (List.map En.e (days_48 : (List Int)))), none, none, none, none, none, none, none, none, none, none, none, none, none, none, none]) true (jl_cons (ja_var rfl) (jl_cons (jd_var (v := (u_37.1 : Int)) rfl) jl_nil)) (show ([7] : List Nat).Nodup by decide) rfl (c0 _ _ _ h_51) (fl_o rfl) rfl)) (jx_o (jw_callP (rs := [.v (.own (List.map En.e (((List.map (fun x_52 => ((x_52, ("a" : Str)) : (Int × Str))) days_48) : (List (Int × Str))) : (List (Int × Str))))), .v (.d (En.e (u_37.1 : Int)))]) (ws := [.d (En.e (((List.map (fun x_52 => ((x_52, ("a" : Str)) : (Int × Str))) days_48) : (List (Int × Str))) : (List (Int × Str)))), .d (En.e (u_37.1 : Int))]) (ws' := [.d (En.e (((List.map (fun x_52 => ((x_52, ("a" : Str)) : (Int × Str))) days_48) : (List (Int × Str))) : (List (Int × Str)))), .d (En.e (u_37.1 : Int))]) (jl_cons (jo_lcM (α := Int) (β := (Int × Str)) (l := days_48) (fun x_52 => ((x_52, ("a" : Str)) : (Int × Str))) (ji_a (l := (days_48 : (List Int))) rfl) rfl (.inl rfl) rfl (fun x_52 _ => ⟨[some (.scr script_0), some (drV u_37.2), some (.own (List.map En.e (s_35.2.1 : (List (Int × Str))))), some (.d (En.e (x_52 : Int))), (jd x_11), some (.d (En.e (u_37.1 : Int))), some (.d (En.e (k_39 : Str))), some (.own (List.map En.e (days_48 : (List Int)))), none, none, none, none, none, none, none, none, none, none, none, none, none, none, none], rfl, rfl, (jf_d (jd_tup (v := ((x_52, ("a" : Str)) : (Int × Str))) (ef_cons (jf_d (jd_var (v := (x_52 : Int)) rfl)) (ef_cons (jf_d (jd_con (v := ("a" : Str)) rfl)) ef_nil)) rfl))⟩)) (jl_cons (jd_var (v := (u_37.1 : Int)) rfl) jl_nil)) rfl rfl (c9 _ _ _ h_56))))) (fun hp => ?_) (fun hp => ?_)
      · replace h := if_t h hp
        have hE_ := Option.some.inj h
        subst hE_
        exact st_ret (jd_con (v := false) rfl) (show endF [] [.scr script_0] (.rt (.v (.d (En.e (false : Bool)))) [some (.scr script_0), some (drV u_37.2), some (.own (List.map En.e (s_35.2.1 : (List (Int × Str))))), some (.d (En.e (s_35.2.2 : Int))), (jd x_11), some (.d (En.e (u_37.1 : Int))), some (.d (En.e (k_39 : Str))), some (.own (List.map En.e (days_48 : (List Int)))), none, none, none, none, none, none, none, none, none, none, none, none, none, none, none]) = some (.d (En.e (false : Bool)), [.scr script_0]) from (by first | rfl | simp [endF, outs, isSt]))
      · replace h := if_f h hp
        refine ok_nilT ?_
        obtain ⟨u_57, h_58, h⟩ := bnd h
        refine st_asg (e2 := [some (.scr script_0), some (drV u_57.2), some (.own (List.map En.e (s_35.2.1 : (List (Int × Str))))), some (.d (En.e (s_35.2.2 : Int))), (jd x_11), some (.d (En.e (u_37.1 : Int))), some (.d (En.e (k_39 : Str))), some (.own (List.map En.e (days_48 : (List Int)))), some (.d (En.e (u_57.1 : Int))), none, none, none, none, none, none, none, none, none, none, none, none, none, none]) (jw_call (v := .d (En.e (u_57.1 : Int))) (rs := [.ali 1, .ali 0, .v (.d (En.e (9 : Int)))]) (ws := [drV u_37.2, .scr script_0, .d (En.e (9 : Int))]) (ws' := [drV u_57.2, .scr script_0, .d (En.e (9 : Int))]) (e2 := [some (.scr script_0), some (drV u_57.2), some (.own (List.map En.e (s_35.2.1 : (List (Int × Str))))), some (.d (En.e (s_35.2.2 : Int))), (jd x_11), some (.d (En.e (u_37.1 : Int))), some (.d (En.e (k_39 : Str))), some (.own (List.map En.e (days_48 : (List Int)))), none, none, none, none, none, none, none, none, none, none, none, none, none, none, none]) true (jl_cons (ja_dr rfl) (jl_cons (ja_scr rfl) (jl_cons (jd_con (v := (9 : Int)) rfl) jl_nil))) (show ([1, 0] : List Nat).Nodup by decide) rfl (cDraw _ _ _ _ h_58) (fl_v rfl) rfl) rfl rfl rfl ?_
        obtain ⟨u_59, h_60, h⟩ := bnd h
        obtain ⟨last_61, h_62, h⟩ := bnd h
        refine st_asg (e2 := [some (.scr script_0), some (drV u_59.2), some (.own (List.map En.e (s_35.2.1 : (List (Int × Str))))), some (.d (En.e (s_35.2.2 : Int))), (jd x_11), some (.d (En.e (u_37.1 : Int))), some (.d (En.e (k_39 : Str))), some (.own (List.map En.e (days_48 : (List Int)))), some (.d (En.e (u_57.1 : Int))), some (.d (En.e (last_61 : Int))), none, none, none, none, none, none, none, none, none, none, none, none, none]) (jd_som (jd_sub (jx_d (jd_add (jx_d (jd_var (v := (u_57.1 : Int)) rfl)) (jx_d (jw_call (v := .d (En.e (u_59.1 : Int))) (rs := [.ali 1, .ali 0, .v (.d (En.e (14 : Int)))]) (ws := [drV u_57.2, .scr script_0, .d (En.e (14 : Int))]) (ws' := [drV u_59.2, .scr script_0, .d (En.e (14 : Int))]) (e2 := [some (.scr script_0), some (drV u_59.2), some (.own (List.map En.e (s_35.2.1 : (List (Int × Str))))), some (.d (En.e (s_35.2.2 : Int))), (jd x_11), some (.d (En.e (u_37.1 : Int))), some (.d (En.e (k_39 : Str))), some (.own (List.map En.e (days_48 : (List Int)))), some (.d (En.e (u_57.1 : Int))), none, none, none, none, none, none, none, none, none, none, none, none, none, none]) true (jl_cons (ja_dr rfl) (jl_cons (ja_scr rfl) (jl_cons (jd_con (v := (14 : Int)) rfl) jl_nil))) (show ([1, 0] : List Nat).Nodup by decide) rfl (cDraw _ _ _ _ h_60) (fl_v rfl) rfl)))) (jx_d (jd_con (v := (2 : Int)) rfl))) h_62) rfl rfl rfl ?_
        obtain ⟨most_ans_63, h_64, h⟩ := bnd h
        refine st_asg (e2 := [some (.scr script_0), some (drV u_59.2), some (.own (List.map En.e (s_35.2.1 : (List (Int × Str))))), some (.d (En.e (s_35.2.2 : Int))), (jd x_11), some (.d (En.e (u_37.1 : Int))), some (.d (En.e (k_39 : Str))), some (.own (List.map En.e (days_48 : (List Int)))), some (.d (En.e (u_57.1 : Int))), some (.d (En.e (last_61 : Int))), some (.d (En.e (most_ans_63 : (Option Int)))), none, none, none, none, none, none, none, none, none, none, none, none]) (jw_callP (rs := [.v (.d (En.e (u_57.1 : Int))), .v (.d (En.e (last_61 : Int))), .v (.d (En.e (u_37.1 : Int)))]) (ws := [.d (En.e (u_57.1 : Int)), .d (En.e (last_61 : Int)), .d (En.e (u_37.1 : Int))]) (ws' := [.d (En.e (u_57.1 : Int)), .d (En.e (last_61 : Int)), .d (En.e (u_37.1 : Int))]) (jl_cons (jd_var (v := (u_57.1 : Int)) rfl) (jl_cons (jd_var (v := (last_61 : Int)) rfl) (jl_cons (jd_var (v := (u_37.1 : Int)) rfl) jl_nil))) rfl rfl (c1 _ _ _ _ h_64)) rfl rfl rfl ?_
        refine st_ifs (jc_d (jd_eq (by decide) (jx_d (jd_var (v := (u_37.1 : Int)) rfl)) (jx_d (jd_con (v := (0 : Int)) rfl)))) (fun hp => ?_) (fun hp => ?_)
        · replace h := if_t h hp
          obtain ⟨x_67, h_68, h⟩ := bnd h
          refine st_ifs (jc_d (jd_ne (by decide) (jx_d (jd_var (v := (most_ans_63 : (Option Int))) rfl)) (jx_d (jd_at (jx_o (jo_lst (v := ([(none : (Option Int)), (some 0)] : (List (Option Int)))) (ef_cons (jf_d (jd_con (v := (none : (Option Int))) rfl)) (ef_cons (jf_d (jd_cast (jd_con (v := (0 : Int)) rfl) (w := (some 0 : (Option Int))) rfl)) ef_nil)) rfl)) (jx_d (jd_b2i (jx_d (jd_lt (jx_d (jd_var (v := (last_61 : Int)) rfl)) (jx_d (jd_var (v := (u_57.1 : Int)) rfl)))))) h_68)))) (fun hp => ?_) (fun hp => ?_)
          · replace h := if_t h hp
            have hE_ := Option.some.inj h
            subst hE_
            exact st_ret (jd_con (v := false) rfl) (show endF [] [.scr script_0] (.rt (.v (.d (En.e (false : Bool)))) [some (.scr script_0), some (drV u_59.2), some (.own (List.map En.e (s_35.2.1 : (List (Int × Str))))), some (.d (En.e (s_35.2.2 : Int))), (jd x_11), some (.d (En.e (u_37.1 : Int))), some (.d (En.e (k_39 : Str))), some (.own (List.map En.e (days_48 : (List Int)))), some (.d (En.e (u_57.1 : Int))), some (.d (En.e (last_61 : Int))), some (.d (En.e (most_ans_63 : (Option Int)))), none, none, none, none, none, none, none, none, none, none, none, none]) = some (.d (En.e (false : Bool)), [.scr script_0]) from (by first | rfl | simp [endF, outs, isSt]))
          · replace h := if_f h hp
            refine ok_nilT ?_
            refine ok_nilT ?_
            obtain ⟨u_69, h_70, h⟩ := bnd h
            refine st_asg (e2 := [some (.scr script_0), some (drV u_69.2), some (.own (List.map En.e (s_35.2.1 : (List (Int × Str))))), some (.d (En.e (s_35.2.2 : Int))), (jd x_11), some (.d (En.e (u_37.1 : Int))), some (.d (En.e (k_39 : Str))), some (.own (List.map En.e (days_48 : (List Int)))), some (.d (En.e (u_57.1 : Int))), some (.d (En.e (last_61 : Int))), some (.d (En.e (most_ans_63 : (Option Int)))), some (.d (En.e (u_69.1 : Int))), none, none, none, none, none, none, none, none, none, none, none]) (jw_call (v := .d (En.e (u_69.1 : Int))) (rs := [.ali 1, .ali 0, .v (.d (En.e (6 : Int)))]) (ws := [drV u_59.2, .scr script_0, .d (En.e (6 : Int))]) (ws' := [drV u_69.2, .scr script_0, .d (En.e (6 : Int))]) (e2 := [some (.scr script_0), some (drV u_69.2), some (.own (List.map En.e (s_35.2.1 : (List (Int × Str))))), some (.d (En.e (s_35.2.2 : Int))), (jd x_11), some (.d (En.e (u_37.1 : Int))), some (.d (En.e (k_39 : Str))), some (.own (List.map En.e (days_48 : (List Int)))), some (.d (En.e (u_57.1 : Int))), some (.d (En.e (last_61 : Int))), some (.d (En.e (most_ans_63 : (Option Int)))), none, none, none, none, none, none, none, none, none, none, none, none]) true (jl_cons (ja_dr rfl) (jl_cons (ja_scr rfl) (jl_cons (jd_con (v := (6 : Int)) rfl) jl_nil))) (show ([1, 0] : List Nat).Nodup by decide) rfl (cDraw _ _ _ _ h_70) (fl_v rfl) rfl) rfl rfl rfl ?_
            obtain ⟨best_71, h_72, h⟩ := bnd h
            refine st_asg (e2 := [some (.scr script_0), some (drV u_69.2), some (.own (List.map En.e (s_35.2.1 : (List (Int × Str))))), some (.d (En.e (s_35.2.2 : Int))), (jd x_11), some (.d (En.e (u_37.1 : Int))), some (.d (En.e (k_39 : Str))), some (.own (List.map En.e (days_48 : (List Int)))), some (.d (En.e (u_57.1 : Int))), some (.d (En.e (last_61 : Int))), some (.d (En.e (most_ans_63 : (Option Int)))), some (.d (En.e (u_69.1 : Int))), some (.d (En.e (best_71 : (Option Int)))), none, none, none, none, none, none, none, none, none, none]) (jd_som (jd_con (v := (none : (Option Int))) rfl) h_72) rfl rfl rfl ?_
            obtain ⟨r_73, h_74, h⟩ := bnd h
            obtain ⟨s_88, h_89, h⟩ := bnd h
            refine st_foldO (fun (s_76 : (Option Int)) (e_ : Env) => ∃ (x_77 : Option D) (x_78 : Option D), e_ = [some (.scr script_0), some (drV u_69.2), some (.own (List.map En.e (s_35.2.1 : (List (Int × Str))))), some (.d (En.e (s_35.2.2 : Int))), (jd x_77), some (.d (En.e (u_37.1 : Int))), some (.d (En.e (k_39 : Str))), some (.own (List.map En.e (days_48 : (List Int)))), some (.d (En.e (u_57.1 : Int))), some (.d (En.e (last_61 : Int))), some (.d (En.e (most_ans_63 : (Option Int)))), some (.d (En.e (u_69.1 : Int))), some (.d (En.e (s_76 : (Option Int)))), (jd x_78), none, none, none, none, none, none, none, none, none]) h_89 (ji_rng3 (jx_d (jd_con (v := (60 : Int)) rfl)) (jx_d (jd_neg (jx_d (jd_con (v := (1 : Int)) rfl)))) h_74) ⟨x_11, none, rfl⟩ (fun _ _ _ => trivial) (fun a_75 s_76 e_ r_ _ hR h_83 => ?_) (fun e_ hR => ?_)
            · obtain ⟨x_77, x_78, rfl⟩ := hR
              show ∃ e2, bindT _ _ _ [some (.scr script_0), some (drV u_69.2), some (.own (List.map En.e (s_35.2.1 : (List (Int × Str))))), some (.d (En.e (s_35.2.2 : Int))), (jd x_77), some (.d (En.e (u_37.1 : Int))), some (.d (En.e (k_39 : Str))), some (.own (List.map En.e (days_48 : (List Int)))), some (.d (En.e (u_57.1 : Int))), some (.d (En.e (last_61 : Int))), some (.d (En.e (most_ans_63 : (Option Int)))), some (.d (En.e (u_69.1 : Int))), some (.d (En.e (s_76 : (Option Int)))), (jd x_78), none, none, none, none, none, none, none, none, none] = some e2 ∧ _
              refine ⟨[some (.scr script_0), some (drV u_69.2), some (.own (List.map En.e (s_35.2.1 : (List (Int × Str))))), some (.d (En.e (s_35.2.2 : Int))), (jd x_77), some (.d (En.e (u_37.1 : Int))), some (.d (En.e (k_39 : Str))), some (.own (List.map En.e (days_48 : (List Int)))), some (.d (En.e (u_57.1 : Int))), some (.d (En.e (last_61 : Int))), some (.d (En.e (most_ans_63 : (Option Int)))), some (.d (En.e (u_69.1 : Int))), some (.d (En.e (s_76 : (Option Int)))), some (.d (En.e (a_75 : Int))), none, none, none, none, none, none, none, none, none], rfl, ?_⟩
              obtain ⟨answered_84, h_85, h_83⟩ := bnd h_83
              refine st_ifs (jc_d (jd_le (jx_d (jd_len (jx_o (jw_call (v := .own (List.map En.e (answered_84 : (List Int)))) (rs := [.ali 2, .v (.d (En.e (a_75 : Int)))]) (ws := [.d (En.e (s_35.2.1 : (List (Int × Str)))), .d (En.e (a_75 : Int))]) (ws' := [.d (En.e (s_35.2.1 : (List (Int × Str)))), .d (En.e (a_75 : Int))]) (e2 := [some (.scr script_0), some (drV u_69.2), some (.own (List.map En.e (s_35.2.1 : (List (Int × Str))))), some (.d (En.e (s_35.2.2 : Int))), (jd x_77), some (.d (En.e (u_37.1 : Int))), some (.d (En.e (k_39 : Str))), some (.own (List.map En.e (days_48 : (List Int)))), some (.d (En.e (u_57.1 : Int))), some (.d (En.e (last_61 : Int))), some (.d (En.e (most_ans_63 : (Option Int)))), some (.d (En.e (u_69.1 : Int))), some (.d (En.e (s_76 : (Option Int)))), some (.d (En.e (a_75 : Int))), none, none, none, none, none, none, none, none, none]) true (jl_cons (ja_var rfl) (jl_cons (jd_var (v := (a_75 : Int)) rfl) jl_nil)) (show ([2] : List Nat).Nodup by decide) rfl (c9 _ _ _ h_85) (fl_o rfl) rfl)))) (jx_d (jd_var (v := (u_69.1 : Int)) rfl)))) (fun hp => ?_) (fun hp => ?_)
              · replace h_83 := if_t h_83 hp
                obtain ⟨best_86, h_87, h_83⟩ := bnd h_83
                refine st_asg (e2 := [some (.scr script_0), some (drV u_69.2), some (.own (List.map En.e (s_35.2.1 : (List (Int × Str))))), some (.d (En.e (s_35.2.2 : Int))), (jd x_77), some (.d (En.e (u_37.1 : Int))), some (.d (En.e (k_39 : Str))), some (.own (List.map En.e (days_48 : (List Int)))), some (.d (En.e (u_57.1 : Int))), some (.d (En.e (last_61 : Int))), some (.d (En.e (most_ans_63 : (Option Int)))), some (.d (En.e (u_69.1 : Int))), some (.d (En.e (best_86 : (Option Int)))), some (.d (En.e (a_75 : Int))), none, none, none, none, none, none, none, none, none]) (jd_som (jd_cast (jd_var (v := (a_75 : Int)) rfl) (w := (some a_75 : (Option Int))) rfl) h_87) rfl rfl rfl ?_
                refine ok_nilT ?_
                have hE_ := Option.some.inj h_83
                subst hE_
                exact ok_nil (show ∃ (x_77w : Option D) (x_78w : Option D), ([some (.scr script_0), some (drV u_69.2), some (.own (List.map En.e (s_35.2.1 : (List (Int × Str))))), some (.d (En.e (s_35.2.2 : Int))), (jd x_77), some (.d (En.e (u_37.1 : Int))), some (.d (En.e (k_39 : Str))), some (.own (List.map En.e (days_48 : (List Int)))), some (.d (En.e (u_57.1 : Int))), some (.d (En.e (last_61 : Int))), some (.d (En.e (most_ans_63 : (Option Int)))), some (.d (En.e (u_69.1 : Int))), some (.d (En.e (best_86 : (Option Int)))), some (.d (En.e (a_75 : Int))), none, none, none, none, none, none, none, none, none] : Env) = [some (.scr script_0), some (drV u_69.2), some (.own (List.map En.e (s_35.2.1 : (List (Int × Str))))), some (.d (En.e (s_35.2.2 : Int))), (jd x_77w), some (.d (En.e (u_37.1 : Int))), some (.d (En.e (k_39 : Str))), some (.own (List.map En.e (days_48 : (List Int)))), some (.d (En.e (u_57.1 : Int))), some (.d (En.e (last_61 : Int))), some (.d (En.e (most_ans_63 : (Option Int)))), some (.d (En.e (u_69.1 : Int))), some (.d (En.e ((best_86 : (Option Int)) : (Option Int)))), (jd x_78w), none, none, none, none, none, none, none, none, none] from ⟨x_77, (some (En.e (a_75 : Int))), rfl⟩)
              · replace h_83 := if_f h_83 hp
                refine ok_nilT ?_
                have hE_ := Option.some.inj h_83
                subst hE_
                exact ok_nil (show ∃ (x_77w : Option D) (x_78w : Option D), ([some (.scr script_0), some (drV u_69.2), some (.own (List.map En.e (s_35.2.1 : (List (Int × Str))))), some (.d (En.e (s_35.2.2 : Int))), (jd x_77), some (.d (En.e (u_37.1 : Int))), some (.d (En.e (k_39 : Str))), some (.own (List.map En.e (days_48 : (List Int)))), some (.d (En.e (u_57.1 : Int))), some (.d (En.e (last_61 : Int))), some (.d (En.e (most_ans_63 : (Option Int)))), some (.d (En.e (u_69.1 : Int))), some (.d (En.e (s_76 : (Option Int)))), some (.d (En.e (a_75 : Int))), none, none, none, none, none, none, none, none, none] : Env) = [some (.scr script_0), some (drV u_69.2), some (.own (List.map En.e (s_35.2.1 : (List (Int × Str))))), some (.d (En.e (s_35.2.2 : Int))), (jd x_77w), some (.d (En.e (u_37.1 : Int))), some (.d (En.e (k_39 : Str))), some (.own (List.map En.e (days_48 : (List Int)))), some (.d (En.e (u_57.1 : Int))), some (.d (En.e (last_61 : Int))), some (.d (En.e (most_ans_63 : (Option Int)))), some (.d (En.e (u_69.1 : Int))), some (.d (En.e ((s_76 : (Option Int)) : (Option Int)))), (jd x_78w), none, none, none, none, none, none, none, none, none] from ⟨x_77, (some (En.e (a_75 : Int))), rfl⟩)
            · obtain ⟨x_77, x_78, rfl⟩ := hR
              show OK (evSs _ _ _ [some (.scr script_0), some (drV u_69.2), some (.own (List.map En.e (s_35.2.1 : (List (Int × Str))))), some (.d (En.e (s_35.2.2 : Int))), (jd x_77), some (.d (En.e (u_37.1 : Int))), some (.d (En.e (k_39 : Str))), some (.own (List.map En.e (days_48 : (List Int)))), some (.d (En.e (u_57.1 : Int))), some (.d (En.e (last_61 : Int))), some (.d (En.e (most_ans_63 : (Option Int)))), some (.d (En.e (u_69.1 : Int))), some (.d (En.e (s_88 : (Option Int)))), (jd x_78), none, none, none, none, none, none, none, none, none]) _
              obtain ⟨pause_fo_90, h_91, h⟩ := bnd h
              obtain ⟨k_92, h_93, h⟩ := bnd h
              obtain ⟨k_94, h_95, h⟩ := bnd h
              refine st_ifs (jc_d (jd_ne (by decide) (jx_d (jd_repr (jx_d (jw_call (v := .d (En.e (pause_fo_90 : (Option Int)))) (rs := [.ali 2, .v (.d (En.e (u_69.1 : Int)))]) (ws := [.d (En.e (s_35.2.1 : (List (Int × Str)))), .d (En.e (u_69.1 : Int))]) (ws' := [.d (En.e (s_35.2.1 : (List (Int × Str)))), .d (En.e (u_69.1 : Int))]) (e2 := [some (.scr script_0), some (drV u_69.2), some (.own (List.map En.e (s_35.2.1 : (List (Int × Str))))), some (.d (En.e (s_35.2.2 : Int))), (jd x_77), some (.d (En.e (u_37.1 : Int))), some (.d (En.e (k_39 : Str))), some (.own (List.map En.e (days_48 : (List Int)))), some (.d (En.e (u_57.1 : Int))), some (.d (En.e (last_61 : Int))), some (.d (En.e (most_ans_63 : (Option Int)))), some (.d (En.e (u_69.1 : Int))), some (.d (En.e (s_88 : (Option Int)))), (jd x_78), none, none, none, none, none, none, none, none, none]) true (jl_cons (ja_var rfl) (jl_cons (jd_var (v := (u_69.1 : Int)) rfl) jl_nil)) (show ([2] : List Nat).Nodup by decide) rfl (c6 _ _ _ h_91) (fl_v rfl) rfl)) h_93)) (jx_d (jd_repr (jx_d (jd_var (v := (s_88 : (Option Int))) rfl)) h_95)))) (fun hp => ?_) (fun hp => ?_)
              · replace h := if_t h hp
                have hE_ := Option.some.inj h
                subst hE_
                exact st_ret (jd_con (v := false) rfl) (show endF [] [.scr script_0] (.rt (.v (.d (En.e (false : Bool)))) [some (.scr script_0), some (drV u_69.2), some (.own (List.map En.e (s_35.2.1 : (List (Int × Str))))), some (.d (En.e (s_35.2.2 : Int))), (jd x_77), some (.d (En.e (u_37.1 : Int))), some (.d (En.e (k_39 : Str))), some (.own (List.map En.e (days_48 : (List Int)))), some (.d (En.e (u_57.1 : Int))), some (.d (En.e (last_61 : Int))), some (.d (En.e (most_ans_63 : (Option Int)))), some (.d (En.e (u_69.1 : Int))), some (.d (En.e (s_88 : (Option Int)))), (jd x_78), none, none, none, none, none, none, none, none, none]) = some (.d (En.e (false : Bool)), [.scr script_0]) from (by first | rfl | simp [endF, outs, isSt]))
              · replace h := if_f h hp
                refine ok_nilT ?_
                obtain ⟨u_96, h_97, h⟩ := bnd h
                obtain ⟨u_98, h_99, h⟩ := bnd h
                obtain ⟨pauses_100, h_101, h⟩ := bnd h
                refine st_asg (e2 := [some (.scr script_0), some (drV u_98.2), some (.own (List.map En.e (s_35.2.1 : (List (Int × Str))))), some (.d (En.e (s_35.2.2 : Int))), (jd x_77), some (.d (En.e (u_37.1 : Int))), some (.d (En.e (k_39 : Str))), some (.own (List.map En.e (days_48 : (List Int)))), some (.d (En.e (u_57.1 : Int))), some (.d (En.e (last_61 : Int))), some (.d (En.e (most_ans_63 : (Option Int)))), some (.d (En.e (u_69.1 : Int))), some (.d (En.e (s_88 : (Option Int)))), (jd x_78), some (.d (En.e (pauses_100 : (Int × Int)))), none, none, none, none, none, none, none, none]) (jd_som (jd_tup (v := ((u_96.1, u_98.1) : (Int × Int))) (ef_cons (jf_d (jw_call (v := .d (En.e (u_96.1 : Int))) (rs := [.ali 1, .ali 0, .v (.d (En.e (9 : Int)))]) (ws := [drV u_69.2, .scr script_0, .d (En.e (9 : Int))]) (ws' := [drV u_96.2, .scr script_0, .d (En.e (9 : Int))]) (e2 := [some (.scr script_0), some (drV u_96.2), some (.own (List.map En.e (s_35.2.1 : (List (Int × Str))))), some (.d (En.e (s_35.2.2 : Int))), (jd x_77), some (.d (En.e (u_37.1 : Int))), some (.d (En.e (k_39 : Str))), some (.own (List.map En.e (days_48 : (List Int)))), some (.d (En.e (u_57.1 : Int))), some (.d (En.e (last_61 : Int))), some (.d (En.e (most_ans_63 : (Option Int)))), some (.d (En.e (u_69.1 : Int))), some (.d (En.e (s_88 : (Option Int)))), (jd x_78), none, none, none, none, none, none, none, none, none]) true (jl_cons (ja_dr rfl) (jl_cons (ja_scr rfl) (jl_cons (jd_con (v := (9 : Int)) rfl) jl_nil))) (show ([1, 0] : List Nat).Nodup by decide) rfl (cDraw _ _ _ _ h_97) (fl_v rfl) rfl)) (ef_cons (jf_d (jw_call (v := .d (En.e (u_98.1 : Int))) (rs := [.ali 1, .ali 0, .v (.d (En.e (9 : Int)))]) (ws := [drV u_96.2, .scr script_0, .d (En.e (9 : Int))]) (ws' := [drV u_98.2, .scr script_0, .d (En.e (9 : Int))]) (e2 := [some (.scr script_0), some (drV u_98.2), some (.own (List.map En.e (s_35.2.1 : (List (Int × Str))))), some (.d (En.e (s_35.2.2 : Int))), (jd x_77), some (.d (En.e (u_37.1 : Int))), some (.d (En.e (k_39 : Str))), some (.own (List.map En.e (days_48 : (List Int)))), some (.d (En.e (u_57.1 : Int))), some (.d (En.e (last_61 : Int))), some (.d (En.e (most_ans_63 : (Option Int)))), some (.d (En.e (u_69.1 : Int))), some (.d (En.e (s_88 : (Option Int)))), (jd x_78), none, none, none, none, none, none, none, none, none]) true (jl_cons (ja_dr rfl) (jl_cons (ja_scr rfl) (jl_cons (jd_con (v := (9 : Int)) rfl) jl_nil))) (show ([1, 0] : List Nat).Nodup by decide) rfl (cDraw _ _ _ _ h_99) (fl_v rfl) rfl)) ef_nil)) rfl) h_101) rfl rfl rfl ?_
                obtain ⟨u_102, h_103, h⟩ := bnd h
                obtain ⟨u_104, h_105, h⟩ := bnd h
                obtain ⟨delays_106, h_107, h⟩ := bnd h
                refine st_asg (e2 := [some (.scr script_0), some (drV u_104.2), some (.own (List.map En.e (s_35.2.1 : (List (Int × Str))))), some (.d (En.e (s_35.2.2 : Int))), (jd x_77), some (.d (En.e (u_37.1 : Int))), some (.d (En.e (k_39 : Str))), some (.own (List.map En.e (days_48 : (List Int)))), some (.d (En.e (u_57.1 : Int))), some (.d (En.e (last_61 : Int))), some (.d (En.e (most_ans_63 : (Option Int)))), some (.d (En.e (u_69.1 : Int))), some (.d (En.e (s_88 : (Option Int)))), (jd x_78), some (.d (En.e (pauses_100 : (Int × Int)))), some (.d (En.e (delays_106 : (Int × Int)))), none, none, none, none, none, none, none]) (jd_som (jd_tup (v := ((u_102.1, u_104.1) : (Int × Int))) (ef_cons (jf_d (jw_call (v := .d (En.e (u_102.1 : Int))) (rs := [.ali 1, .ali 0, .v (.d (En.e (5 : Int)))]) (ws := [drV u_98.2, .scr script_0, .d (En.e (5 : Int))]) (ws' := [drV u_102.2, .scr script_0, .d (En.e (5 : Int))]) (e2 := [some (.scr script_0), some (drV u_102.2), some (.own (List.map En.e (s_35.2.1 : (List (Int × Str))))), some (.d (En.e (s_35.2.2 : Int))), (jd x_77), some (.d (En.e (u_37.1 : Int))), some (.d (En.e (k_39 : Str))), some (.own (List.map En.e (days_48 : (List Int)))), some (.d (En.e (u_57.1 : Int))), some (.d (En.e (last_61 : Int))), some (.d (En.e (most_ans_63 : (Option Int)))), some (.d (En.e (u_69.1 : Int))), some (.d (En.e (s_88 : (Option Int)))), (jd x_78), some (.d (En.e (pauses_100 : (Int × Int)))), none, none, none, none, none, none, none, none]) true (jl_cons (ja_dr rfl) (jl_cons (ja_scr rfl) (jl_cons (jd_con (v := (5 : Int)) rfl) jl_nil))) (show ([1, 0] : List Nat).Nodup by decide) rfl (cDraw _ _ _ _ h_103) (fl_v rfl) rfl)) (ef_cons (jf_d (jw_call (v := .d (En.e (u_104.1 : Int))) (rs := [.ali 1, .ali 0, .v (.d (En.e (5 : Int)))]) (ws := [drV u_102.2, .scr script_0, .d (En.e (5 : Int))]) (ws' := [drV u_104.2, .scr script_0, .d (En.e (5 : Int))]) (e2 := [some (.scr script_0), some (drV u_104.2), some (.own (List.map En.e (s_35.2.1 : (List (Int × Str))))), some (.d (En.e (s_35.2.2 : Int))), (jd x_77), some (.d (En.e (u_37.1 : Int))), some (.d (En.e (k_39 : Str))), some (.own (List.map En.e (days_48 : (List Int)))), some (.d (En.e (u_57.1 : Int))), some (.d (En.e (last_61 : Int))), some (.d (En.e (most_ans_63 : (Option Int)))), some (.d (En.e (u_69.1 : Int))), some (.d (En.e (s_88 : (Option Int)))), (jd x_78), some (.d (En.e (pauses_100 : (Int × Int)))), none, none, none, none, none, none, none, none]) true (jl_cons (ja_dr rfl) (jl_cons (ja_scr rfl) (jl_cons (jd_con (v := (5 : Int)) rfl) jl_nil))) (show ([1, 0] : List Nat).Nodup by decide) rfl (cDraw _ _ _ _ h_105) (fl_v rfl) rfl)) ef_nil)) rfl) h_107) rfl rfl rfl ?_
                obtain ⟨talk_108, h_109, h⟩ := bnd h
                refine st_asgT (v := (talk_108 : (H2 (List (Int × Int)) Bool))) (e2 := [some (.scr script_0), some (drV u_104.2), some (.own (List.map En.e (s_35.2.1 : (List (Int × Str))))), some (.d (En.e (s_35.2.2 : Int))), (jd x_77), some (.d (En.e (u_37.1 : Int))), some (.d (En.e (k_39 : Str))), some (.own (List.map En.e (days_48 : (List Int)))), some (.d (En.e (u_57.1 : Int))), some (.d (En.e (last_61 : Int))), some (.d (En.e (most_ans_63 : (Option Int)))), some (.d (En.e (u_69.1 : Int))), some (.d (En.e (s_88 : (Option Int)))), (jd x_78), some (.d (En.e (pauses_100 : (Int × Int)))), some (.d (En.e (delays_106 : (Int × Int)))), some (.d (En.e (talk_108.a : (List (Int × Int))))), some (.d (En.e (talk_108.b : Bool))), none, none, none, none, none]) (jf_d (jw_callP (rs := [.v (.d (En.e (pauses_100 : (Int × Int)))), .v (.d (En.e (delays_106 : (Int × Int)))), .v (.d (En.e (u_57.1 : Int))), .v (.d (En.e (40 : Int)))]) (ws := [.d (En.e (pauses_100 : (Int × Int))), .d (En.e (delays_106 : (Int × Int))), .d (En.e (u_57.1 : Int)), .d (En.e (40 : Int))]) (ws' := [.d (En.e (pauses_100 : (Int × Int))), .d (En.e (delays_106 : (Int × Int))), .d (En.e (u_57.1 : Int)), .d (En.e (40 : Int))]) (jl_cons (jd_var (v := (pauses_100 : (Int × Int))) rfl) (jl_cons (jd_var (v := (delays_106 : (Int × Int))) rfl) (jl_cons (jd_var (v := (u_57.1 : Int)) rfl) (jl_cons (jd_con (v := (40 : Int)) rfl) jl_nil)))) rfl rfl (c10 _ _ _ _ _ h_109))) rfl ?_
                obtain ⟨talk_110, h_111, h⟩ := bnd h
                refine st_asg (e2 := [some (.scr script_0), some (drV u_104.2), some (.own (List.map En.e (s_35.2.1 : (List (Int × Str))))), some (.d (En.e (s_35.2.2 : Int))), (jd x_77), some (.d (En.e (u_37.1 : Int))), some (.d (En.e (k_39 : Str))), some (.own (List.map En.e (days_48 : (List Int)))), some (.d (En.e (u_57.1 : Int))), some (.d (En.e (last_61 : Int))), some (.d (En.e (most_ans_63 : (Option Int)))), some (.d (En.e (u_69.1 : Int))), some (.d (En.e (s_88 : (Option Int)))), (jd x_78), some (.d (En.e (pauses_100 : (Int × Int)))), some (.d (En.e (delays_106 : (Int × Int)))), some (.d (En.e (talk_108.a : (List (Int × Int))))), some (.d (En.e (talk_108.b : Bool))), some (.d (En.e (talk_110 : (Str × (List (Int × Int)))))), none, none, none, none]) (jw_callP (rs := [.v (.d (En.e (pauses_100.1 : Int))), .v (.d (En.e (pauses_100.2 : Int))), .v (.d (En.e (delays_106 : (Int × Int)))), .v (.d (En.e (u_57.1 : Int)))]) (ws := [.d (En.e (pauses_100.1 : Int)), .d (En.e (pauses_100.2 : Int)), .d (En.e (delays_106 : (Int × Int))), .d (En.e (u_57.1 : Int))]) (ws' := [.d (En.e (pauses_100.1 : Int)), .d (En.e (pauses_100.2 : Int)), .d (En.e (delays_106 : (Int × Int))), .d (En.e (u_57.1 : Int))]) (jl_cons (jd_idx (v := (pauses_100.1 : Int)) (jx_d (jd_var (v := (pauses_100 : (Int × Int))) rfl)) (jx_d (jd_con (v := (0 : Int)) rfl)) rfl) (jl_cons (jd_idx (v := (pauses_100.2 : Int)) (jx_d (jd_var (v := (pauses_100 : (Int × Int))) rfl)) (jx_d (jd_con (v := (1 : Int)) rfl)) rfl) (jl_cons (jd_var (v := (delays_106 : (Int × Int))) rfl) (jl_cons (jd_var (v := (u_57.1 : Int)) rfl) jl_nil)))) rfl rfl (c2 _ _ _ _ _ h_111)) rfl rfl rfl ?_
                obtain ⟨x_114, h_115, h⟩ := bnd h
                refine st_ifs (jc_or (jc_d (jd_ne (by decide) (jx_d (jd_idx (v := (talk_110.1 : Str)) (jx_d (jd_var (v := (talk_110 : (Str × (List (Int × Int))))) rfl)) (jx_d (jd_con (v := (0 : Int)) rfl)) rfl)) (jx_d (jd_at (jx_o (jo_lst (v := ([("round" : Str), ("ends" : Str)] : (List Str))) (ef_cons (jf_d (jd_con (v := ("round" : Str)) rfl)) (ef_cons (jf_d (jd_con (v := ("ends" : Str)) rfl)) ef_nil)) rfl)) (jx_d (jd_b2i (jx_d (jd_var (v := (talk_108.b : Bool)) rfl)))) h_115)))) (jc_or (jc_d (jd_ne (by decide) (jx_d (jd_idx (v := (talk_110.2 : (List (Int × Int)))) (jx_d (jd_var (v := (talk_110 : (Str × (List (Int × Int))))) rfl)) (jx_d (jd_con (v := (1 : Int)) rfl)) rfl)) (jx_o (jo_sli (jx_d (jd_var (v := (talk_108.a : (List (Int × Int)))) rfl)) jp_none (jp_some (jx_d (jd_len (jx_d (jd_idx (v := (talk_110.2 : (List (Int × Int)))) (jx_d (jd_var (v := (talk_110 : (Str × (List (Int × Int))))) rfl)) (jx_d (jd_con (v := (1 : Int)) rfl)) rfl)))) rfl))))) (jc_and (jc_d (jd_var (v := (talk_108.b : Bool)) rfl)) (jc_d (jd_ne (by decide) (jx_d (jd_idx (v := (talk_110.2 : (List (Int × Int)))) (jx_d (jd_var (v := (talk_110 : (Str × (List (Int × Int))))) rfl)) (jx_d (jd_con (v := (1 : Int)) rfl)) rfl)) (jx_d (jd_var (v := (talk_108.a : (List (Int × Int)))) rfl))))))) (fun hp => ?_) (fun hp => ?_)
                · replace h := if_t h hp
                  have hE_ := Option.some.inj h
                  subst hE_
                  exact st_ret (jd_con (v := false) rfl) (show endF [] [.scr script_0] (.rt (.v (.d (En.e (false : Bool)))) [some (.scr script_0), some (drV u_104.2), some (.own (List.map En.e (s_35.2.1 : (List (Int × Str))))), some (.d (En.e (s_35.2.2 : Int))), (jd x_77), some (.d (En.e (u_37.1 : Int))), some (.d (En.e (k_39 : Str))), some (.own (List.map En.e (days_48 : (List Int)))), some (.d (En.e (u_57.1 : Int))), some (.d (En.e (last_61 : Int))), some (.d (En.e (most_ans_63 : (Option Int)))), some (.d (En.e (u_69.1 : Int))), some (.d (En.e (s_88 : (Option Int)))), (jd x_78), some (.d (En.e (pauses_100 : (Int × Int)))), some (.d (En.e (delays_106 : (Int × Int)))), some (.d (En.e (talk_108.a : (List (Int × Int))))), some (.d (En.e (talk_108.b : Bool))), some (.d (En.e (talk_110 : (Str × (List (Int × Int)))))), none, none, none, none]) = some (.d (En.e (false : Bool)), [.scr script_0]) from (by first | rfl | simp [endF, outs, isSt]))
                · replace h := if_f h hp
                  refine ok_nilT ?_
                  obtain ⟨goes_on_119, h_120, h⟩ := bnd h
                  refine st_ifs (jc_d (jd_ne (by decide) (jx_d (jw_callP (rs := [.v (.d (En.e (pauses_100.1 : Int))), .v (.d (En.e (pauses_100.2 : Int))), .v (.d (En.e (delays_106 : (Int × Int))))]) (ws := [.d (En.e (pauses_100.1 : Int)), .d (En.e (pauses_100.2 : Int)), .d (En.e (delays_106 : (Int × Int)))]) (ws' := [.d (En.e (pauses_100.1 : Int)), .d (En.e (pauses_100.2 : Int)), .d (En.e (delays_106 : (Int × Int)))]) (jl_cons (jd_idx (v := (pauses_100.1 : Int)) (jx_d (jd_var (v := (pauses_100 : (Int × Int))) rfl)) (jx_d (jd_con (v := (0 : Int)) rfl)) rfl) (jl_cons (jd_idx (v := (pauses_100.2 : Int)) (jx_d (jd_var (v := (pauses_100 : (Int × Int))) rfl)) (jx_d (jd_con (v := (1 : Int)) rfl)) rfl) (jl_cons (jd_var (v := (delays_106 : (Int × Int))) rfl) jl_nil))) rfl rfl (c3 _ _ _ _ h_120))) (jx_d (jd_not (jc_d (jd_var (v := (talk_108.b : Bool)) rfl)))))) (fun hp => ?_) (fun hp => ?_)
                  · replace h := if_t h hp
                    have hE_ := Option.some.inj h
                    subst hE_
                    exact st_ret (jd_con (v := false) rfl) (show endF [] [.scr script_0] (.rt (.v (.d (En.e (false : Bool)))) [some (.scr script_0), some (drV u_104.2), some (.own (List.map En.e (s_35.2.1 : (List (Int × Str))))), some (.d (En.e (s_35.2.2 : Int))), (jd x_77), some (.d (En.e (u_37.1 : Int))), some (.d (En.e (k_39 : Str))), some (.own (List.map En.e (days_48 : (List Int)))), some (.d (En.e (u_57.1 : Int))), some (.d (En.e (last_61 : Int))), some (.d (En.e (most_ans_63 : (Option Int)))), some (.d (En.e (u_69.1 : Int))), some (.d (En.e (s_88 : (Option Int)))), (jd x_78), some (.d (En.e (pauses_100 : (Int × Int)))), some (.d (En.e (delays_106 : (Int × Int)))), some (.d (En.e (talk_108.a : (List (Int × Int))))), some (.d (En.e (talk_108.b : Bool))), some (.d (En.e (talk_110 : (Str × (List (Int × Int)))))), none, none, none, none]) = some (.d (En.e (false : Bool)), [.scr script_0]) from (by first | rfl | simp [endF, outs, isSt]))
                  · replace h := if_f h hp
                    refine ok_nilT ?_
                    refine st_ifs (jc_and (jc_not (jc_d (jd_var (v := (talk_108.b : Bool)) rfl))) (jc_not (jc_d (jd_chain (p := decide (2 ≤ (talk_110.2.length : Int))) (q := decide ((talk_110.2.length : Int) ≤ 6)) (jx_d (jd_con (v := (2 : Int)) rfl)) (jx_d (jd_len (jx_d (jd_idx (v := (talk_110.2 : (List (Int × Int)))) (jx_d (jd_var (v := (talk_110 : (Str × (List (Int × Int))))) rfl)) (jx_d (jd_con (v := (1 : Int)) rfl)) rfl)))) (jx_d (jd_con (v := (6 : Int)) rfl)) rfl rfl)))) (fun hp => ?_) (fun hp => ?_)
                    · replace h := if_t h hp
                      have hE_ := Option.some.inj h
                      subst hE_
                      exact st_ret (jd_con (v := false) rfl) (show endF [] [.scr script_0] (.rt (.v (.d (En.e (false : Bool)))) [some (.scr script_0), some (drV u_104.2), some (.own (List.map En.e (s_35.2.1 : (List (Int × Str))))), some (.d (En.e (s_35.2.2 : Int))), (jd x_77), some (.d (En.e (u_37.1 : Int))), some (.d (En.e (k_39 : Str))), some (.own (List.map En.e (days_48 : (List Int)))), some (.d (En.e (u_57.1 : Int))), some (.d (En.e (last_61 : Int))), some (.d (En.e (most_ans_63 : (Option Int)))), some (.d (En.e (u_69.1 : Int))), some (.d (En.e (s_88 : (Option Int)))), (jd x_78), some (.d (En.e (pauses_100 : (Int × Int)))), some (.d (En.e (delays_106 : (Int × Int)))), some (.d (En.e (talk_108.a : (List (Int × Int))))), some (.d (En.e (talk_108.b : Bool))), some (.d (En.e (talk_110 : (Str × (List (Int × Int)))))), none, none, none, none]) = some (.d (En.e (false : Bool)), [.scr script_0]) from (by first | rfl | simp [endF, outs, isSt]))
                    · replace h := if_f h hp
                      refine ok_nilT ?_
                      obtain ⟨least_pa_122, h_123, h⟩ := bnd h
                      refine st_asg (e2 := [some (.scr script_0), some (drV u_104.2), some (.own (List.map En.e (s_35.2.1 : (List (Int × Str))))), some (.d (En.e (s_35.2.2 : Int))), (jd x_77), some (.d (En.e (u_37.1 : Int))), some (.d (En.e (k_39 : Str))), some (.own (List.map En.e (days_48 : (List Int)))), some (.d (En.e (u_57.1 : Int))), some (.d (En.e (last_61 : Int))), some (.d (En.e (most_ans_63 : (Option Int)))), some (.d (En.e (u_69.1 : Int))), some (.d (En.e (s_88 : (Option Int)))), (jd x_78), some (.d (En.e (pauses_100 : (Int × Int)))), some (.d (En.e (delays_106 : (Int × Int)))), some (.d (En.e (talk_108.a : (List (Int × Int))))), some (.d (En.e (talk_108.b : Bool))), some (.d (En.e (talk_110 : (Str × (List (Int × Int)))))), some (.d (En.e (least_pa_122 : Int))), none, none, none]) (jw_callP (rs := [.v (.d (En.e (delays_106 : (Int × Int))))]) (ws := [.d (En.e (delays_106 : (Int × Int)))]) (ws' := [.d (En.e (delays_106 : (Int × Int)))]) (jl_cons (jd_var (v := (delays_106 : (Int × Int))) rfl) jl_nil) rfl rfl (c4 _ _ h_123)) rfl rfl rfl ?_
                      obtain ⟨r_124, h_125, h⟩ := bnd h
                      obtain ⟨r_146, h_147, h⟩ := bnd h
                      refine st_forT (fun (s_127 : Unit) (e_ : Env) => ∃ (x_128 : Option D) (x_129 : Option D) (x_130 : Option D), e_ = [some (.scr script_0), some (drV u_104.2), some (.own (List.map En.e (s_35.2.1 : (List (Int × Str))))), some (.d (En.e (s_35.2.2 : Int))), (jd x_128), some (.d (En.e (u_37.1 : Int))), some (.d (En.e (k_39 : Str))), some (.own (List.map En.e (days_48 : (List Int)))), some (.d (En.e (u_57.1 : Int))), some (.d (En.e (last_61 : Int))), some (.d (En.e (most_ans_63 : (Option Int)))), some (.d (En.e (u_69.1 : Int))), some (.d (En.e (s_88 : (Option Int)))), (jd x_129), some (.d (En.e (pauses_100 : (Int × Int)))), some (.d (En.e (delays_106 : (Int × Int)))), some (.d (En.e (talk_108.a : (List (Int × Int))))), some (.d (En.e (talk_108.b : Bool))), some (.d (En.e (talk_110 : (Str × (List (Int × Int)))))), some (.d (En.e (least_pa_122 : Int))), (jd x_130), none, none]) (fun (v_ : Bool) r_ => endF [] [.scr script_0] r_ = some (.d (En.e (v_ : Bool)), [.scr script_0])) h_147 (ji_rng1 (jx_d (jd_con (v := (9 : Int)) rfl)) h_125) ⟨x_77, x_78, none, rfl⟩ (fun _ _ _ => trivial) (fun a_126 s_127 e_ r_ _ hR h_138 => ?_) (fun s_127 e_ hr hR => ?_) (fun v_ r_ e_ hr hF => ?_)
                      · obtain ⟨x_128, x_129, x_130, rfl⟩ := hR
                        show ∃ e2, bindT _ _ _ [some (.scr script_0), some (drV u_104.2), some (.own (List.map En.e (s_35.2.1 : (List (Int × Str))))), some (.d (En.e (s_35.2.2 : Int))), (jd x_128), some (.d (En.e (u_37.1 : Int))), some (.d (En.e (k_39 : Str))), some (.own (List.map En.e (days_48 : (List Int)))), some (.d (En.e (u_57.1 : Int))), some (.d (En.e (last_61 : Int))), some (.d (En.e (most_ans_63 : (Option Int)))), some (.d (En.e (u_69.1 : Int))), some (.d (En.e (s_88 : (Option Int)))), (jd x_129), some (.d (En.e (pauses_100 : (Int × Int)))), some (.d (En.e (delays_106 : (Int × Int)))), some (.d (En.e (talk_108.a : (List (Int × Int))))), some (.d (En.e (talk_108.b : Bool))), some (.d (En.e (talk_110 : (Str × (List (Int × Int)))))), some (.d (En.e (least_pa_122 : Int))), (jd x_130), none, none] = some e2 ∧ _
                        refine ⟨[some (.scr script_0), some (drV u_104.2), some (.own (List.map En.e (s_35.2.1 : (List (Int × Str))))), some (.d (En.e (s_35.2.2 : Int))), (jd x_128), some (.d (En.e (u_37.1 : Int))), some (.d (En.e (k_39 : Str))), some (.own (List.map En.e (days_48 : (List Int)))), some (.d (En.e (u_57.1 : Int))), some (.d (En.e (last_61 : Int))), some (.d (En.e (most_ans_63 : (Option Int)))), some (.d (En.e (u_69.1 : Int))), some (.d (En.e (s_88 : (Option Int)))), (jd x_129), some (.d (En.e (pauses_100 : (Int × Int)))), some (.d (En.e (delays_106 : (Int × Int)))), some (.d (En.e (talk_108.a : (List (Int × Int))))), some (.d (En.e (talk_108.b : Bool))), some (.d (En.e (talk_110 : (Str × (List (Int × Int)))))), some (.d (En.e (least_pa_122 : Int))), some (.d (En.e (a_126 : Int))), none, none], rfl, ?_⟩
                        obtain ⟨talk_139, h_140, h_138⟩ := bnd h_138
                        obtain ⟨p_144, h_145, h_138⟩ := bnd h_138
                        refine st_ifs (jc_orP (R := some (p_144, [some (.scr script_0), some (drV u_104.2), some (.own (List.map En.e (s_35.2.1 : (List (Int × Str))))), some (.d (En.e (s_35.2.2 : Int))), (jd x_128), some (.d (En.e (u_37.1 : Int))), some (.d (En.e (k_39 : Str))), some (.own (List.map En.e (days_48 : (List Int)))), some (.d (En.e (u_57.1 : Int))), some (.d (En.e (last_61 : Int))), some (.d (En.e (most_ans_63 : (Option Int)))), some (.d (En.e (u_69.1 : Int))), some (.d (En.e (s_88 : (Option Int)))), (jd x_129), some (.d (En.e (pauses_100 : (Int × Int)))), some (.d (En.e (delays_106 : (Int × Int)))), some (.d (En.e (talk_108.a : (List (Int × Int))))), some (.d (En.e (talk_108.b : Bool))), some (.d (En.e (talk_110 : (Str × (List (Int × Int)))))), some (.d (En.e (least_pa_122 : Int))), some (.d (En.e (a_126 : Int))), none, none])) (jc_not (jc_d (jd_idx (v := (talk_139.b : Bool)) (jx_d (jw_callP (rs := [.v (.d (En.e (((least_pa_122, a_126) : (Int × Int)) : (Int × Int)))), .v (.d (En.e (delays_106 : (Int × Int)))), .v (.d (En.e (u_57.1 : Int))), .v (.d (En.e (40 : Int)))]) (ws := [.d (En.e (((least_pa_122, a_126) : (Int × Int)) : (Int × Int))), .d (En.e (delays_106 : (Int × Int))), .d (En.e (u_57.1 : Int)), .d (En.e (40 : Int))]) (ws' := [.d (En.e (((least_pa_122, a_126) : (Int × Int)) : (Int × Int))), .d (En.e (delays_106 : (Int × Int))), .d (En.e (u_57.1 : Int)), .d (En.e (40 : Int))]) (jl_cons (jd_tup (v := ((least_pa_122, a_126) : (Int × Int))) (ef_cons (jf_d (jd_var (v := (least_pa_122 : Int)) rfl)) (ef_cons (jf_d (jd_var (v := (a_126 : Int)) rfl)) ef_nil)) rfl) (jl_cons (jd_var (v := (delays_106 : (Int × Int))) rfl) (jl_cons (jd_var (v := (u_57.1 : Int)) rfl) (jl_cons (jd_con (v := (40 : Int)) rfl) jl_nil)))) rfl rfl (c10 _ _ _ _ _ h_140))) (jx_d (jd_con (v := (1 : Int)) rfl)) rfl))) (fun hp => by have h_141 := if_f h_145 hp; obtain ⟨talk_142, h_143, h_141⟩ := bnd h_141; exact jc_som (jc_not (jc_d (jd_idx (v := (talk_142.b : Bool)) (jx_d (jw_callP (rs := [.v (.d (En.e (((a_126, least_pa_122) : (Int × Int)) : (Int × Int)))), .v (.d (En.e (delays_106 : (Int × Int)))), .v (.d (En.e (u_57.1 : Int))), .v (.d (En.e (40 : Int)))]) (ws := [.d (En.e (((a_126, least_pa_122) : (Int × Int)) : (Int × Int))), .d (En.e (delays_106 : (Int × Int))), .d (En.e (u_57.1 : Int)), .d (En.e (40 : Int))]) (ws' := [.d (En.e (((a_126, least_pa_122) : (Int × Int)) : (Int × Int))), .d (En.e (delays_106 : (Int × Int))), .d (En.e (u_57.1 : Int)), .d (En.e (40 : Int))]) (jl_cons (jd_tup (v := ((a_126, least_pa_122) : (Int × Int))) (ef_cons (jf_d (jd_var (v := (a_126 : Int)) rfl)) (ef_cons (jf_d (jd_var (v := (least_pa_122 : Int)) rfl)) ef_nil)) rfl) (jl_cons (jd_var (v := (delays_106 : (Int × Int))) rfl) (jl_cons (jd_var (v := (u_57.1 : Int)) rfl) (jl_cons (jd_con (v := (40 : Int)) rfl) jl_nil)))) rfl rfl (c10 _ _ _ _ _ h_143))) (jx_d (jd_con (v := (1 : Int)) rfl)) rfl))) h_141) (fun hp => by have hq := if_t h_145 hp; cases hq; rfl)) (fun hp => ?_) (fun hp => ?_)
                        · replace h_138 := if_t h_138 hp
                          have hE_ := Option.some.inj h_138
                          subst hE_
                          exact st_ret (jd_con (v := false) rfl) (show endF [] [.scr script_0] (.rt (.v (.d (En.e (false : Bool)))) [some (.scr script_0), some (drV u_104.2), some (.own (List.map En.e (s_35.2.1 : (List (Int × Str))))), some (.d (En.e (s_35.2.2 : Int))), (jd x_128), some (.d (En.e (u_37.1 : Int))), some (.d (En.e (k_39 : Str))), some (.own (List.map En.e (days_48 : (List Int)))), some (.d (En.e (u_57.1 : Int))), some (.d (En.e (last_61 : Int))), some (.d (En.e (most_ans_63 : (Option Int)))), some (.d (En.e (u_69.1 : Int))), some (.d (En.e (s_88 : (Option Int)))), (jd x_129), some (.d (En.e (pauses_100 : (Int × Int)))), some (.d (En.e (delays_106 : (Int × Int)))), some (.d (En.e (talk_108.a : (List (Int × Int))))), some (.d (En.e (talk_108.b : Bool))), some (.d (En.e (talk_110 : (Str × (List (Int × Int)))))), some (.d (En.e (least_pa_122 : Int))), some (.d (En.e (a_126 : Int))), none, none]) = some (.d (En.e (false : Bool)), [.scr script_0]) from (by first | rfl | simp [endF, outs, isSt]))
                        · replace h_138 := if_f h_138 hp
                          refine ok_nilT ?_
                          have hE_ := Option.some.inj h_138
                          subst hE_
                          exact ok_nil (show ∃ (x_128w : Option D) (x_129w : Option D) (x_130w : Option D), ([some (.scr script_0), some (drV u_104.2), some (.own (List.map En.e (s_35.2.1 : (List (Int × Str))))), some (.d (En.e (s_35.2.2 : Int))), (jd x_128), some (.d (En.e (u_37.1 : Int))), some (.d (En.e (k_39 : Str))), some (.own (List.map En.e (days_48 : (List Int)))), some (.d (En.e (u_57.1 : Int))), some (.d (En.e (last_61 : Int))), some (.d (En.e (most_ans_63 : (Option Int)))), some (.d (En.e (u_69.1 : Int))), some (.d (En.e (s_88 : (Option Int)))), (jd x_129), some (.d (En.e (pauses_100 : (Int × Int)))), some (.d (En.e (delays_106 : (Int × Int)))), some (.d (En.e (talk_108.a : (List (Int × Int))))), some (.d (En.e (talk_108.b : Bool))), some (.d (En.e (talk_110 : (Str × (List (Int × Int)))))), some (.d (En.e (least_pa_122 : Int))), some (.d (En.e (a_126 : Int))), none, none] : Env) = [some (.scr script_0), some (drV u_104.2), some (.own (List.map En.e (s_35.2.1 : (List (Int × Str))))), some (.d (En.e (s_35.2.2 : Int))), (jd x_128w), some (.d (En.e (u_37.1 : Int))), some (.d (En.e (k_39 : Str))), some (.own (List.map En.e (days_48 : (List Int)))), some (.d (En.e (u_57.1 : Int))), some (.d (En.e (last_61 : Int))), some (.d (En.e (most_ans_63 : (Option Int)))), some (.d (En.e (u_69.1 : Int))), some (.d (En.e (s_88 : (Option Int)))), (jd x_129w), some (.d (En.e (pauses_100 : (Int × Int)))), some (.d (En.e (delays_106 : (Int × Int)))), some (.d (En.e (talk_108.a : (List (Int × Int))))), some (.d (En.e (talk_108.b : Bool))), some (.d (En.e (talk_110 : (Str × (List (Int × Int)))))), some (.d (En.e (least_pa_122 : Int))), (jd x_130w), none, none] from ⟨x_128, x_129, (some (En.e (a_126 : Int))), rfl⟩)
                      · subst hr
                        replace h := goN h
                        obtain ⟨x_128, x_129, x_130, rfl⟩ := hR
                        show OK (evSs _ _ _ [some (.scr script_0), some (drV u_104.2), some (.own (List.map En.e (s_35.2.1 : (List (Int × Str))))), some (.d (En.e (s_35.2.2 : Int))), (jd x_128), some (.d (En.e (u_37.1 : Int))), some (.d (En.e (k_39 : Str))), some (.own (List.map En.e (days_48 : (List Int)))), some (.d (En.e (u_57.1 : Int))), some (.d (En.e (last_61 : Int))), some (.d (En.e (most_ans_63 : (Option Int)))), some (.d (En.e (u_69.1 : Int))), some (.d (En.e (s_88 : (Option Int)))), (jd x_129), some (.d (En.e (pauses_100 : (Int × Int)))), some (.d (En.e (delays_106 : (Int × Int)))), some (.d (En.e (talk_108.a : (List (Int × Int))))), some (.d (En.e (talk_108.b : Bool))), some (.d (En.e (talk_110 : (Str × (List (Int × Int)))))), some (.d (En.e (least_pa_122 : Int))), (jd x_130), none, none]) _
                        obtain ⟨talk_148, h_149, h⟩ := bnd h
                        refine st_ifs (jc_d (jd_idx (v := (talk_148.b : Bool)) (jx_d (jw_callP (rs := [.v (.d (En.e ((((least_pa_122 - 1), 0) : (Int × Int)) : (Int × Int)))), .v (.d (En.e (delays_106 : (Int × Int)))), .v (.d (En.e (u_57.1 : Int))), .v (.d (En.e (40 : Int)))]) (ws := [.d (En.e ((((least_pa_122 - 1), 0) : (Int × Int)) : (Int × Int))), .d (En.e (delays_106 : (Int × Int))), .d (En.e (u_57.1 : Int)), .d (En.e (40 : Int))]) (ws' := [.d (En.e ((((least_pa_122 - 1), 0) : (Int × Int)) : (Int × Int))), .d (En.e (delays_106 : (Int × Int))), .d (En.e (u_57.1 : Int)), .d (En.e (40 : Int))]) (jl_cons (jd_tup (v := (((least_pa_122 - 1), 0) : (Int × Int))) (ef_cons (jf_d (jd_sub (jx_d (jd_var (v := (least_pa_122 : Int)) rfl)) (jx_d (jd_con (v := (1 : Int)) rfl)))) (ef_cons (jf_d (jd_con (v := (0 : Int)) rfl)) ef_nil)) rfl) (jl_cons (jd_var (v := (delays_106 : (Int × Int))) rfl) (jl_cons (jd_var (v := (u_57.1 : Int)) rfl) (jl_cons (jd_con (v := (40 : Int)) rfl) jl_nil)))) rfl rfl (c10 _ _ _ _ _ h_149))) (jx_d (jd_con (v := (1 : Int)) rfl)) rfl)) (fun hp => ?_) (fun hp => ?_)
                        · replace h := if_t h hp
                          have hE_ := Option.some.inj h
                          subst hE_
                          exact st_ret (jd_con (v := false) rfl) (show endF [] [.scr script_0] (.rt (.v (.d (En.e (false : Bool)))) [some (.scr script_0), some (drV u_104.2), some (.own (List.map En.e (s_35.2.1 : (List (Int × Str))))), some (.d (En.e (s_35.2.2 : Int))), (jd x_128), some (.d (En.e (u_37.1 : Int))), some (.d (En.e (k_39 : Str))), some (.own (List.map En.e (days_48 : (List Int)))), some (.d (En.e (u_57.1 : Int))), some (.d (En.e (last_61 : Int))), some (.d (En.e (most_ans_63 : (Option Int)))), some (.d (En.e (u_69.1 : Int))), some (.d (En.e (s_88 : (Option Int)))), (jd x_129), some (.d (En.e (pauses_100 : (Int × Int)))), some (.d (En.e (delays_106 : (Int × Int)))), some (.d (En.e (talk_108.a : (List (Int × Int))))), some (.d (En.e (talk_108.b : Bool))), some (.d (En.e (talk_110 : (Str × (List (Int × Int)))))), some (.d (En.e (least_pa_122 : Int))), (jd x_130), none, none]) = some (.d (En.e (false : Bool)), [.scr script_0]) from (by first | rfl | simp [endF, outs, isSt]))
                        · replace h := if_f h hp
                          refine ok_nilT ?_
                          obtain ⟨k_150, h_151, h⟩ := bnd h
                          have hE_ := Option.some.inj h
                          subst hE_
                          exact st_ret (jd_eq (by decide) (jx_d (jd_repr (jx_own (v := (s_35.2.1 : (List (Int × Str)))) rfl rfl) h_151)) (jx_d (jd_var (v := (k_39 : Str)) rfl))) (show endF [] [.scr script_0] (.rt (.v (.d (En.e ((decide (k_150 = k_39)) : Bool)))) [some (.scr script_0), some (drV u_104.2), some (.own (List.map En.e (s_35.2.1 : (List (Int × Str))))), some (.d (En.e (s_35.2.2 : Int))), (jd x_128), some (.d (En.e (u_37.1 : Int))), some (.d (En.e (k_39 : Str))), some (.own (List.map En.e (days_48 : (List Int)))), some (.d (En.e (u_57.1 : Int))), some (.d (En.e (last_61 : Int))), some (.d (En.e (most_ans_63 : (Option Int)))), some (.d (En.e (u_69.1 : Int))), some (.d (En.e (s_88 : (Option Int)))), (jd x_129), some (.d (En.e (pauses_100 : (Int × Int)))), some (.d (En.e (delays_106 : (Int × Int)))), some (.d (En.e (talk_108.a : (List (Int × Int))))), some (.d (En.e (talk_108.b : Bool))), some (.d (En.e (talk_110 : (Str × (List (Int × Int)))))), some (.d (En.e (least_pa_122 : Int))), (jd x_130), none, none]) = some (.d (En.e ((decide (k_150 = k_39)) : Bool)), [.scr script_0]) from (by first | rfl | simp [endF, outs, isSt]))
                      · subst hr
                        replace h := goR h
                        cases h
                        exact hF
        · replace h := if_f h hp
          obtain ⟨r_152, h_153, h⟩ := bnd h
          obtain ⟨line_157, h_158, h⟩ := bnd h
          refine st_asg (e2 := [some (.scr script_0), some (drV u_59.2), some (.own (List.map En.e (s_35.2.1 : (List (Int × Str))))), some (.d (En.e (s_35.2.2 : Int))), (jd x_11), some (.d (En.e (u_37.1 : Int))), some (.d (En.e (k_39 : Str))), some (.own (List.map En.e (days_48 : (List Int)))), some (.d (En.e (u_57.1 : Int))), some (.d (En.e (last_61 : Int))), some (.d (En.e (most_ans_63 : (Option Int)))), none, none, none, none, none, none, none, none, none, none, some (.own (List.map En.e (line_157 : (List (Int × Str))))), none]) (jo_som (jo_lcM (α := Int) (β := (Int × Str)) (l := r_152) (fun x_154 => ((x_154, ("a" : Str)) : (Int × Str))) (ji_rng2 (jx_d (jd_var (v := (u_57.1 : Int)) rfl)) (jx_d (jd_add (jx_d (jd_var (v := (last_61 : Int)) rfl)) (jx_d (jd_con (v := (1 : Int)) rfl)))) h_153) rfl trivial rfl (fun x_154 _ => ⟨[some (.scr script_0), some (drV u_59.2), some (.own (List.map En.e (s_35.2.1 : (List (Int × Str))))), some (.d (En.e (x_154 : Int))), (jd x_11), some (.d (En.e (u_37.1 : Int))), some (.d (En.e (k_39 : Str))), some (.own (List.map En.e (days_48 : (List Int)))), some (.d (En.e (u_57.1 : Int))), some (.d (En.e (last_61 : Int))), some (.d (En.e (most_ans_63 : (Option Int)))), none, none, none, none, none, none, none, none, none, none, none, none], rfl, rfl, (jf_d (jd_tup (v := ((x_154, ("a" : Str)) : (Int × Str))) (ef_cons (jf_d (jd_var (v := (x_154 : Int)) rfl)) (ef_cons (jf_d (jd_con (v := ("a" : Str)) rfl)) ef_nil)) rfl))⟩)) h_158) rfl rfl rfl ?_
          obtain ⟨answered_159, h_160, h⟩ := bnd h
          refine st_ifs (jc_d (jd_ne (by decide) (jx_d (jd_var (v := (most_ans_63 : (Option Int))) rfl)) (jx_d (jd_cast (jd_len (jx_o (jw_call (v := .own (List.map En.e (answered_159 : (List Int)))) (rs := [.ali 21, .v (.d (En.e (u_37.1 : Int)))]) (ws := [.d (En.e (line_157 : (List (Int × Str)))), .d (En.e (u_37.1 : Int))]) (ws' := [.d (En.e (line_157 : (List (Int × Str)))), .d (En.e (u_37.1 : Int))]) (e2 := [some (.scr script_0), some (drV u_59.2), some (.own (List.map En.e (s_35.2.1 : (List (Int × Str))))), some (.d (En.e (s_35.2.2 : Int))), (jd x_11), some (.d (En.e (u_37.1 : Int))), some (.d (En.e (k_39 : Str))), some (.own (List.map En.e (days_48 : (List Int)))), some (.d (En.e (u_57.1 : Int))), some (.d (En.e (last_61 : Int))), some (.d (En.e (most_ans_63 : (Option Int)))), none, none, none, none, none, none, none, none, none, none, some (.own (List.map En.e (line_157 : (List (Int × Str))))), none]) true (jl_cons (ja_var rfl) (jl_cons (jd_var (v := (u_37.1 : Int)) rfl) jl_nil)) (show ([21] : List Nat).Nodup by decide) rfl (c9 _ _ _ h_160) (fl_o rfl) rfl))) (w := (some (answered_159.length : Int) : (Option Int))) rfl)))) (fun hp => ?_) (fun hp => ?_)
          · replace h := if_t h hp
            have hE_ := Option.some.inj h
            subst hE_
            exact st_ret (jd_con (v := false) rfl) (show endF [] [.scr script_0] (.rt (.v (.d (En.e (false : Bool)))) [some (.scr script_0), some (drV u_59.2), some (.own (List.map En.e (s_35.2.1 : (List (Int × Str))))), some (.d (En.e (s_35.2.2 : Int))), (jd x_11), some (.d (En.e (u_37.1 : Int))), some (.d (En.e (k_39 : Str))), some (.own (List.map En.e (days_48 : (List Int)))), some (.d (En.e (u_57.1 : Int))), some (.d (En.e (last_61 : Int))), some (.d (En.e (most_ans_63 : (Option Int)))), none, none, none, none, none, none, none, none, none, none, some (.own (List.map En.e (line_157 : (List (Int × Str))))), none]) = some (.d (En.e (false : Bool)), [.scr script_0]) from (by first | rfl | simp [endF, outs, isSt]))
          · replace h := if_f h hp
            refine ok_nilT ?_
            refine ok_nilT ?_
            obtain ⟨u_161, h_162, h⟩ := bnd h
            refine st_asg (e2 := [some (.scr script_0), some (drV u_161.2), some (.own (List.map En.e (s_35.2.1 : (List (Int × Str))))), some (.d (En.e (s_35.2.2 : Int))), (jd x_11), some (.d (En.e (u_37.1 : Int))), some (.d (En.e (k_39 : Str))), some (.own (List.map En.e (days_48 : (List Int)))), some (.d (En.e (u_57.1 : Int))), some (.d (En.e (last_61 : Int))), some (.d (En.e (most_ans_63 : (Option Int)))), some (.d (En.e (u_161.1 : Int))), none, none, none, none, none, none, none, none, none, some (.own (List.map En.e (line_157 : (List (Int × Str))))), none]) (jw_call (v := .d (En.e (u_161.1 : Int))) (rs := [.ali 1, .ali 0, .v (.d (En.e (6 : Int)))]) (ws := [drV u_59.2, .scr script_0, .d (En.e (6 : Int))]) (ws' := [drV u_161.2, .scr script_0, .d (En.e (6 : Int))]) (e2 := [some (.scr script_0), some (drV u_161.2), some (.own (List.map En.e (s_35.2.1 : (List (Int × Str))))), some (.d (En.e (s_35.2.2 : Int))), (jd x_11), some (.d (En.e (u_37.1 : Int))), some (.d (En.e (k_39 : Str))), some (.own (List.map En.e (days_48 : (List Int)))), some (.d (En.e (u_57.1 : Int))), some (.d (En.e (last_61 : Int))), some (.d (En.e (most_ans_63 : (Option Int)))), none, none, none, none, none, none, none, none, none, none, some (.own (List.map En.e (line_157 : (List (Int × Str))))), none]) true (jl_cons (ja_dr rfl) (jl_cons (ja_scr rfl) (jl_cons (jd_con (v := (6 : Int)) rfl) jl_nil))) (show ([1, 0] : List Nat).Nodup by decide) rfl (cDraw _ _ _ _ h_162) (fl_v rfl) rfl) rfl rfl rfl ?_
            obtain ⟨best_163, h_164, h⟩ := bnd h
            refine st_asg (e2 := [some (.scr script_0), some (drV u_161.2), some (.own (List.map En.e (s_35.2.1 : (List (Int × Str))))), some (.d (En.e (s_35.2.2 : Int))), (jd x_11), some (.d (En.e (u_37.1 : Int))), some (.d (En.e (k_39 : Str))), some (.own (List.map En.e (days_48 : (List Int)))), some (.d (En.e (u_57.1 : Int))), some (.d (En.e (last_61 : Int))), some (.d (En.e (most_ans_63 : (Option Int)))), some (.d (En.e (u_161.1 : Int))), some (.d (En.e (best_163 : (Option Int)))), none, none, none, none, none, none, none, none, some (.own (List.map En.e (line_157 : (List (Int × Str))))), none]) (jd_som (jd_con (v := (none : (Option Int))) rfl) h_164) rfl rfl rfl ?_
            obtain ⟨r_165, h_166, h⟩ := bnd h
            obtain ⟨s_180, h_181, h⟩ := bnd h
            refine st_foldO (fun (s_168 : (Option Int)) (e_ : Env) => ∃ (x_169 : Option D) (x_170 : Option D), e_ = [some (.scr script_0), some (drV u_161.2), some (.own (List.map En.e (s_35.2.1 : (List (Int × Str))))), some (.d (En.e (s_35.2.2 : Int))), (jd x_169), some (.d (En.e (u_37.1 : Int))), some (.d (En.e (k_39 : Str))), some (.own (List.map En.e (days_48 : (List Int)))), some (.d (En.e (u_57.1 : Int))), some (.d (En.e (last_61 : Int))), some (.d (En.e (most_ans_63 : (Option Int)))), some (.d (En.e (u_161.1 : Int))), some (.d (En.e (s_168 : (Option Int)))), (jd x_170), none, none, none, none, none, none, none, some (.own (List.map En.e (line_157 : (List (Int × Str))))), none]) h_181 (ji_rng3 (jx_d (jd_con (v := (60 : Int)) rfl)) (jx_d (jd_neg (jx_d (jd_con (v := (1 : Int)) rfl)))) h_166) ⟨x_11, none, rfl⟩ (fun _ _ _ => trivial) (fun a_167 s_168 e_ r_ _ hR h_175 => ?_) (fun e_ hR => ?_)
            · obtain ⟨x_169, x_170, rfl⟩ := hR
              show ∃ e2, bindT _ _ _ [some (.scr script_0), some (drV u_161.2), some (.own (List.map En.e (s_35.2.1 : (List (Int × Str))))), some (.d (En.e (s_35.2.2 : Int))), (jd x_169), some (.d (En.e (u_37.1 : Int))), some (.d (En.e (k_39 : Str))), some (.own (List.map En.e (days_48 : (List Int)))), some (.d (En.e (u_57.1 : Int))), some (.d (En.e (last_61 : Int))), some (.d (En.e (most_ans_63 : (Option Int)))), some (.d (En.e (u_161.1 : Int))), some (.d (En.e (s_168 : (Option Int)))), (jd x_170), none, none, none, none, none, none, none, some (.own (List.map En.e (line_157 : (List (Int × Str))))), none] = some e2 ∧ _
              refine ⟨[some (.scr script_0), some (drV u_161.2), some (.own (List.map En.e (s_35.2.1 : (List (Int × Str))))), some (.d (En.e (s_35.2.2 : Int))), (jd x_169), some (.d (En.e (u_37.1 : Int))), some (.d (En.e (k_39 : Str))), some (.own (List.map En.e (days_48 : (List Int)))), some (.d (En.e (u_57.1 : Int))), some (.d (En.e (last_61 : Int))), some (.d (En.e (most_ans_63 : (Option Int)))), some (.d (En.e (u_161.1 : Int))), some (.d (En.e (s_168 : (Option Int)))), some (.d (En.e (a_167 : Int))), none, none, none, none, none, none, none, some (.own (List.map En.e (line_157 : (List (Int × Str))))), none], rfl, ?_⟩
              obtain ⟨answered_176, h_177, h_175⟩ := bnd h_175
              refine st_ifs (jc_d (jd_le (jx_d (jd_len (jx_o (jw_call (v := .own (List.map En.e (answered_176 : (List Int)))) (rs := [.ali 2, .v (.d (En.e (a_167 : Int)))]) (ws := [.d (En.e (s_35.2.1 : (List (Int × Str)))), .d (En.e (a_167 : Int))]) (ws' := [.d (En.e (s_35.2.1 : (List (Int × Str)))), .d (En.e (a_167 : Int))]) (e2 := [some (.scr script_0), some (drV u_161.2), some (.own (List.map En.e (s_35.2.1 : (List (Int × Str))))), some (.d (En.e (s_35.2.2 : Int))), (jd x_169), some (.d (En.e (u_37.1 : Int))), some (.d (En.e (k_39 : Str))), some (.own (List.map En.e (days_48 : (List Int)))), some (.d (En.e (u_57.1 : Int))), some (.d (En.e (last_61 : Int))), some (.d (En.e (most_ans_63 : (Option Int)))), some (.d (En.e (u_161.1 : Int))), some (.d (En.e (s_168 : (Option Int)))), some (.d (En.e (a_167 : Int))), none, none, none, none, none, none, none, some (.own (List.map En.e (line_157 : (List (Int × Str))))), none]) true (jl_cons (ja_var rfl) (jl_cons (jd_var (v := (a_167 : Int)) rfl) jl_nil)) (show ([2] : List Nat).Nodup by decide) rfl (c9 _ _ _ h_177) (fl_o rfl) rfl)))) (jx_d (jd_var (v := (u_161.1 : Int)) rfl)))) (fun hp => ?_) (fun hp => ?_)
              · replace h_175 := if_t h_175 hp
                obtain ⟨best_178, h_179, h_175⟩ := bnd h_175
                refine st_asg (e2 := [some (.scr script_0), some (drV u_161.2), some (.own (List.map En.e (s_35.2.1 : (List (Int × Str))))), some (.d (En.e (s_35.2.2 : Int))), (jd x_169), some (.d (En.e (u_37.1 : Int))), some (.d (En.e (k_39 : Str))), some (.own (List.map En.e (days_48 : (List Int)))), some (.d (En.e (u_57.1 : Int))), some (.d (En.e (last_61 : Int))), some (.d (En.e (most_ans_63 : (Option Int)))), some (.d (En.e (u_161.1 : Int))), some (.d (En.e (best_178 : (Option Int)))), some (.d (En.e (a_167 : Int))), none, none, none, none, none, none, none, some (.own (List.map En.e (line_157 : (List (Int × Str))))), none]) (jd_som (jd_cast (jd_var (v := (a_167 : Int)) rfl) (w := (some a_167 : (Option Int))) rfl) h_179) rfl rfl rfl ?_
                refine ok_nilT ?_
                have hE_ := Option.some.inj h_175
                subst hE_
                exact ok_nil (show ∃ (x_169w : Option D) (x_170w : Option D), ([some (.scr script_0), some (drV u_161.2), some (.own (List.map En.e (s_35.2.1 : (List (Int × Str))))), some (.d (En.e (s_35.2.2 : Int))), (jd x_169), some (.d (En.e (u_37.1 : Int))), some (.d (En.e (k_39 : Str))), some (.own (List.map En.e (days_48 : (List Int)))), some (.d (En.e (u_57.1 : Int))), some (.d (En.e (last_61 : Int))), some (.d (En.e (most_ans_63 : (Option Int)))), some (.d (En.e (u_161.1 : Int))), some (.d (En.e (best_178 : (Option Int)))), some (.d (En.e (a_167 : Int))), none, none, none, none, none, none, none, some (.own (List.map En.e (line_157 : (List (Int × Str))))), none] : Env) = [some (.scr script_0), some (drV u_161.2), some (.own (List.map En.e (s_35.2.1 : (List (Int × Str))))), some (.d (En.e (s_35.2.2 : Int))), (jd x_169w), some (.d (En.e (u_37.1 : Int))), some (.d (En.e (k_39 : Str))), some (.own (List.map En.e (days_48 : (List Int)))), some (.d (En.e (u_57.1 : Int))), some (.d (En.e (last_61 : Int))), some (.d (En.e (most_ans_63 : (Option Int)))), some (.d (En.e (u_161.1 : Int))), some (.d (En.e ((best_178 : (Option Int)) : (Option Int)))), (jd x_170w), none, none, none, none, none, none, none, some (.own (List.map En.e (line_157 : (List (Int × Str))))), none] from ⟨x_169, (some (En.e (a_167 : Int))), rfl⟩)
              · replace h_175 := if_f h_175 hp
                refine ok_nilT ?_
                have hE_ := Option.some.inj h_175
                subst hE_
                exact ok_nil (show ∃ (x_169w : Option D) (x_170w : Option D), ([some (.scr script_0), some (drV u_161.2), some (.own (List.map En.e (s_35.2.1 : (List (Int × Str))))), some (.d (En.e (s_35.2.2 : Int))), (jd x_169), some (.d (En.e (u_37.1 : Int))), some (.d (En.e (k_39 : Str))), some (.own (List.map En.e (days_48 : (List Int)))), some (.d (En.e (u_57.1 : Int))), some (.d (En.e (last_61 : Int))), some (.d (En.e (most_ans_63 : (Option Int)))), some (.d (En.e (u_161.1 : Int))), some (.d (En.e (s_168 : (Option Int)))), some (.d (En.e (a_167 : Int))), none, none, none, none, none, none, none, some (.own (List.map En.e (line_157 : (List (Int × Str))))), none] : Env) = [some (.scr script_0), some (drV u_161.2), some (.own (List.map En.e (s_35.2.1 : (List (Int × Str))))), some (.d (En.e (s_35.2.2 : Int))), (jd x_169w), some (.d (En.e (u_37.1 : Int))), some (.d (En.e (k_39 : Str))), some (.own (List.map En.e (days_48 : (List Int)))), some (.d (En.e (u_57.1 : Int))), some (.d (En.e (last_61 : Int))), some (.d (En.e (most_ans_63 : (Option Int)))), some (.d (En.e (u_161.1 : Int))), some (.d (En.e ((s_168 : (Option Int)) : (Option Int)))), (jd x_170w), none, none, none, none, none, none, none, some (.own (List.map En.e (line_157 : (List (Int × Str))))), none] from ⟨x_169, (some (En.e (a_167 : Int))), rfl⟩)
            · obtain ⟨x_169, x_170, rfl⟩ := hR
              show OK (evSs _ _ _ [some (.scr script_0), some (drV u_161.2), some (.own (List.map En.e (s_35.2.1 : (List (Int × Str))))), some (.d (En.e (s_35.2.2 : Int))), (jd x_169), some (.d (En.e (u_37.1 : Int))), some (.d (En.e (k_39 : Str))), some (.own (List.map En.e (days_48 : (List Int)))), some (.d (En.e (u_57.1 : Int))), some (.d (En.e (last_61 : Int))), some (.d (En.e (most_ans_63 : (Option Int)))), some (.d (En.e (u_161.1 : Int))), some (.d (En.e (s_180 : (Option Int)))), (jd x_170), none, none, none, none, none, none, none, some (.own (List.map En.e (line_157 : (List (Int × Str))))), none]) _
              obtain ⟨pause_fo_182, h_183, h⟩ := bnd h
              obtain ⟨k_184, h_185, h⟩ := bnd h
              obtain ⟨k_186, h_187, h⟩ := bnd h
              refine st_ifs (jc_d (jd_ne (by decide) (jx_d (jd_repr (jx_d (jw_call (v := .d (En.e (pause_fo_182 : (Option Int)))) (rs := [.ali 2, .v (.d (En.e (u_161.1 : Int)))]) (ws := [.d (En.e (s_35.2.1 : (List (Int × Str)))), .d (En.e (u_161.1 : Int))]) (ws' := [.d (En.e (s_35.2.1 : (List (Int × Str)))), .d (En.e (u_161.1 : Int))]) (e2 := [some (.scr script_0), some (drV u_161.2), some (.own (List.map En.e (s_35.2.1 : (List (Int × Str))))), some (.d (En.e (s_35.2.2 : Int))), (jd x_169), some (.d (En.e (u_37.1 : Int))), some (.d (En.e (k_39 : Str))), some (.own (List.map En.e (days_48 : (List Int)))), some (.d (En.e (u_57.1 : Int))), some (.d (En.e (last_61 : Int))), some (.d (En.e (most_ans_63 : (Option Int)))), some (.d (En.e (u_161.1 : Int))), some (.d (En.e (s_180 : (Option Int)))), (jd x_170), none, none, none, none, none, none, none, some (.own (List.map En.e (line_157 : (List (Int × Str))))), none]) true (jl_cons (ja_var rfl) (jl_cons (jd_var (v := (u_161.1 : Int)) rfl) jl_nil)) (show ([2] : List Nat).Nodup by decide) rfl (c6 _ _ _ h_183) (fl_v rfl) rfl)) h_185)) (jx_d (jd_repr (jx_d (jd_var (v := (s_180 : (Option Int))) rfl)) h_187)))) (fun hp => ?_) (fun hp => ?_)
              · replace h := if_t h hp
                have hE_ := Option.some.inj h
                subst hE_
                exact st_ret (jd_con (v := false) rfl) (show endF [] [.scr script_0] (.rt (.v (.d (En.e (false : Bool)))) [some (.scr script_0), some (drV u_161.2), some (.own (List.map En.e (s_35.2.1 : (List (Int × Str))))), some (.d (En.e (s_35.2.2 : Int))), (jd x_169), some (.d (En.e (u_37.1 : Int))), some (.d (En.e (k_39 : Str))), some (.own (List.map En.e (days_48 : (List Int)))), some (.d (En.e (u_57.1 : Int))), some (.d (En.e (last_61 : Int))), some (.d (En.e (most_ans_63 : (Option Int)))), some (.d (En.e (u_161.1 : Int))), some (.d (En.e (s_180 : (Option Int)))), (jd x_170), none, none, none, none, none, none, none, some (.own (List.map En.e (line_157 : (List (Int × Str))))), none]) = some (.d (En.e (false : Bool)), [.scr script_0]) from (by first | rfl | simp [endF, outs, isSt]))
              · replace h := if_f h hp
                refine ok_nilT ?_
                obtain ⟨u_188, h_189, h⟩ := bnd h
                obtain ⟨u_190, h_191, h⟩ := bnd h
                obtain ⟨pauses_192, h_193, h⟩ := bnd h
                refine st_asg (e2 := [some (.scr script_0), some (drV u_190.2), some (.own (List.map En.e (s_35.2.1 : (List (Int × Str))))), some (.d (En.e (s_35.2.2 : Int))), (jd x_169), some (.d (En.e (u_37.1 : Int))), some (.d (En.e (k_39 : Str))), some (.own (List.map En.e (days_48 : (List Int)))), some (.d (En.e (u_57.1 : Int))), some (.d (En.e (last_61 : Int))), some (.d (En.e (most_ans_63 : (Option Int)))), some (.d (En.e (u_161.1 : Int))), some (.d (En.e (s_180 : (Option Int)))), (jd x_170), some (.d (En.e (pauses_192 : (Int × Int)))), none, none, none, none, none, none, some (.own (List.map En.e (line_157 : (List (Int × Str))))), none]) (jd_som (jd_tup (v := ((u_188.1, u_190.1) : (Int × Int))) (ef_cons (jf_d (jw_call (v := .d (En.e (u_188.1 : Int))) (rs := [.ali 1, .ali 0, .v (.d (En.e (9 : Int)))]) (ws := [drV u_161.2, .scr script_0, .d (En.e (9 : Int))]) (ws' := [drV u_188.2, .scr script_0, .d (En.e (9 : Int))]) (e2 := [some (.scr script_0), some (drV u_188.2), some (.own (List.map En.e (s_35.2.1 : (List (Int × Str))))), some (.d (En.e (s_35.2.2 : Int))), (jd x_169), some (.d (En.e (u_37.1 : Int))), some (.d (En.e (k_39 : Str))), some (.own (List.map En.e (days_48 : (List Int)))), some (.d (En.e (u_57.1 : Int))), some (.d (En.e (last_61 : Int))), some (.d (En.e (most_ans_63 : (Option Int)))), some (.d (En.e (u_161.1 : Int))), some (.d (En.e (s_180 : (Option Int)))), (jd x_170), none, none, none, none, none, none, none, some (.own (List.map En.e (line_157 : (List (Int × Str))))), none]) true (jl_cons (ja_dr rfl) (jl_cons (ja_scr rfl) (jl_cons (jd_con (v := (9 : Int)) rfl) jl_nil))) (show ([1, 0] : List Nat).Nodup by decide) rfl (cDraw _ _ _ _ h_189) (fl_v rfl) rfl)) (ef_cons (jf_d (jw_call (v := .d (En.e (u_190.1 : Int))) (rs := [.ali 1, .ali 0, .v (.d (En.e (9 : Int)))]) (ws := [drV u_188.2, .scr script_0, .d (En.e (9 : Int))]) (ws' := [drV u_190.2, .scr script_0, .d (En.e (9 : Int))]) (e2 := [some (.scr script_0), some (drV u_190.2), some (.own (List.map En.e (s_35.2.1 : (List (Int × Str))))), some (.d (En.e (s_35.2.2 : Int))), (jd x_169), some (.d (En.e (u_37.1 : Int))), some (.d (En.e (k_39 : Str))), some (.own (List.map En.e (days_48 : (List Int)))), some (.d (En.e (u_57.1 : Int))), some (.d (En.e (last_61 : Int))), some (.d (En.e (most_ans_63 : (Option Int)))), some (.d (En.e (u_161.1 : Int))), some (.d (En.e (s_180 : (Option Int)))), (jd x_170), none, none, none, none, none, none, none, some (.own (List.map En.e (line_157 : (List (Int × Str))))), none]) true (jl_cons (ja_dr rfl) (jl_cons (ja_scr rfl) (jl_cons (jd_con (v := (9 : Int)) rfl) jl_nil))) (show ([1, 0] : List Nat).Nodup by decide) rfl (cDraw _ _ _ _ h_191) (fl_v rfl) rfl)) ef_nil)) rfl) h_193) rfl rfl rfl ?_
                obtain ⟨u_194, h_195, h⟩ := bnd h
                obtain ⟨u_196, h_197, h⟩ := bnd h
                obtain ⟨delays_198, h_199, h⟩ := bnd h
                refine st_asg (e2 := [some (.scr script_0), some (drV u_196.2), some (.own (List.map En.e (s_35.2.1 : (List (Int × Str))))), some (.d (En.e (s_35.2.2 : Int))), (jd x_169), some (.d (En.e (u_37.1 : Int))), some (.d (En.e (k_39 : Str))), some (.own (List.map En.e (days_48 : (List Int)))), some (.d (En.e (u_57.1 : Int))), some (.d (En.e (last_61 : Int))), some (.d (En.e (most_ans_63 : (Option Int)))), some (.d (En.e (u_161.1 : Int))), some (.d (En.e (s_180 : (Option Int)))), (jd x_170), some (.d (En.e (pauses_192 : (Int × Int)))), some (.d (En.e (delays_198 : (Int × Int)))), none, none, none, none, none, some (.own (List.map En.e (line_157 : (List (Int × Str))))), none]) (jd_som (jd_tup (v := ((u_194.1, u_196.1) : (Int × Int))) (ef_cons (jf_d (jw_call (v := .d (En.e (u_194.1 : Int))) (rs := [.ali 1, .ali 0, .v (.d (En.e (5 : Int)))]) (ws := [drV u_190.2, .scr script_0, .d (En.e (5 : Int))]) (ws' := [drV u_194.2, .scr script_0, .d (En.e (5 : Int))]) (e2 := [some (.scr script_0), some (drV u_194.2), some (.own (List.map En.e (s_35.2.1 : (List (Int × Str))))), some (.d (En.e (s_35.2.2 : Int))), (jd x_169), some (.d (En.e (u_37.1 : Int))), some (.d (En.e (k_39 : Str))), some (.own (List.map En.e (days_48 : (List Int)))), some (.d (En.e (u_57.1 : Int))), some (.d (En.e (last_61 : Int))), some (.d (En.e (most_ans_63 : (Option Int)))), some (.d (En.e (u_161.1 : Int))), some (.d (En.e (s_180 : (Option Int)))), (jd x_170), some (.d (En.e (pauses_192 : (Int × Int)))), none, none, none, none, none, none, some (.own (List.map En.e (line_157 : (List (Int × Str))))), none]) true (jl_cons (ja_dr rfl) (jl_cons (ja_scr rfl) (jl_cons (jd_con (v := (5 : Int)) rfl) jl_nil))) (show ([1, 0] : List Nat).Nodup by decide) rfl (cDraw _ _ _ _ h_195) (fl_v rfl) rfl)) (ef_cons (jf_d (jw_call (v := .d (En.e (u_196.1 : Int))) (rs := [.ali 1, .ali 0, .v (.d (En.e (5 : Int)))]) (ws := [drV u_194.2, .scr script_0, .d (En.e (5 : Int))]) (ws' := [drV u_196.2, .scr script_0, .d (En.e (5 : Int))]) (e2 := [some (.scr script_0), some (drV u_196.2), some (.own (List.map En.e (s_35.2.1 : (List (Int × Str))))), some (.d (En.e (s_35.2.2 : Int))), (jd x_169), some (.d (En.e (u_37.1 : Int))), some (.d (En.e (k_39 : Str))), some (.own (List.map En.e (days_48 : (List Int)))), some (.d (En.e (u_57.1 : Int))), some (.d (En.e (last_61 : Int))), some (.d (En.e (most_ans_63 : (Option Int)))), some (.d (En.e (u_161.1 : Int))), some (.d (En.e (s_180 : (Option Int)))), (jd x_170), some (.d (En.e (pauses_192 : (Int × Int)))), none, none, none, none, none, none, some (.own (List.map En.e (line_157 : (List (Int × Str))))), none]) true (jl_cons (ja_dr rfl) (jl_cons (ja_scr rfl) (jl_cons (jd_con (v := (5 : Int)) rfl) jl_nil))) (show ([1, 0] : List Nat).Nodup by decide) rfl (cDraw _ _ _ _ h_197) (fl_v rfl) rfl)) ef_nil)) rfl) h_199) rfl rfl rfl ?_
                obtain ⟨talk_200, h_201, h⟩ := bnd h
                refine st_asgT (v := (talk_200 : (H2 (List (Int × Int)) Bool))) (e2 := [some (.scr script_0), some (drV u_196.2), some (.own (List.map En.e (s_35.2.1 : (List (Int × Str))))), some (.d (En.e (s_35.2.2 : Int))), (jd x_169), some (.d (En.e (u_37.1 : Int))), some (.d (En.e (k_39 : Str))), some (.own (List.map En.e (days_48 : (List Int)))), some (.d (En.e (u_57.1 : Int))), some (.d (En.e (last_61 : Int))), some (.d (En.e (most_ans_63 : (Option Int)))), some (.d (En.e (u_161.1 : Int))), some (.d (En.e (s_180 : (Option Int)))), (jd x_170), some (.d (En.e (pauses_192 : (Int × Int)))), some (.d (En.e (delays_198 : (Int × Int)))), some (.d (En.e (talk_200.a : (List (Int × Int))))), some (.d (En.e (talk_200.b : Bool))), none, none, none, some (.own (List.map En.e (line_157 : (List (Int × Str))))), none]) (jf_d (jw_callP (rs := [.v (.d (En.e (pauses_192 : (Int × Int)))), .v (.d (En.e (delays_198 : (Int × Int)))), .v (.d (En.e (u_57.1 : Int))), .v (.d (En.e (40 : Int)))]) (ws := [.d (En.e (pauses_192 : (Int × Int))), .d (En.e (delays_198 : (Int × Int))), .d (En.e (u_57.1 : Int)), .d (En.e (40 : Int))]) (ws' := [.d (En.e (pauses_192 : (Int × Int))), .d (En.e (delays_198 : (Int × Int))), .d (En.e (u_57.1 : Int)), .d (En.e (40 : Int))]) (jl_cons (jd_var (v := (pauses_192 : (Int × Int))) rfl) (jl_cons (jd_var (v := (delays_198 : (Int × Int))) rfl) (jl_cons (jd_var (v := (u_57.1 : Int)) rfl) (jl_cons (jd_con (v := (40 : Int)) rfl) jl_nil)))) rfl rfl (c10 _ _ _ _ _ h_201))) rfl ?_
                obtain ⟨talk_202, h_203, h⟩ := bnd h
                refine st_asg (e2 := [some (.scr script_0), some (drV u_196.2), some (.own (List.map En.e (s_35.2.1 : (List (Int × Str))))), some (.d (En.e (s_35.2.2 : Int))), (jd x_169), some (.d (En.e (u_37.1 : Int))), some (.d (En.e (k_39 : Str))), some (.own (List.map En.e (days_48 : (List Int)))), some (.d (En.e (u_57.1 : Int))), some (.d (En.e (last_61 : Int))), some (.d (En.e (most_ans_63 : (Option Int)))), some (.d (En.e (u_161.1 : Int))), some (.d (En.e (s_180 : (Option Int)))), (jd x_170), some (.d (En.e (pauses_192 : (Int × Int)))), some (.d (En.e (delays_198 : (Int × Int)))), some (.d (En.e (talk_200.a : (List (Int × Int))))), some (.d (En.e (talk_200.b : Bool))), some (.d (En.e (talk_202 : (Str × (List (Int × Int)))))), none, none, some (.own (List.map En.e (line_157 : (List (Int × Str))))), none]) (jw_callP (rs := [.v (.d (En.e (pauses_192.1 : Int))), .v (.d (En.e (pauses_192.2 : Int))), .v (.d (En.e (delays_198 : (Int × Int)))), .v (.d (En.e (u_57.1 : Int)))]) (ws := [.d (En.e (pauses_192.1 : Int)), .d (En.e (pauses_192.2 : Int)), .d (En.e (delays_198 : (Int × Int))), .d (En.e (u_57.1 : Int))]) (ws' := [.d (En.e (pauses_192.1 : Int)), .d (En.e (pauses_192.2 : Int)), .d (En.e (delays_198 : (Int × Int))), .d (En.e (u_57.1 : Int))]) (jl_cons (jd_idx (v := (pauses_192.1 : Int)) (jx_d (jd_var (v := (pauses_192 : (Int × Int))) rfl)) (jx_d (jd_con (v := (0 : Int)) rfl)) rfl) (jl_cons (jd_idx (v := (pauses_192.2 : Int)) (jx_d (jd_var (v := (pauses_192 : (Int × Int))) rfl)) (jx_d (jd_con (v := (1 : Int)) rfl)) rfl) (jl_cons (jd_var (v := (delays_198 : (Int × Int))) rfl) (jl_cons (jd_var (v := (u_57.1 : Int)) rfl) jl_nil)))) rfl rfl (c2 _ _ _ _ _ h_203)) rfl rfl rfl ?_
                obtain ⟨x_206, h_207, h⟩ := bnd h
                refine st_ifs (jc_or (jc_d (jd_ne (by decide) (jx_d (jd_idx (v := (talk_202.1 : Str)) (jx_d (jd_var (v := (talk_202 : (Str × (List (Int × Int))))) rfl)) (jx_d (jd_con (v := (0 : Int)) rfl)) rfl)) (jx_d (jd_at (jx_o (jo_lst (v := ([("round" : Str), ("ends" : Str)] : (List Str))) (ef_cons (jf_d (jd_con (v := ("round" : Str)) rfl)) (ef_cons (jf_d (jd_con (v := ("ends" : Str)) rfl)) ef_nil)) rfl)) (jx_d (jd_b2i (jx_d (jd_var (v := (talk_200.b : Bool)) rfl)))) h_207)))) (jc_or (jc_d (jd_ne (by decide) (jx_d (jd_idx (v := (talk_202.2 : (List (Int × Int)))) (jx_d (jd_var (v := (talk_202 : (Str × (List (Int × Int))))) rfl)) (jx_d (jd_con (v := (1 : Int)) rfl)) rfl)) (jx_o (jo_sli (jx_d (jd_var (v := (talk_200.a : (List (Int × Int)))) rfl)) jp_none (jp_some (jx_d (jd_len (jx_d (jd_idx (v := (talk_202.2 : (List (Int × Int)))) (jx_d (jd_var (v := (talk_202 : (Str × (List (Int × Int))))) rfl)) (jx_d (jd_con (v := (1 : Int)) rfl)) rfl)))) rfl))))) (jc_and (jc_d (jd_var (v := (talk_200.b : Bool)) rfl)) (jc_d (jd_ne (by decide) (jx_d (jd_idx (v := (talk_202.2 : (List (Int × Int)))) (jx_d (jd_var (v := (talk_202 : (Str × (List (Int × Int))))) rfl)) (jx_d (jd_con (v := (1 : Int)) rfl)) rfl)) (jx_d (jd_var (v := (talk_200.a : (List (Int × Int)))) rfl))))))) (fun hp => ?_) (fun hp => ?_)
                · replace h := if_t h hp
                  have hE_ := Option.some.inj h
                  subst hE_
                  exact st_ret (jd_con (v := false) rfl) (show endF [] [.scr script_0] (.rt (.v (.d (En.e (false : Bool)))) [some (.scr script_0), some (drV u_196.2), some (.own (List.map En.e (s_35.2.1 : (List (Int × Str))))), some (.d (En.e (s_35.2.2 : Int))), (jd x_169), some (.d (En.e (u_37.1 : Int))), some (.d (En.e (k_39 : Str))), some (.own (List.map En.e (days_48 : (List Int)))), some (.d (En.e (u_57.1 : Int))), some (.d (En.e (last_61 : Int))), some (.d (En.e (most_ans_63 : (Option Int)))), some (.d (En.e (u_161.1 : Int))), some (.d (En.e (s_180 : (Option Int)))), (jd x_170), some (.d (En.e (pauses_192 : (Int × Int)))), some (.d (En.e (delays_198 : (Int × Int)))), some (.d (En.e (talk_200.a : (List (Int × Int))))), some (.d (En.e (talk_200.b : Bool))), some (.d (En.e (talk_202 : (Str × (List (Int × Int)))))), none, none, some (.own (List.map En.e (line_157 : (List (Int × Str))))), none]) = some (.d (En.e (false : Bool)), [.scr script_0]) from (by first | rfl | simp [endF, outs, isSt]))
                · replace h := if_f h hp
                  refine ok_nilT ?_
                  obtain ⟨goes_on_211, h_212, h⟩ := bnd h
                  refine st_ifs (jc_d (jd_ne (by decide) (jx_d (jw_callP (rs := [.v (.d (En.e (pauses_192.1 : Int))), .v (.d (En.e (pauses_192.2 : Int))), .v (.d (En.e (delays_198 : (Int × Int))))]) (ws := [.d (En.e (pauses_192.1 : Int)), .d (En.e (pauses_192.2 : Int)), .d (En.e (delays_198 : (Int × Int)))]) (ws' := [.d (En.e (pauses_192.1 : Int)), .d (En.e (pauses_192.2 : Int)), .d (En.e (delays_198 : (Int × Int)))]) (jl_cons (jd_idx (v := (pauses_192.1 : Int)) (jx_d (jd_var (v := (pauses_192 : (Int × Int))) rfl)) (jx_d (jd_con (v := (0 : Int)) rfl)) rfl) (jl_cons (jd_idx (v := (pauses_192.2 : Int)) (jx_d (jd_var (v := (pauses_192 : (Int × Int))) rfl)) (jx_d (jd_con (v := (1 : Int)) rfl)) rfl) (jl_cons (jd_var (v := (delays_198 : (Int × Int))) rfl) jl_nil))) rfl rfl (c3 _ _ _ _ h_212))) (jx_d (jd_not (jc_d (jd_var (v := (talk_200.b : Bool)) rfl)))))) (fun hp => ?_) (fun hp => ?_)
                  · replace h := if_t h hp
                    have hE_ := Option.some.inj h
                    subst hE_
                    exact st_ret (jd_con (v := false) rfl) (show endF [] [.scr script_0] (.rt (.v (.d (En.e (false : Bool)))) [some (.scr script_0), some (drV u_196.2), some (.own (List.map En.e (s_35.2.1 : (List (Int × Str))))), some (.d (En.e (s_35.2.2 : Int))), (jd x_169), some (.d (En.e (u_37.1 : Int))), some (.d (En.e (k_39 : Str))), some (.own (List.map En.e (days_48 : (List Int)))), some (.d (En.e (u_57.1 : Int))), some (.d (En.e (last_61 : Int))), some (.d (En.e (most_ans_63 : (Option Int)))), some (.d (En.e (u_161.1 : Int))), some (.d (En.e (s_180 : (Option Int)))), (jd x_170), some (.d (En.e (pauses_192 : (Int × Int)))), some (.d (En.e (delays_198 : (Int × Int)))), some (.d (En.e (talk_200.a : (List (Int × Int))))), some (.d (En.e (talk_200.b : Bool))), some (.d (En.e (talk_202 : (Str × (List (Int × Int)))))), none, none, some (.own (List.map En.e (line_157 : (List (Int × Str))))), none]) = some (.d (En.e (false : Bool)), [.scr script_0]) from (by first | rfl | simp [endF, outs, isSt]))
                  · replace h := if_f h hp
                    refine ok_nilT ?_
                    refine st_ifs (jc_and (jc_not (jc_d (jd_var (v := (talk_200.b : Bool)) rfl))) (jc_not (jc_d (jd_chain (p := decide (2 ≤ (talk_202.2.length : Int))) (q := decide ((talk_202.2.length : Int) ≤ 6)) (jx_d (jd_con (v := (2 : Int)) rfl)) (jx_d (jd_len (jx_d (jd_idx (v := (talk_202.2 : (List (Int × Int)))) (jx_d (jd_var (v := (talk_202 : (Str × (List (Int × Int))))) rfl)) (jx_d (jd_con (v := (1 : Int)) rfl)) rfl)))) (jx_d (jd_con (v := (6 : Int)) rfl)) rfl rfl)))) (fun hp => ?_) (fun hp => ?_)
                    · replace h := if_t h hp
                      have hE_ := Option.some.inj h
                      subst hE_
                      exact st_ret (jd_con (v := false) rfl) (show endF [] [.scr script_0] (.rt (.v (.d (En.e (false : Bool)))) [some (.scr script_0), some (drV u_196.2), some (.own (List.map En.e (s_35.2.1 : (List (Int × Str))))), some (.d (En.e (s_35.2.2 : Int))), (jd x_169), some (.d (En.e (u_37.1 : Int))), some (.d (En.e (k_39 : Str))), some (.own (List.map En.e (days_48 : (List Int)))), some (.d (En.e (u_57.1 : Int))), some (.d (En.e (last_61 : Int))), some (.d (En.e (most_ans_63 : (Option Int)))), some (.d (En.e (u_161.1 : Int))), some (.d (En.e (s_180 : (Option Int)))), (jd x_170), some (.d (En.e (pauses_192 : (Int × Int)))), some (.d (En.e (delays_198 : (Int × Int)))), some (.d (En.e (talk_200.a : (List (Int × Int))))), some (.d (En.e (talk_200.b : Bool))), some (.d (En.e (talk_202 : (Str × (List (Int × Int)))))), none, none, some (.own (List.map En.e (line_157 : (List (Int × Str))))), none]) = some (.d (En.e (false : Bool)), [.scr script_0]) from (by first | rfl | simp [endF, outs, isSt]))
                    · replace h := if_f h hp
                      refine ok_nilT ?_
                      obtain ⟨least_pa_214, h_215, h⟩ := bnd h
                      refine st_asg (e2 := [some (.scr script_0), some (drV u_196.2), some (.own (List.map En.e (s_35.2.1 : (List (Int × Str))))), some (.d (En.e (s_35.2.2 : Int))), (jd x_169), some (.d (En.e (u_37.1 : Int))), some (.d (En.e (k_39 : Str))), some (.own (List.map En.e (days_48 : (List Int)))), some (.d (En.e (u_57.1 : Int))), some (.d (En.e (last_61 : Int))), some (.d (En.e (most_ans_63 : (Option Int)))), some (.d (En.e (u_161.1 : Int))), some (.d (En.e (s_180 : (Option Int)))), (jd x_170), some (.d (En.e (pauses_192 : (Int × Int)))), some (.d (En.e (delays_198 : (Int × Int)))), some (.d (En.e (talk_200.a : (List (Int × Int))))), some (.d (En.e (talk_200.b : Bool))), some (.d (En.e (talk_202 : (Str × (List (Int × Int)))))), some (.d (En.e (least_pa_214 : Int))), none, some (.own (List.map En.e (line_157 : (List (Int × Str))))), none]) (jw_callP (rs := [.v (.d (En.e (delays_198 : (Int × Int))))]) (ws := [.d (En.e (delays_198 : (Int × Int)))]) (ws' := [.d (En.e (delays_198 : (Int × Int)))]) (jl_cons (jd_var (v := (delays_198 : (Int × Int))) rfl) jl_nil) rfl rfl (c4 _ _ h_215)) rfl rfl rfl ?_
                      obtain ⟨r_216, h_217, h⟩ := bnd h
                      obtain ⟨r_238, h_239, h⟩ := bnd h
                      refine st_forT (fun (s_219 : Unit) (e_ : Env) => ∃ (x_220 : Option D) (x_221 : Option D) (x_222 : Option D), e_ = [some (.scr script_0), some (drV u_196.2), some (.own (List.map En.e (s_35.2.1 : (List (Int × Str))))), some (.d (En.e (s_35.2.2 : Int))), (jd x_220), some (.d (En.e (u_37.1 : Int))), some (.d (En.e (k_39 : Str))), some (.own (List.map En.e (days_48 : (List Int)))), some (.d (En.e (u_57.1 : Int))), some (.d (En.e (last_61 : Int))), some (.d (En.e (most_ans_63 : (Option Int)))), some (.d (En.e (u_161.1 : Int))), some (.d (En.e (s_180 : (Option Int)))), (jd x_221), some (.d (En.e (pauses_192 : (Int × Int)))), some (.d (En.e (delays_198 : (Int × Int)))), some (.d (En.e (talk_200.a : (List (Int × Int))))), some (.d (En.e (talk_200.b : Bool))), some (.d (En.e (talk_202 : (Str × (List (Int × Int)))))), some (.d (En.e (least_pa_214 : Int))), (jd x_222), some (.own (List.map En.e (line_157 : (List (Int × Str))))), none]) (fun (v_ : Bool) r_ => endF [] [.scr script_0] r_ = some (.d (En.e (v_ : Bool)), [.scr script_0])) h_239 (ji_rng1 (jx_d (jd_con (v := (9 : Int)) rfl)) h_217) ⟨x_169, x_170, none, rfl⟩ (fun _ _ _ => trivial) (fun a_218 s_219 e_ r_ _ hR h_230 => ?_) (fun s_219 e_ hr hR => ?_) (fun v_ r_ e_ hr hF => ?_)
                      · obtain ⟨x_220, x_221, x_222, rfl⟩ := hR
                        show ∃ e2, bindT _ _ _ [some (.scr script_0), some (drV u_196.2), some (.own (List.map En.e (s_35.2.1 : (List (Int × Str))))), some (.d (En.e (s_35.2.2 : Int))), (jd x_220), some (.d (En.e (u_37.1 : Int))), some (.d (En.e (k_39 : Str))), some (.own (List.map En.e (days_48 : (List Int)))), some (.d (En.e (u_57.1 : Int))), some (.d (En.e (last_61 : Int))), some (.d (En.e (most_ans_63 : (Option Int)))), some (.d (En.e (u_161.1 : Int))), some (.d (En.e (s_180 : (Option Int)))), (jd x_221), some (.d (En.e (pauses_192 : (Int × Int)))), some (.d (En.e (delays_198 : (Int × Int)))), some (.d (En.e (talk_200.a : (List (Int × Int))))), some (.d (En.e (talk_200.b : Bool))), some (.d (En.e (talk_202 : (Str × (List (Int × Int)))))), some (.d (En.e (least_pa_214 : Int))), (jd x_222), some (.own (List.map En.e (line_157 : (List (Int × Str))))), none] = some e2 ∧ _
                        refine ⟨[some (.scr script_0), some (drV u_196.2), some (.own (List.map En.e (s_35.2.1 : (List (Int × Str))))), some (.d (En.e (s_35.2.2 : Int))), (jd x_220), some (.d (En.e (u_37.1 : Int))), some (.d (En.e (k_39 : Str))), some (.own (List.map En.e (days_48 : (List Int)))), some (.d (En.e (u_57.1 : Int))), some (.d (En.e (last_61 : Int))), some (.d (En.e (most_ans_63 : (Option Int)))), some (.d (En.e (u_161.1 : Int))), some (.d (En.e (s_180 : (Option Int)))), (jd x_221), some (.d (En.e (pauses_192 : (Int × Int)))), some (.d (En.e (delays_198 : (Int × Int)))), some (.d (En.e (talk_200.a : (List (Int × Int))))), some (.d (En.e (talk_200.b : Bool))), some (.d (En.e (talk_202 : (Str × (List (Int × Int)))))), some (.d (En.e (least_pa_214 : Int))), some (.d (En.e (a_218 : Int))), some (.own (List.map En.e (line_157 : (List (Int × Str))))), none], rfl, ?_⟩
                        obtain ⟨talk_231, h_232, h_230⟩ := bnd h_230
                        obtain ⟨p_236, h_237, h_230⟩ := bnd h_230
                        refine st_ifs (jc_orP (R := some (p_236, [some (.scr script_0), some (drV u_196.2), some (.own (List.map En.e (s_35.2.1 : (List (Int × Str))))), some (.d (En.e (s_35.2.2 : Int))), (jd x_220), some (.d (En.e (u_37.1 : Int))), some (.d (En.e (k_39 : Str))), some (.own (List.map En.e (days_48 : (List Int)))), some (.d (En.e (u_57.1 : Int))), some (.d (En.e (last_61 : Int))), some (.d (En.e (most_ans_63 : (Option Int)))), some (.d (En.e (u_161.1 : Int))), some (.d (En.e (s_180 : (Option Int)))), (jd x_221), some (.d (En.e (pauses_192 : (Int × Int)))), some (.d (En.e (delays_198 : (Int × Int)))), some (.d (En.e (talk_200.a : (List (Int × Int))))), some (.d (En.e (talk_200.b : Bool))), some (.d (En.e (talk_202 : (Str × (List (Int × Int)))))), some (.d (En.e (least_pa_214 : Int))), some (.d (En.e (a_218 : Int))), some (.own (List.map En.e (line_157 : (List (Int × Str))))), none])) (jc_not (jc_d (jd_idx (v := (talk_231.b : Bool)) (jx_d (jw_callP (rs := [.v (.d (En.e (((least_pa_214, a_218) : (Int × Int)) : (Int × Int)))), .v (.d (En.e (delays_198 : (Int × Int)))), .v (.d (En.e (u_57.1 : Int))), .v (.d (En.e (40 : Int)))]) (ws := [.d (En.e (((least_pa_214, a_218) : (Int × Int)) : (Int × Int))), .d (En.e (delays_198 : (Int × Int))), .d (En.e (u_57.1 : Int)), .d (En.e (40 : Int))]) (ws' := [.d (En.e (((least_pa_214, a_218) : (Int × Int)) : (Int × Int))), .d (En.e (delays_198 : (Int × Int))), .d (En.e (u_57.1 : Int)), .d (En.e (40 : Int))]) (jl_cons (jd_tup (v := ((least_pa_214, a_218) : (Int × Int))) (ef_cons (jf_d (jd_var (v := (least_pa_214 : Int)) rfl)) (ef_cons (jf_d (jd_var (v := (a_218 : Int)) rfl)) ef_nil)) rfl) (jl_cons (jd_var (v := (delays_198 : (Int × Int))) rfl) (jl_cons (jd_var (v := (u_57.1 : Int)) rfl) (jl_cons (jd_con (v := (40 : Int)) rfl) jl_nil)))) rfl rfl (c10 _ _ _ _ _ h_232))) (jx_d (jd_con (v := (1 : Int)) rfl)) rfl))) (fun hp => by have h_233 := if_f h_237 hp; obtain ⟨talk_234, h_235, h_233⟩ := bnd h_233; exact jc_som (jc_not (jc_d (jd_idx (v := (talk_234.b : Bool)) (jx_d (jw_callP (rs := [.v (.d (En.e (((a_218, least_pa_214) : (Int × Int)) : (Int × Int)))), .v (.d (En.e (delays_198 : (Int × Int)))), .v (.d (En.e (u_57.1 : Int))), .v (.d (En.e (40 : Int)))]) (ws := [.d (En.e (((a_218, least_pa_214) : (Int × Int)) : (Int × Int))), .d (En.e (delays_198 : (Int × Int))), .d (En.e (u_57.1 : Int)), .d (En.e (40 : Int))]) (ws' := [.d (En.e (((a_218, least_pa_214) : (Int × Int)) : (Int × Int))), .d (En.e (delays_198 : (Int × Int))), .d (En.e (u_57.1 : Int)), .d (En.e (40 : Int))]) (jl_cons (jd_tup (v := ((a_218, least_pa_214) : (Int × Int))) (ef_cons (jf_d (jd_var (v := (a_218 : Int)) rfl)) (ef_cons (jf_d (jd_var (v := (least_pa_214 : Int)) rfl)) ef_nil)) rfl) (jl_cons (jd_var (v := (delays_198 : (Int × Int))) rfl) (jl_cons (jd_var (v := (u_57.1 : Int)) rfl) (jl_cons (jd_con (v := (40 : Int)) rfl) jl_nil)))) rfl rfl (c10 _ _ _ _ _ h_235))) (jx_d (jd_con (v := (1 : Int)) rfl)) rfl))) h_233) (fun hp => by have hq := if_t h_237 hp; cases hq; rfl)) (fun hp => ?_) (fun hp => ?_)
                        · replace h_230 := if_t h_230 hp
                          have hE_ := Option.some.inj h_230
                          subst hE_
                          exact st_ret (jd_con (v := false) rfl) (show endF [] [.scr script_0] (.rt (.v (.d (En.e (false : Bool)))) [some (.scr script_0), some (drV u_196.2), some (.own (List.map En.e (s_35.2.1 : (List (Int × Str))))), some (.d (En.e (s_35.2.2 : Int))), (jd x_220), some (.d (En.e (u_37.1 : Int))), some (.d (En.e (k_39 : Str))), some (.own (List.map En.e (days_48 : (List Int)))), some (.d (En.e (u_57.1 : Int))), some (.d (En.e (last_61 : Int))), some (.d (En.e (most_ans_63 : (Option Int)))), some (.d (En.e (u_161.1 : Int))), some (.d (En.e (s_180 : (Option Int)))), (jd x_221), some (.d (En.e (pauses_192 : (Int × Int)))), some (.d (En.e (delays_198 : (Int × Int)))), some (.d (En.e (talk_200.a : (List (Int × Int))))), some (.d (En.e (talk_200.b : Bool))), some (.d (En.e (talk_202 : (Str × (List (Int × Int)))))), some (.d (En.e (least_pa_214 : Int))), some (.d (En.e (a_218 : Int))), some (.own (List.map En.e (line_157 : (List (Int × Str))))), none]) = some (.d (En.e (false : Bool)), [.scr script_0]) from (by first | rfl | simp [endF, outs, isSt]))
                        · replace h_230 := if_f h_230 hp
                          refine ok_nilT ?_
                          have hE_ := Option.some.inj h_230
                          subst hE_
                          exact ok_nil (show ∃ (x_220w : Option D) (x_221w : Option D) (x_222w : Option D), ([some (.scr script_0), some (drV u_196.2), some (.own (List.map En.e (s_35.2.1 : (List (Int × Str))))), some (.d (En.e (s_35.2.2 : Int))), (jd x_220), some (.d (En.e (u_37.1 : Int))), some (.d (En.e (k_39 : Str))), some (.own (List.map En.e (days_48 : (List Int)))), some (.d (En.e (u_57.1 : Int))), some (.d (En.e (last_61 : Int))), some (.d (En.e (most_ans_63 : (Option Int)))), some (.d (En.e (u_161.1 : Int))), some (.d (En.e (s_180 : (Option Int)))), (jd x_221), some (.d (En.e (pauses_192 : (Int × Int)))), some (.d (En.e (delays_198 : (Int × Int)))), some (.d (En.e (talk_200.a : (List (Int × Int))))), some (.d (En.e (talk_200.b : Bool))), some (.d (En.e (talk_202 : (Str × (List (Int × Int)))))), some (.d (En.e (least_pa_214 : Int))), some (.d (En.e (a_218 : Int))), some (.own (List.map En.e (line_157 : (List (Int × Str))))), none] : Env) = [some (.scr script_0), some (drV u_196.2), some (.own (List.map En.e (s_35.2.1 : (List (Int × Str))))), some (.d (En.e (s_35.2.2 : Int))), (jd x_220w), some (.d (En.e (u_37.1 : Int))), some (.d (En.e (k_39 : Str))), some (.own (List.map En.e (days_48 : (List Int)))), some (.d (En.e (u_57.1 : Int))), some (.d (En.e (last_61 : Int))), some (.d (En.e (most_ans_63 : (Option Int)))), some (.d (En.e (u_161.1 : Int))), some (.d (En.e (s_180 : (Option Int)))), (jd x_221w), some (.d (En.e (pauses_192 : (Int × Int)))), some (.d (En.e (delays_198 : (Int × Int)))), some (.d (En.e (talk_200.a : (List (Int × Int))))), some (.d (En.e (talk_200.b : Bool))), some (.d (En.e (talk_202 : (Str × (List (Int × Int)))))), some (.d (En.e (least_pa_214 : Int))), (jd x_222w), some (.own (List.map En.e (line_157 : (List (Int × Str))))), none] from ⟨x_220, x_221, (some (En.e (a_218 : Int))), rfl⟩)
                      · subst hr
                        replace h := goN h
                        obtain ⟨x_220, x_221, x_222, rfl⟩ := hR
                        show OK (evSs _ _ _ [some (.scr script_0), some (drV u_196.2), some (.own (List.map En.e (s_35.2.1 : (List (Int × Str))))), some (.d (En.e (s_35.2.2 : Int))), (jd x_220), some (.d (En.e (u_37.1 : Int))), some (.d (En.e (k_39 : Str))), some (.own (List.map En.e (days_48 : (List Int)))), some (.d (En.e (u_57.1 : Int))), some (.d (En.e (last_61 : Int))), some (.d (En.e (most_ans_63 : (Option Int)))), some (.d (En.e (u_161.1 : Int))), some (.d (En.e (s_180 : (Option Int)))), (jd x_221), some (.d (En.e (pauses_192 : (Int × Int)))), some (.d (En.e (delays_198 : (Int × Int)))), some (.d (En.e (talk_200.a : (List (Int × Int))))), some (.d (En.e (talk_200.b : Bool))), some (.d (En.e (talk_202 : (Str × (List (Int × Int)))))), some (.d (En.e (least_pa_214 : Int))), (jd x_222), some (.own (List.map En.e (line_157 : (List (Int × Str))))), none]) _
                        obtain ⟨talk_240, h_241, h⟩ := bnd h
                        refine st_ifs (jc_d (jd_idx (v := (talk_240.b : Bool)) (jx_d (jw_callP (rs := [.v (.d (En.e ((((least_pa_214 - 1), 0) : (Int × Int)) : (Int × Int)))), .v (.d (En.e (delays_198 : (Int × Int)))), .v (.d (En.e (u_57.1 : Int))), .v (.d (En.e (40 : Int)))]) (ws := [.d (En.e ((((least_pa_214 - 1), 0) : (Int × Int)) : (Int × Int))), .d (En.e (delays_198 : (Int × Int))), .d (En.e (u_57.1 : Int)), .d (En.e (40 : Int))]) (ws' := [.d (En.e ((((least_pa_214 - 1), 0) : (Int × Int)) : (Int × Int))), .d (En.e (delays_198 : (Int × Int))), .d (En.e (u_57.1 : Int)), .d (En.e (40 : Int))]) (jl_cons (jd_tup (v := (((least_pa_214 - 1), 0) : (Int × Int))) (ef_cons (jf_d (jd_sub (jx_d (jd_var (v := (least_pa_214 : Int)) rfl)) (jx_d (jd_con (v := (1 : Int)) rfl)))) (ef_cons (jf_d (jd_con (v := (0 : Int)) rfl)) ef_nil)) rfl) (jl_cons (jd_var (v := (delays_198 : (Int × Int))) rfl) (jl_cons (jd_var (v := (u_57.1 : Int)) rfl) (jl_cons (jd_con (v := (40 : Int)) rfl) jl_nil)))) rfl rfl (c10 _ _ _ _ _ h_241))) (jx_d (jd_con (v := (1 : Int)) rfl)) rfl)) (fun hp => ?_) (fun hp => ?_)
                        · replace h := if_t h hp
                          have hE_ := Option.some.inj h
                          subst hE_
                          exact st_ret (jd_con (v := false) rfl) (show endF [] [.scr script_0] (.rt (.v (.d (En.e (false : Bool)))) [some (.scr script_0), some (drV u_196.2), some (.own (List.map En.e (s_35.2.1 : (List (Int × Str))))), some (.d (En.e (s_35.2.2 : Int))), (jd x_220), some (.d (En.e (u_37.1 : Int))), some (.d (En.e (k_39 : Str))), some (.own (List.map En.e (days_48 : (List Int)))), some (.d (En.e (u_57.1 : Int))), some (.d (En.e (last_61 : Int))), some (.d (En.e (most_ans_63 : (Option Int)))), some (.d (En.e (u_161.1 : Int))), some (.d (En.e (s_180 : (Option Int)))), (jd x_221), some (.d (En.e (pauses_192 : (Int × Int)))), some (.d (En.e (delays_198 : (Int × Int)))), some (.d (En.e (talk_200.a : (List (Int × Int))))), some (.d (En.e (talk_200.b : Bool))), some (.d (En.e (talk_202 : (Str × (List (Int × Int)))))), some (.d (En.e (least_pa_214 : Int))), (jd x_222), some (.own (List.map En.e (line_157 : (List (Int × Str))))), none]) = some (.d (En.e (false : Bool)), [.scr script_0]) from (by first | rfl | simp [endF, outs, isSt]))
                        · replace h := if_f h hp
                          refine ok_nilT ?_
                          obtain ⟨k_242, h_243, h⟩ := bnd h
                          have hE_ := Option.some.inj h
                          subst hE_
                          exact st_ret (jd_eq (by decide) (jx_d (jd_repr (jx_own (v := (s_35.2.1 : (List (Int × Str)))) rfl rfl) h_243)) (jx_d (jd_var (v := (k_39 : Str)) rfl))) (show endF [] [.scr script_0] (.rt (.v (.d (En.e ((decide (k_242 = k_39)) : Bool)))) [some (.scr script_0), some (drV u_196.2), some (.own (List.map En.e (s_35.2.1 : (List (Int × Str))))), some (.d (En.e (s_35.2.2 : Int))), (jd x_220), some (.d (En.e (u_37.1 : Int))), some (.d (En.e (k_39 : Str))), some (.own (List.map En.e (days_48 : (List Int)))), some (.d (En.e (u_57.1 : Int))), some (.d (En.e (last_61 : Int))), some (.d (En.e (most_ans_63 : (Option Int)))), some (.d (En.e (u_161.1 : Int))), some (.d (En.e (s_180 : (Option Int)))), (jd x_221), some (.d (En.e (pauses_192 : (Int × Int)))), some (.d (En.e (delays_198 : (Int × Int)))), some (.d (En.e (talk_200.a : (List (Int × Int))))), some (.d (En.e (talk_200.b : Bool))), some (.d (En.e (talk_202 : (Str × (List (Int × Int)))))), some (.d (En.e (least_pa_214 : Int))), (jd x_222), some (.own (List.map En.e (line_157 : (List (Int × Str))))), none]) = some (.d (En.e ((decide (k_242 = k_39)) : Bool)), [.scr script_0]) from (by first | rfl | simp [endF, outs, isSt]))
                      · subst hr
                        replace h := goR h
                        cases h
                        exact hF

set_option exponentiation.threshold 3000
/-- the letter at a place -/
def lA (ls : List (Int × Str)) (k : Int) : Int × Str := (ls[k.toNat]?).getD (0, "")
theorem lA_at {ls : List (Int × Str)} {k : Int} (h0 : 0 ≤ k) (h1 : k < (ls.length : Int)) : atO ls k = some (lA ls k) := by
  unfold lA
  rw [atO_int h0 h1, List.getElem?_eq_getElem (by omega : k.toNat < ls.length)]
  rfl
/-- an earlier answer bars an answer at k -/
def barB (ls : List (Int × Str)) (p : Int) (k i : Int) : Bool := decide ((lA ls i).2 = (lA ls k).2) && decide ((lA ls k).1 - (lA ls i).1 < p)
/-- the answered ones of the first n -/
def GA (ls : List (Int × Str)) (p : Int) : Nat → List Int
  | 0 => []
  | n + 1 => if (GA ls p n).all (fun i => !barB ls p n i) then GA ls p n ++ [(n : Int)] else GA ls p n
theorem GA_mem {ls : List (Int × Str)} {p : Int} : ∀ {n : Nat} {i : Int}, i ∈ GA ls p n → 0 ≤ i ∧ i < (n : Int)
  | 0, i, h => by cases h
  | n + 1, i, h => by
    unfold GA at h
    split at h
    · rcases List.mem_append.mp h with z | z
      · have := GA_mem z; omega
      · rw [List.mem_singleton] at z; omega
    · have := GA_mem h; omega
theorem GA_len {ls : List (Int × Str)} {p : Int} : ∀ n : Nat, (GA ls p n).length ≤ n
  | 0 => Nat.le_refl _
  | n + 1 => by
    have := GA_len (ls := ls) (p := p) n
    unfold GA
    split
    · rw [List.length_append]; simp; omega
    · omega
theorem all_fil {α : Type} (p : α → Bool) (l : List α) : decide (((l.filter p).length : Int) = 0) = l.all fun x => !p x := by
  rw [Bool.eq_iff_iff, decide_eq_true_iff, List.all_eq_true]
  constructor
  · intro h x hx
    have : l.filter p = [] := List.length_eq_zero_iff.mp (by omega)
    have := List.filter_eq_nil_iff.mp this x hx
    simpa using this
  · intro h
    have : l.filter p = [] := List.filter_eq_nil_iff.mpr fun x hx => by have := h x hx; simpa using this
    rw [this]; rfl
theorem f9 {ls : List (Int × Str)} {p : Int} (hl : ls.length ≤ 1000) : Fn9 ls p = some (GA ls p ls.length) := by
  refine eq_of_yes ?_
  unfold Fn9
  rw [Option.bind_some, rngO_eq (by omega) (by omega) (by omega) (by omega), Option.bind_some]
  refine Yes.bind (yes_foldO (fun i (s : List Int) => s = GA ls p i) rfl fun i a s ha hs => ?_) fun s hs => by
    rw [rngT_len] at hs
    exact yes_some (by rw [hs]; congr 1)
  obtain ⟨rfl, hi⟩ := rngT_at ha
  subst hs
  rw [Int.zero_add] at *
  rw [lA_at (by omega) (by omega), Option.bind_some, lcO_fil (fun x => barB ls p i x) fun x hx => ?_, Option.bind_some]
  · have e : decide ((((GA ls p i).filter fun x => barB ls p i x).length : Int) = 0) = (GA ls p i).all fun x => !barB ls p i x := all_fil _ _
    rw [e, GA]
    refine yes_ite (fun h => ?_) fun h => ?_
    · have := GA_len (ls := ls) (p := p) i
      rw [appO_eq (by omega), Option.bind_some, if_pos h]
      exact yes_some rfl
    · rw [if_neg (by rw [h]; decide)]
      exact yes_some rfl
  · have := GA_mem hx
    rw [lA_at (by omega) (by omega), Option.bind_some]
    unfold barB
    by_cases h : (lA ls x).2 = (lA ls i).2
    · rw [decide_eq_true h, if_pos rfl, Option.bind_some, Option.bind_some, Bool.true_and]
    · rw [decide_eq_false h, if_neg (by decide), Option.bind_some, Bool.false_and]
/-- days rise -/
def Up (ls : List (Int × Str)) : Prop := ∀ i j : Nat, i ≤ j → j < ls.length → (lA ls i).1 ≤ (lA ls j).1
theorem ga_step {ls : List (Int × Str)} {p : Int} {n : Nat} {t : Int} (hin : ∃ i ∈ GA ls p n, (lA ls i).2 = (lA ls n).2 ∧ (lA ls i).1 = t) (hle : ∀ i ∈ GA ls p n, (lA ls i).2 = (lA ls n).2 → (lA ls i).1 ≤ t) : ((GA ls p n).all fun i => !barB ls p n i) = decide (p ≤ (lA ls n).1 - t) := by
  rw [Bool.eq_iff_iff, decide_eq_true_iff, List.all_eq_true]
  constructor
  · intro h
    obtain ⟨i, h1, h2, h3⟩ := hin
    have := h i h1
    unfold barB at this
    rw [decide_eq_true h2, Bool.true_and, h3] at this
    simp at this
    exact this
  · intro h i hi
    unfold barB
    by_cases e : (lA ls i).2 = (lA ls n).2
    · have := hle i hi e
      rw [decide_eq_true e, Bool.true_and, decide_eq_false (by omega)]; rfl
    · rw [decide_eq_false e, Bool.false_and]; rfl
theorem ga_none {ls : List (Int × Str)} {p : Int} {n : Nat} (h : ∀ i ∈ GA ls p n, (lA ls i).2 ≠ (lA ls n).2) : ((GA ls p n).all fun i => !barB ls p n i) = true := by
  rw [List.all_eq_true]
  intro i hi
  unfold barB
  rw [decide_eq_false (h i hi), Bool.false_and]; rfl
/-- what the dict of last answers holds -/
def LK (ls : List (Int × Str)) (p : Int) (n : Nat) (m : List (Str × Int)) : Prop := m.length ≤ n ∧ ∀ x : Str, match getO m x with
  | none => ∀ i ∈ GA ls p n, (lA ls i).2 ≠ x
  | some t => (∃ i ∈ GA ls p n, (lA ls i).2 = x ∧ (lA ls i).1 = t) ∧ ∀ i ∈ GA ls p n, (lA ls i).2 = x → (lA ls i).1 ≤ t
theorem f5 {ls : List (Int × Str)} {p : Int} (hl : ls.length ≤ 1000) (hu : Up ls) : Fn5 ls p = some (GA ls p ls.length) := by
  refine eq_of_yes ?_
  unfold Fn5
  rw [Option.bind_some, Option.bind_some]
  refine Yes.bind (yes_foldO (fun i (s : List Int × List (Str × Int)) => s.1 = GA ls p i ∧ LK ls p i s.2) ⟨rfl, Nat.le_refl _, fun x i h => by cases h⟩ fun i a s ha hs => ?_) fun s hs => by
    rw [enumT_len] at hs
    exact yes_some hs.1
  rw [enumT_at] at ha
  obtain ⟨x, hx, rfl⟩ := Option.map_eq_some_iff.mp ha
  obtain ⟨fd, m⟩ := s
  obtain ⟨h1, h2, h3⟩ := hs
  dsimp only at h1 h2 h3 ⊢
  subst h1
  have hi := (List.getElem?_eq_some_iff.mp hx).1
  have hxx : lA ls i = x := by
    unfold lA
    rw [Int.toNat_natCast, hx]; rfl
  rw [Nat.zero_add]
  have hx2 := h3 x.2
  have step : ∀ b : Bool, ((GA ls p i).all fun j => !barB ls p i j) = b → Yes (if b = true then (appO (GA ls p i) (i : Int)).bind fun found_25 => (putO m x.2 x.1).bind fun last_27 => some (found_25, last_27) else some (GA ls p i, m)) fun s => s.1 = GA ls p (i + 1) ∧ LK ls p (i + 1) s.2 := by
    intro b hb
    have hg := GA_len (ls := ls) (p := p) i
    have hG : GA ls p (i + 1) = if b = true then GA ls p i ++ [(i : Int)] else GA ls p i := by rw [GA, hb]
    cases b with
    | true =>
      rw [if_pos rfl, appO_eq (by omega), Option.bind_some, putO_eq (by omega), Option.bind_some]
      rw [if_pos rfl] at hG
      refine yes_some ⟨hG.symm, ?_, fun y => ?_⟩
      · have := putL_len m x.2 x.1
        show (putL m x.2 x.1).length ≤ i + 1
        omega
      · show match getO (putL m x.2 x.1) y with
          | none => _
          | some t => _
        rw [getO_put, hG]
        by_cases e : y = x.2
        · rw [if_pos e]
          refine ⟨⟨i, List.mem_append_right _ (by simp), by rw [hxx, e], by rw [hxx]⟩, fun j hj hjy => ?_⟩
          rcases List.mem_append.mp hj with z | z
          · have zz := GA_mem z
            have := hu j.toNat i (by omega) hi
            rw [show ((j.toNat : Nat) : Int) = j by omega, hxx] at this
            exact this
          · rw [List.mem_singleton] at z
            rw [z, hxx]; exact Int.le_refl _
        · rw [if_neg e]
          have hy := h3 y
          have ne : (lA ls i).2 ≠ y := by rw [hxx]; exact fun z => e z.symm
          cases q : getO m y with
          | none =>
            rw [q] at hy
            intro j hj
            rcases List.mem_append.mp hj with z | z
            · exact hy j z
            · rw [List.mem_singleton] at z; rw [z]; exact ne
          | some t =>
            rw [q] at hy
            obtain ⟨⟨j, j1, j2⟩, j3⟩ := hy
            refine ⟨⟨j, List.mem_append_left _ j1, j2⟩, fun k hk hky => ?_⟩
            rcases List.mem_append.mp hk with z | z
            · exact j3 k z hky
            · rw [List.mem_singleton] at z; rw [z] at hky; exact absurd hky ne
    | false =>
      rw [if_neg (by decide)]
      rw [if_neg (by decide)] at hG
      refine yes_some ⟨hG.symm, by show m.length ≤ i + 1; omega, fun y => ?_⟩
      rw [hG]
      exact h3 y
  rw [hasK_get]
  cases q : getO m x.2 with
  | none =>
    rw [q] at hx2
    rw [show (!(none : Option Int).isSome) = true from rfl, if_pos rfl, Option.bind_some]
    exact step true (ga_none fun j hj => by rw [hxx]; exact hx2 j hj)
  | some t =>
    rw [q] at hx2
    rw [show (!(some t : Option Int).isSome) = false from rfl, if_neg (by decide), Option.bind_some, Option.bind_some]
    refine step _ ?_
    rw [ga_step (t := t) (by rw [hxx]; exact hx2.1) (by rw [hxx]; exact hx2.2), hxx]

set_option exponentiation.threshold 3000
abbrev aL (days : List Int) : List (Int × Str) := days.map fun d => (d, ("a" : Str))
theorem aL_at {days : List Int} {k : Int} (h0 : 0 ≤ k) (h1 : k < (days.length : Int)) : (lA (aL days) k).2 = "a" ∧ ∀ d, days[k.toNat]? = some d → (lA (aL days) k).1 = d := by
  unfold lA
  rw [List.getElem?_map, List.getElem?_eq_getElem (by omega : k.toNat < days.length)]
  exact ⟨rfl, fun d e => by rw [Option.some.injEq] at e; exact e⟩
theorem f0 {days : List Int} {p : Int} (hl : days.length ≤ 1000) (hu : Up (aL days)) : Fn0 days p = some (GA (aL days) p days.length) := by
  refine eq_of_yes ?_
  unfold Fn0
  rw [Option.bind_some, Option.bind_some]
  refine Yes.bind (yes_foldO (fun i (s : List Int × Option Int) => s.1 = GA (aL days) p i ∧ match s.2 with
    | none => GA (aL days) p i = []
    | some t => (∃ j ∈ GA (aL days) p i, (lA (aL days) j).1 = t) ∧ ∀ j ∈ GA (aL days) p i, (lA (aL days) j).1 ≤ t) ⟨rfl, rfl⟩ fun i a s ha hs => ?_) fun s hs => by
    rw [enumT_len] at hs
    exact yes_some hs.1
  rw [enumT_at] at ha
  obtain ⟨x, hx, rfl⟩ := Option.map_eq_some_iff.mp ha
  obtain ⟨fd, m⟩ := s
  obtain ⟨h1, h2⟩ := hs
  dsimp only at h1 h2 ⊢
  subst h1
  have hi := (List.getElem?_eq_some_iff.mp hx).1
  obtain ⟨hc, hd⟩ := aL_at (days := days) (k := (i : Int)) (by omega) (by omega)
  have hd := hd x (by rw [Int.toNat_natCast]; exact hx)
  have hcs : ∀ j ∈ GA (aL days) p i, (lA (aL days) j).2 = (lA (aL days) i).2 := fun j hj => by
    have := GA_mem hj
    rw [hc, (aL_at (by omega) (by omega)).1]
  rw [Nat.zero_add]
  have step : ∀ b : Bool, ((GA (aL days) p i).all fun j => !barB (aL days) p i j) = b → Yes (if b = true then (appO (GA (aL days) p i) (i : Int)).bind fun found_24 => (some (some x)).bind fun last_26 => some (found_24, last_26) else some (GA (aL days) p i, m)) fun s => s.1 = GA (aL days) p (i + 1) ∧ match s.2 with
    | none => GA (aL days) p (i + 1) = []
    | some t => (∃ j ∈ GA (aL days) p (i + 1), (lA (aL days) j).1 = t) ∧ ∀ j ∈ GA (aL days) p (i + 1), (lA (aL days) j).1 ≤ t := by
    intro b hb
    have hg := GA_len (ls := aL days) (p := p) i
    have hG : GA (aL days) p (i + 1) = if b = true then GA (aL days) p i ++ [(i : Int)] else GA (aL days) p i := by rw [GA, hb]
    cases b with
    | true =>
      rw [if_pos rfl, appO_eq (by omega), Option.bind_some, Option.bind_some]
      rw [if_pos rfl] at hG
      refine yes_some ⟨hG.symm, ?_⟩
      show (∃ j ∈ GA (aL days) p (i + 1), (lA (aL days) j).1 = x) ∧ ∀ j ∈ GA (aL days) p (i + 1), (lA (aL days) j).1 ≤ x
      rw [hG]
      refine ⟨⟨i, List.mem_append_right _ (by simp), hd⟩, fun j hj => ?_⟩
      rcases List.mem_append.mp hj with z | z
      · have zz := GA_mem z
        have := hu j.toNat i (by omega) (by rw [List.length_map]; exact hi)
        rw [show ((j.toNat : Nat) : Int) = j by omega, hd] at this
        exact this
      · rw [List.mem_singleton] at z
        rw [z, hd]; exact Int.le_refl _
    | false =>
      rw [if_neg (by decide)]
      rw [if_neg (by decide)] at hG
      refine yes_some ⟨hG.symm, ?_⟩
      rw [hG]
      exact h2
  cases m with
  | none =>
    dsimp only at h2
    rw [show ((none : Option Int).isNone) = true from rfl, if_pos rfl, Option.bind_some]
    exact step true (by rw [h2]; rfl)
  | some t =>
    dsimp only at h2
    rw [show ((some t : Option Int).isNone) = false from rfl, if_neg (by decide), Option.bind_some, Option.bind_some]
    refine step _ ?_
    obtain ⟨⟨j, j1, j2⟩, j3⟩ := h2
    rw [ga_step (t := t) ⟨j, j1, hcs j j1, j2⟩ (fun k hk _ => j3 k hk), hd]
theorem div_add {p q x : Int} (hp : 0 < p) (h0 : 0 ≤ x) (h1 : x < p) : (x + p * q) / p = q := by
  rw [Int.add_mul_ediv_left _ _ (by omega), Int.ediv_eq_zero_of_lt h0 h1, Int.zero_add]
/-- letters day by day -/
theorem ga_line {ls : List (Int × Str)} {p f : Int} {N : Nat} (hp : 0 < p) (h : ∀ k : Nat, k < N → lA ls k = (f + (k : Int), ("a" : Str))) : ∀ n : Nat, n ≤ N → (∀ i : Int, i ∈ GA ls p n ↔ 0 ≤ i ∧ i < (n : Int) ∧ i % p = 0) ∧ ((GA ls p n).length : Int) = ((n : Int) + p - 1) / p
  | 0, _ => ⟨fun i => ⟨fun z => (by cases z), fun z => by omega⟩, by
    rw [Int.ediv_eq_zero_of_lt (by omega) (by omega)]; rfl⟩
  | n + 1, hn => by
    obtain ⟨ih1, ih2⟩ := ga_line hp h n (by omega)
    have r0 := Int.emod_nonneg (n : Int) (show p ≠ 0 by omega)
    have r1 := Int.emod_lt_of_pos (n : Int) hp
    have hq := Int.emod_add_mul_ediv (n : Int) p
    generalize hr : (n : Int) % p = r at r0 r1 hq ih1
    generalize (n : Int) / p = q at hq
    have hall : ((GA ls p n).all fun i => !barB ls p n i) = decide (r = 0) := by
      rw [Bool.eq_iff_iff, decide_eq_true_iff, List.all_eq_true]
      constructor
      · intro hh
        by_cases z : r = 0
        · exact z
        · exfalso
          have q0 : 0 ≤ p * q := by
            have : 0 ≤ q := by
              by_cases c : 0 ≤ q
              · exact c
              · exfalso
                have : p * q ≤ p * (-1) := Int.mul_le_mul_of_nonneg_left (by omega) (by omega)
                omega
            exact Int.mul_nonneg (by omega) this
          have hm : p * q ∈ GA ls p n := (ih1 _).mpr ⟨q0, by omega, Int.mul_emod_right _ _⟩
          have := hh _ hm
          unfold barB at this
          have e1 := h n (by omega)
          have e2 := h (p * q).toNat (by omega)
          rw [show (((p * q).toNat : Nat) : Int) = p * q by omega] at e2
          rw [e1, e2] at this
          simp at this
          omega
      · intro z i hi
        obtain ⟨i0, i1, i2⟩ := (ih1 i).mp hi
        have e1 := h n (by omega)
        have e2 := h i.toNat (by omega)
        rw [show ((i.toNat : Nat) : Int) = i by omega] at e2
        have : p ≤ (n : Int) - i := by
          have e3 := Int.emod_add_mul_ediv i p
          rw [i2] at e3
          have e4 : (n : Int) - i = p * (q - i / p) := by rw [Int.mul_sub]; omega
          have : 1 ≤ q - i / p := by
            by_cases c : 1 ≤ q - i / p
            · exact c
            · exfalso
              have : p * (q - i / p) ≤ p * 0 := Int.mul_le_mul_of_nonneg_left (by omega) (by omega)
              omega
          have : p * 1 ≤ p * (q - i / p) := Int.mul_le_mul_of_nonneg_left this (by omega)
          omega
        unfold barB
        rw [e1, e2]
        simp
        omega
    have hG : GA ls p (n + 1) = if decide (r = 0) = true then GA ls p n ++ [(n : Int)] else GA ls p n := by rw [GA, hall]
    by_cases z : r = 0
    · rw [decide_eq_true z, if_pos rfl] at hG
      refine ⟨fun i => ?_, ?_⟩
      · rw [hG, List.mem_append, ih1, List.mem_singleton]
        constructor
        · rintro (⟨a, b, c⟩ | rfl)
          · exact ⟨a, by omega, c⟩
          · exact ⟨by omega, by omega, by omega⟩
        · rintro ⟨a, b, c⟩
          by_cases e : i = (n : Int)
          · exact .inr e
          · exact .inl ⟨a, by omega, c⟩
      · rw [hG, List.length_append, List.length_singleton, Int.natCast_add, ih2]
        rw [show ((n : Int) + p - 1) = (p - 1) + p * q by omega, show (((n + 1 : Nat) : Int) + p - 1) = 0 + p * (q + 1) by rw [Int.mul_add]; omega, div_add hp (by omega) (by omega), div_add hp (by omega) (by omega)]
        rfl
    · rw [decide_eq_false z, if_neg (by decide)] at hG
      refine ⟨fun i => ?_, ?_⟩
      · rw [hG, ih1]
        constructor
        · rintro ⟨a, b, c⟩
          exact ⟨a, by omega, c⟩
        · rintro ⟨a, b, c⟩
          refine ⟨a, ?_, c⟩
          by_cases e : i = (n : Int)
          · rw [e] at c; omega
          · omega
      · rw [hG, ih2]
        rw [show ((n : Int) + p - 1) = (r - 1) + p * (q + 1) by rw [Int.mul_add]; omega, show (((n + 1 : Nat) : Int) + p - 1) = r + p * (q + 1) by rw [Int.mul_add]; omega, div_add hp (by omega) (by omega), div_add hp (by omega) (by omega)]
theorem lA_line {f l : Int} {k : Nat} (h : (k : Int) < l - f) : lA (aL (rngT f l)) k = (f + (k : Int), ("a" : Str)) := by
  unfold lA rngT
  rw [Int.toNat_natCast, List.getElem?_map, List.getElem?_map, List.getElem?_range (by omega)]
  rfl
theorem f1p {f l p : Int} (hp : 0 < p) (hp2 : p < 100) : Fn1 f l p = some (some ((GA (aL (rngT f (l + 1))) p (rngT f (l + 1)).length).length : Int)) := by
  have hg := (ga_line (ls := aL (rngT f (l + 1))) (p := p) (f := f) (N := (rngT f (l + 1)).length) hp (fun k hk => lA_line (by rw [rngT_len] at hk; omega)) _ (Nat.le_refl _)).2
  rw [hg, rngT_len]
  unfold Fn1
  by_cases c : l < f
  · rw [decide_eq_true c, if_pos rfl, Option.bind_some, show ((((l + 1 - f).toNat : Nat) : Int) + p - 1) = p - 1 by omega, Int.ediv_eq_zero_of_lt (by omega) (by omega)]
  · rw [decide_eq_false c, if_neg (by decide), decide_eq_true hp, if_pos rfl]
    have e : max2 1 p = p := by unfold max2; split <;> omega
    rw [e, fdivO_eq hp (by omega), Option.bind_some, Option.bind_some, Option.bind_some]
    rw [show ((((l + 1 - f).toNat : Nat) : Int) + p - 1) = (l - f) + p * 1 by omega, Int.add_mul_ediv_left _ _ (by omega)]
theorem f1z {f l : Int} : Yes (Fn1 f l 0) fun r => atO [(none : Option Int), some 0] (b2T (decide (l < f))) = some r := by
  unfold Fn1
  by_cases c : l < f
  · rw [decide_eq_true c, if_pos rfl, Option.bind_some]
    exact yes_some rfl
  · rw [decide_eq_false c, if_neg (by decide), decide_eq_false (by omega), if_neg (by decide), Option.bind_some, Option.bind_some]
    exact yes_some rfl

set_option exponentiation.threshold 3000
theorem all_eq_of {α : Type} {p q : α → Bool} : ∀ {l : List α}, (∀ x ∈ l, p x = q x) → l.all p = l.all q
  | [], _ => rfl
  | a :: r, h => by rw [List.all_cons, List.all_cons, h a (List.mem_cons_self ..), all_eq_of fun x hx => h x (List.mem_cons_of_mem _ hx)]
theorem ga_eq {ls : List (Int × Str)} {p : Int} (h : ∀ i k : Nat, i < k → k < ls.length → (lA ls i).2 = (lA ls k).2 → (lA ls k).1 - (lA ls i).1 ≠ p) : ∀ n : Nat, n ≤ ls.length → GA ls (p + 1) n = GA ls p n
  | 0, _ => rfl
  | n + 1, hn => by
    have ih := ga_eq h n (by omega)
    rw [GA, GA, ih]
    have : ((GA ls p n).all fun i => !barB ls (p + 1) n i) = (GA ls p n).all fun i => !barB ls p n i := all_eq_of fun i hi => by
      have hm := GA_mem hi
      have := h i.toNat n (by omega) (by omega)
      rw [show ((i.toNat : Nat) : Int) = i by omega] at this
      unfold barB
      by_cases e : (lA ls i).2 = (lA ls n).2
      · have := this e
        rw [decide_eq_true e, Bool.true_and, Bool.true_and]
        congr 1
        rw [Bool.eq_iff_iff, decide_eq_true_iff, decide_eq_true_iff]
        omega
      · rw [decide_eq_false e, Bool.false_and, Bool.false_and]
    rw [this]
def C (ls : List (Int × Str)) (w q : Int) : Bool := decide (((GA ls q ls.length).length : Int) ≤ w)
def BestIs (ls : List (Int × Str)) (w : Int) (r : Option Int) : Prop := match r with
  | none => ∀ q, 0 ≤ q → q ≤ 60 → C ls w q = false
  | some q => 0 ≤ q ∧ q ≤ 60 ∧ C ls w q = true ∧ ∀ q', 0 ≤ q' → q' < q → C ls w q' = false
theorem best_one {ls : List (Int × Str)} {w : Int} {r r' : Option Int} (h : BestIs ls w r) (h' : BestIs ls w r') : r = r' := by
  cases r with
  | none =>
    cases r' with
    | none => rfl
    | some q => have := h q h'.1 h'.2.1; rw [h'.2.2.1] at this; cases this
  | some q =>
    cases r' with
    | none => have := h' q h.1 h.2.1; rw [h.2.2.1] at this; cases this
    | some q' =>
      congr 1
      by_cases a : q < q'
      · have := h'.2.2.2 q h.1 a; rw [h.2.2.1] at this; cases this
      · by_cases b : q' < q
        · have := h.2.2.2 q' h'.1 b; rw [h'.2.2.1] at this; cases this
        · omega
theorem bestO {ls : List (Int × Str)} {w : Int} (hl : ls.length ≤ 1000) : Yes (foldO (α := Int) (σ := (Option Int)) (fun a_75 s_76 => (Fn9 ls a_75).bind fun answered_84 => (if (decide ((answered_84.length : Int) ≤ w)) then (some ((some a_75) : (Option Int))).bind fun best_86 => some best_86 else some s_76)) (dnT 60 (-1)) none) (BestIs ls w) := by
  refine Yes.imp (yes_foldO (fun i (s : Option Int) => match s with
    | none => ∀ q, 60 - (i : Int) < q → q ≤ 60 → C ls w q = false
    | some q => 60 - (i : Int) < q ∧ q ≤ 60 ∧ C ls w q = true ∧ ∀ q', 60 - (i : Int) < q' → q' < q → C ls w q' = false) (fun q h1 h2 => by omega) fun i a s ha hs => ?_) fun s hs => ?_
  · have hlen : (dnT 60 (-1)).length = 61 := by decide
    have hi : i < 61 := by rw [← hlen]; exact (List.getElem?_eq_some_iff.mp ha).1
    have e : a = 60 - (i : Int) := by
      unfold dnT at ha
      rw [List.getElem?_map, List.getElem?_range (by omega)] at ha
      simp at ha
      omega
    subst e
    rw [f9 hl, Option.bind_some]
    have hC : decide (((GA ls (60 - (i : Int)) ls.length).length : Int) ≤ w) = C ls w (60 - (i : Int)) := rfl
    rw [hC]
    refine yes_ite (fun hb => ?_) fun hb => ?_
    · rw [Option.bind_some]
      exact yes_some ⟨by omega, by omega, hb, fun q' h1 h2 => by omega⟩
    · refine yes_some ?_
      cases s with
      | none =>
        intro q h1 h2
        by_cases e : q = 60 - (i : Int)
        · rw [e]; exact hb
        · exact hs q (by omega) h2
      | some z =>
        obtain ⟨a1, a2, a3, a4⟩ := hs
        refine ⟨by omega, a2, a3, fun q' h1 h2 => ?_⟩
        by_cases e : q' = 60 - (i : Int)
        · rw [e]; exact hb
        · exact a4 q' (by omega) h2
  · have hlen : (dnT 60 (-1)).length = 61 := by decide
    rw [hlen] at hs
    cases s with
    | none => exact fun q h1 h2 => hs q (by omega) h2
    | some z =>
      obtain ⟨a1, a2, a3, a4⟩ := hs
      exact ⟨by omega, a2, a3, fun q' h1 h2 => a4 q' (by omega) h2⟩
/-- what the gaps hold -/
structure Gaps (ls : List (Int × Str)) (g : List Int) : Prop where
  z : (0 : Int) ∈ g
  r : ∀ x ∈ g, 0 ≤ x ∧ x < 60
  p : ∀ i k : Nat, i < k → k < ls.length → (lA ls i).2 = (lA ls k).2 → (lA ls k).1 - (lA ls i).1 + 1 ∈ g
theorem least_in {ls : List (Int × Str)} {w : Int} {g : List Int} (hg : Gaps ls g) : ∀ q : Nat, C ls w (q : Int) = true → ∃ x ∈ g, x ≤ (q : Int) ∧ C ls w x = true
  | 0, h => ⟨0, hg.z, Int.le_refl _, h⟩
  | q + 1, h => by
    by_cases c : C ls w (q : Int) = true
    · obtain ⟨x, h1, h2, h3⟩ := least_in hg q c
      exact ⟨x, h1, by omega, h3⟩
    · by_cases hn : ∀ i k : Nat, i < k → k < ls.length → (lA ls i).2 = (lA ls k).2 → (lA ls k).1 - (lA ls i).1 ≠ (q : Int)
      · exfalso
        have := ga_eq hn ls.length (Nat.le_refl _)
        apply c
        unfold C at h ⊢
        rw [← this]
        exact h
      · have : ∃ i k : Nat, i < k ∧ k < ls.length ∧ (lA ls i).2 = (lA ls k).2 ∧ (lA ls k).1 - (lA ls i).1 = (q : Int) := by
          by_cases z : ∃ i k : Nat, i < k ∧ k < ls.length ∧ (lA ls i).2 = (lA ls k).2 ∧ (lA ls k).1 - (lA ls i).1 = (q : Int)
          · exact z
          · exact absurd (fun i k a b d e => z ⟨i, k, a, b, d, e⟩) hn
        obtain ⟨i, k, h1, h2, h3, h4⟩ := this
        have hm := hg.p i k h1 h2 h3
        rw [h4] at hm
        exact ⟨_, hm, by omega, by rw [show ((q : Int) + 1) = ((q + 1 : Nat) : Int) by omega]; exact h⟩
theorem f6 {ls : List (Int × Str)} {w : Int} (hl : ls.length ≤ 30) (hu : Up ls) (hd : ∀ k : Nat, k < ls.length → 0 ≤ (lA ls k).1 ∧ (lA ls k).1 ≤ 50) : Yes (Fn6 ls w) (BestIs ls w) := by
  unfold Fn6
  rw [Option.bind_some]
  refine Yes.bind (yes_foldO (fun i (s : List Int) => s.length ≤ 1 + i * 30 ∧ (0 : Int) ∈ s ∧ (∀ x ∈ s, 0 ≤ x ∧ x < 60) ∧ ∀ j k : Nat, j ≤ k → k < i → (lA ls j).2 = (lA ls k).2 → (lA ls k).1 - (lA ls j).1 + 1 ∈ s) ⟨by simp, by simp, by simp, fun j k h1 h2 => by omega⟩ fun i a s ha hs => ?_) fun s hs => ?_
  · obtain ⟨h1, h2, h3, h4⟩ := hs
    have hi := (List.getElem?_eq_some_iff.mp ha).1
    have hax : lA ls i = a := by unfold lA; rw [Int.toNat_natCast, ha]; rfl
    have hf := List.length_filter_le (fun x : Int × Str => (decide (x.2 = a.2)) && (decide (x.1 ≤ a.1))) ls
    rw [catO_eq (by rw [List.length_map]; have := Nat.mul_le_mul_right 30 (show i ≤ 30 by omega); omega), Option.bind_some]
    refine yes_some ⟨?_, List.mem_append_left _ h2, fun x hx => ?_, fun j k hj hk he => ?_⟩
    · rw [List.length_append, List.length_map, Nat.add_mul]; omega
    · rcases List.mem_append.mp hx with z | z
      · exact h3 x z
      · obtain ⟨y, hy, rfl⟩ := List.mem_map.mp z
        obtain ⟨hy1, hy2⟩ := List.mem_filter.mp hy
        rw [Bool.and_eq_true, decide_eq_true_iff, decide_eq_true_iff] at hy2
        obtain ⟨m, hm, hme⟩ := List.mem_iff_getElem.mp hy1
        have e1 : lA ls m = y := by unfold lA; rw [Int.toNat_natCast, List.getElem?_eq_getElem hm]; exact hme
        have b1 := hd m hm
        have b2 := hd i hi
        rw [e1] at b1
        rw [hax] at b2
        omega
    · by_cases e : k < i
      · exact List.mem_append_left _ (h4 j k hj e he)
      · have e : k = i := by omega
        subst e
        refine List.mem_append_right _ (List.mem_map.mpr ⟨lA ls j, List.mem_filter.mpr ⟨?_, ?_⟩, by rw [hax]⟩)
        · unfold lA
          rw [Int.toNat_natCast, List.getElem?_eq_getElem (by omega)]
          exact List.getElem_mem _
        · rw [Bool.and_eq_true, decide_eq_true_iff, decide_eq_true_iff, ← hax]
          exact ⟨he, hu j k hj hi⟩
  · obtain ⟨h1, h2, h3, h4⟩ := hs
    have hml := Nat.mul_le_mul_right 30 hl
    have hg : Gaps ls s := ⟨h2, h3, fun i k a b c => h4 i k (by omega) b c⟩
    rw [setO'_eq (by omega) (setI_len64 (n := 60) (fun x hx => by have := h3 x hx; omega) (by omega)), Option.bind_some, forT_find (p := fun a => C ls w a) (r := fun a => some a) (fun a _ => ?_), Option.bind_some]
    · have hpw := setI_pw s
      have hmem : ∀ x, x ∈ setI s ↔ x ∈ s := fun x => mem_setI
      generalize setI s = t at hpw hmem
      cases hf : t.find? fun a => C ls w a with
      | none =>
        refine yes_some fun q q0 q1 => ?_
        cases hc : C ls w q with
        | false => rfl
        | true =>
          obtain ⟨x, x1, x2, x3⟩ := least_in hg q.toNat (by rw [show ((q.toNat : Nat) : Int) = q by omega]; exact hc)
          have := List.find?_eq_none.mp hf x ((hmem x).mpr x1)
          rw [x3] at this
          exact absurd rfl this
      | some z =>
        have z1 := List.find?_some hf
        have z2 := (hmem z).mp (List.mem_of_find?_eq_some hf)
        have z3 := h3 z z2
        refine yes_some ⟨z3.1, by omega, z1, fun q' a b => ?_⟩
        cases hc : C ls w q' with
        | false => rfl
        | true =>
          exfalso
          obtain ⟨x, x1, x2, x3⟩ := least_in hg q'.toNat (by rw [show ((q'.toNat : Nat) : Int) = q' by omega]; exact hc)
          obtain ⟨as, bs, e1, e2⟩ := List.find?_eq_some_iff_append.mp hf |>.2
          have hx : x ∈ as ++ z :: bs := by rw [← e1]; exact (hmem x).mpr x1
          rcases List.mem_append.mp hx with k | k
          · have := e2 x k
            rw [x3] at this
            cases this
          · rw [e1] at hpw
            have hpw := (List.pairwise_append.mp hpw).2.1
            rcases List.mem_cons.mp k with rfl | k
            · omega
            · have := (List.pairwise_cons.mp hpw).1 x k
              omega
    · rw [f5 (by omega) hu, Option.bind_some]
      unfold C
      cases decide (((GA ls a ls.length).length : Int) ≤ w) <;> rfl

set_option exponentiation.threshold 3000
structure TP where
  st : Int
  d0 : Int
  d1 : Int
  p0 : Int
  p1 : Int
def tm (c : TP) : Nat → Int
  | 0 => c.st
  | n + 1 => tm c n + if n % 2 = 0 then c.d0 else c.d1
def sd (n : Nat) : Int := if n % 2 = 0 then 0 else 1
def RW (c : TP) (n : Nat) : List (Int × Int) := (List.range n).map fun k => (tm c k, sd k)
def LT (c : TP) : Nat → List (Option Int)
  | 0 => [none, none]
  | 1 => [none, some (tm c 1)]
  | k + 2 => if k % 2 = 0 then [some (tm c (k + 2)), some (tm c (k + 1))] else [some (tm c (k + 1)), some (tm c (k + 2))]
/-- the answer behind k + 1 rows comes too early -/
def bar (c : TP) (k : Nat) : Bool := decide (2 ≤ k) && decide (c.d0 + c.d1 < if k % 2 = 0 then c.p1 else c.p0)
theorem tm2 (c : TP) (k : Nat) : tm c (k + 2) = tm c k + (c.d0 + c.d1) := by
  have e1 : tm c (k + 2) = tm c k + (if k % 2 = 0 then c.d0 else c.d1) + (if (k + 1) % 2 = 0 then c.d0 else c.d1) := rfl
  rw [e1]
  by_cases h : k % 2 = 0
  · rw [if_pos h, if_neg (by omega)]; omega
  · rw [if_neg h, if_pos (by omega)]; omega
theorem sd_next (k : Nat) : 1 - sd k = sd (k + 1) := by
  unfold sd
  by_cases h : k % 2 = 0
  · rw [if_pos h, if_neg (by omega)]; rfl
  · rw [if_neg h, if_pos (by omega)]; rfl
theorem RW_len (c : TP) (n : Nat) : (RW c n).length = n := by simp [RW]
theorem RW_succ (c : TP) (n : Nat) : RW c n ++ [(tm c n, sd n)] = RW c (n + 1) := by
  unfold RW
  rw [List.range_succ, List.map_append]; rfl
theorem RW_last (c : TP) (n : Nat) : atO (RW c (n + 1)) (-1) = some (tm c n, sd n) := by
  rw [← RW_succ]
  unfold atO atI
  have hl := RW_len c n
  have : ixN (RW c n ++ [(tm c n, sd n)]).length (-1) = some n := by
    rw [List.length_append, hl]
    unfold ixN
    simp
    omega
  rw [this, Option.bind_some, List.getElem?_append_right (by omega), hl, Nat.sub_self]
  rfl
theorem dl_at (a b : Int) (k : Nat) : idxD (En.e ((a, b) : Int × Int)) (En.e (sd k)) = some (En.e (if k % 2 = 0 then a else b)) := by
  unfold sd
  by_cases h : k % 2 = 0
  · rw [if_pos h, if_pos h]; rfl
  · rw [if_neg h, if_neg h]; rfl
/-- what the taker answered last -/
theorem LT_at (c : TP) (k : Nat) : atO (LT c k) (sd (k + 1)) = some (if 2 ≤ k then some (tm c (k - 1)) else none) := by
  match k with
  | 0 => rfl
  | 1 => rfl
  | k + 2 =>
    rw [if_pos (by omega)]
    have e : LT c (k + 2) = if k % 2 = 0 then [some (tm c (k + 2)), some (tm c (k + 1))] else [some (tm c (k + 1)), some (tm c (k + 2))] := rfl
    rw [e]
    unfold sd
    by_cases h : k % 2 = 0
    · rw [if_pos h, if_neg (by omega)]; rfl
    · rw [if_neg h, if_pos (by omega)]; rfl
theorem LT_set (c : TP) (k : Nat) : setO (LT c k) (sd (k + 1)) (some (tm c (k + 1))) = some (LT c (k + 1)) := by
  match k with
  | 0 => rfl
  | 1 => rfl
  | k + 2 =>
    have e : LT c (k + 2 + 1) = if (k + 1) % 2 = 0 then [some (tm c (k + 3)), some (tm c (k + 2))] else [some (tm c (k + 2)), some (tm c (k + 3))] := rfl
    have e' : LT c (k + 2) = if k % 2 = 0 then [some (tm c (k + 2)), some (tm c (k + 1))] else [some (tm c (k + 1)), some (tm c (k + 2))] := rfl
    rw [e, e']
    unfold sd
    by_cases h : k % 2 = 0
    · rw [if_pos h, if_neg (by omega), if_neg (by omega)]; rfl
    · rw [if_neg h, if_pos (by omega), if_pos (by omega)]; rfl
theorem bar_is (c : TP) (k : Nat) : ((if (if 2 ≤ k then some (tm c (k - 1)) else (none : Option Int)).isSome then (some (if 2 ≤ k then some (tm c (k - 1)) else (none : Option Int))).bind fun x_46 => (x_46).bind fun v_48 => (idxD (En.e ((c.p0, c.p1) : Int × Int)) (En.e (sd (k + 1)))).bind fun x_50 => (decO Int x_50).bind fun v_52 => some (decide ((tm c (k + 1) - v_48) < v_52)) else some false) : Option Bool) = some (bar c k) := by
  unfold bar
  by_cases h : 2 ≤ k
  · obtain ⟨j, rfl⟩ : ∃ j, k = j + 2 := ⟨k - 2, by omega⟩
    rw [if_pos h, decide_eq_true h, Bool.true_and, if_pos (show (some (tm c (j + 2 - 1))).isSome = true from rfl), Option.bind_some, Option.bind_some, dl_at, Option.bind_some, decO_e, Option.bind_some]
    have e1 := tm2 c (j + 1)
    rw [show j + 2 - 1 = j + 1 by omega, show j + 2 + 1 = j + 1 + 2 by omega, e1]
    congr 2
    have e2 : (if (j + 1 + 2) % 2 = 0 then c.p0 else c.p1) = if (j + 2) % 2 = 0 then c.p1 else c.p0 := by
      by_cases z : j % 2 = 0
      · rw [if_neg (by omega), if_pos (by omega)]
      · rw [if_pos (by omega), if_neg (by omega)]
    rw [e2]
    refine propext ⟨fun z => by omega, fun z => by omega⟩
  · rw [if_neg h, decide_eq_false h]; rfl
/-- where the talk ends -/
def endK (c : TP) : Option Nat := if c.d0 + c.d1 < c.p1 then some 2 else if c.d0 + c.d1 < c.p0 then some 3 else none
def talkR (c : TP) : H2 (List (Int × Int)) Bool := match endK c with
  | some k => H2.mk (RW c (k + 1)) true
  | none => H2.mk (RW c 40) false
theorem bar_end (c : TP) (k : Nat) : match endK c with
  | some e => (bar c k = true → e ≤ k) ∧ bar c e = true ∧ e < 4
  | none => bar c k = false := by
  unfold endK
  by_cases h1 : c.d0 + c.d1 < c.p1
  · rw [if_pos h1]
    refine ⟨fun h => ?_, ?_, by decide⟩
    · unfold bar at h
      rw [Bool.and_eq_true, decide_eq_true_iff] at h
      exact h.1
    · unfold bar
      rw [if_pos (by decide), decide_eq_true h1]; rfl
  · rw [if_neg h1]
    by_cases h0 : c.d0 + c.d1 < c.p0
    · rw [if_pos h0]
      refine ⟨fun h => ?_, ?_, by decide⟩
      · unfold bar at h
        rw [Bool.and_eq_true, decide_eq_true_iff, decide_eq_true_iff] at h
        by_cases z : k = 2
        · rw [z, if_pos (by decide)] at h; omega
        · omega
      · unfold bar
        rw [if_neg (by decide), decide_eq_true h0]; rfl
    · rw [if_neg h0]
      show bar c k = false
      unfold bar
      split <;> simp <;> omega
theorem f10 (c : TP) : Fn10 (c.p0, c.p1) (c.d0, c.d1) c.st 40 = some (talkR c) := by
  refine eq_of_yes ?_
  unfold Fn10
  rw [Option.bind_some, Option.bind_some, Option.bind_some]
  refine Yes.bind (yes_whT (fun m (s : List (Option Int) × Int × Int × List (Int × Int)) => ∃ k : Nat, m = 40 - k ∧ k < 40 ∧ s = (LT c k, tm c k, sd k, RW c (k + 1)) ∧ ∀ e, endK c = some e → k ≤ e) (fun s => endK c = none ∧ s.2.2.2 = RW c 40) (fun r => r = talkR c) (fun m s hs => ?_) (m := 40) ⟨0, rfl, by omega, rfl, fun e _ => Nat.zero_le _⟩) fun r hr => yes_go hr (fun s hs => ?_) fun v hv => yes_some hv
  · obtain ⟨k, rfl, hk, rfl, hke⟩ := hs
    refine yes_some ⟨fun hc => ?_, fun hc => ?_⟩
    · have hc := of_decide_eq_true hc
      dsimp only at hc ⊢
      rw [RW_len] at hc
      rw [dl_at, Option.bind_some, decO_e, Option.bind_some, Option.bind_some, Option.bind_some, sd_next]
      have et : tm c k + (if k % 2 = 0 then c.d0 else c.d1) = tm c (k + 1) := rfl
      rw [et, LT_at, Option.bind_some, bar_is, Option.bind_some, LT_set]
      have hb := bar_end c k
      cases hbk : bar c k with
      | true =>
        rw [if_pos rfl]
        refine yes_some ?_
        rw [hbk] at hb
        cases he : endK c with
        | none => rw [he] at hb; cases hb
        | some e =>
          rw [he] at hb
          have h1 := hb.1 rfl
          have h2 := hke e he
          have : k = e := by omega
          subst this
          show _ = talkR c
          unfold talkR
          rw [he]
      | false =>
        rw [if_neg (by decide), Option.bind_some, appO_eq (by rw [RW_len]; omega), Option.bind_some, RW_succ]
        refine yes_some ⟨40 - (k + 1), by omega, k + 1, rfl, by omega, rfl, fun e he => ?_⟩
        have h2 := hke e he
        by_cases z : k = e
        · subst z
          have := bar_end c k
          rw [he] at this
          rw [this.2.1] at hbk
          cases hbk
        · omega
    · have hc := of_decide_eq_false hc
      dsimp only at hc ⊢
      rw [RW_len] at hc
      have : k = 39 := by omega
      subst this
      refine ⟨?_, rfl⟩
      cases he : endK c with
      | none => rfl
      | some e =>
        have := hke e he
        have h4 := bar_end c 0
        rw [he] at h4
        omega
  · refine yes_some ?_
    unfold talkR
    rw [hs.1, hs.2]
def stT (c : TP) (k : Nat) : Tp (Option Int) := Tp.mk ([some (sd (k + 1))] ++ (LT c k).map fun o => o.map fun v => tm c (k + 1) - v)
theorem tk_step (c : TP) (k : Nat) (hk : k < 10) (S : List (Tp (Option Int))) (hS : S.length < 10) :
    ((atO (RW c (k + 1)) (-1)).bind fun x_65 => (some ((1 - x_65.2) : Int)).bind fun taker_67 => (idxD (En.e ((c.d0, c.d1) : (Int × Int))) (En.e (x_65.2 : Int))).bind fun x_69 => (decO Int x_69).bind fun v_71 => (some ((x_65.1 + v_71) : Int)).bind fun arrives_73 => (atO (LT c k) taker_67).bind fun x_75 => (if x_75.isSome then (atO (LT c k) taker_67).bind fun x_78 => (x_78).bind fun v_80 => (idxD (En.e ((c.p0, c.p1) : (Int × Int))) (En.e (taker_67 : Int))).bind fun x_82 => (decO Int x_82).bind fun v_84 => some (decide ((arrives_73 - v_80) < v_84)) else some false).bind fun p_86 => (if p_86 then some (.rt ((("ends" : Str), RW c (k + 1)) : (Str × List (Int × Int)))) else (lcO (α := (Option Int)) (β := (Option Int)) (fun x_88 => some true) (fun x_88 => (if x_88.isNone then some (none : (Option Int)) else (x_88).bind fun v_97 => some (some (arrives_73 - v_97))).bind fun v_99 => some v_99) (LT c k)).bind fun l_101 => (catO (Tp.mk [(some taker_67)] : (Tp (Option Int))).l (Tp.mk l_101).l).bind fun l_103 => (some ((Tp.mk l_103) : (Tp (Option Int)))).bind fun state_105 => (if (decide (state_105 ∈ S)) then some (.rt ((("round" : Str), RW c (k + 1)) : (Str × List (Int × Int)))) else (appO S state_105).bind fun seen_107 => (setO (LT c k) taker_67 (some arrives_73)).bind fun last_109 => (appO (RW c (k + 1)) ((arrives_73, taker_67) : (Int × Int))).bind fun rows_111 => some (.nx (last_109, rows_111, seen_107)))) : Option (St (List (Option Int) × List (Int × Int) × List (Tp (Option Int))) (Str × List (Int × Int))))
    = some (if bar c k then .rt (("ends" : Str), RW c (k + 1)) else if decide (stT c k ∈ S) then .rt (("round" : Str), RW c (k + 1)) else .nx (LT c (k + 1), RW c (k + 2), S ++ [stT c k])) := by
  rw [RW_last, Option.bind_some, Option.bind_some]
  dsimp only
  have et : tm c k + (if k % 2 = 0 then c.d0 else c.d1) = tm c (k + 1) := rfl
  rw [dl_at, Option.bind_some, decO_e, Option.bind_some, Option.bind_some, sd_next, et, LT_at, Option.bind_some, bar_is, Option.bind_some]
  cases bar c k with
  | true => rfl
  | false =>
    rw [if_neg (by decide), if_neg (by decide), lcO_map (fun o : Option Int => o.map fun v => tm c (k + 1) - v) (fun o _ => by cases o <;> rfl), Option.bind_some]
    have hL : (LT c k).length = 2 := by
      match k with
      | 0 => rfl
      | 1 => rfl
      | k + 2 =>
        have e' : LT c (k + 2) = if k % 2 = 0 then [some (tm c (k + 2)), some (tm c (k + 1))] else [some (tm c (k + 1)), some (tm c (k + 2))] := rfl
        rw [e']; split <;> rfl
    rw [catO_eq (by rw [List.length_map, hL]; show 1 + 2 ≤ 1000000; omega), Option.bind_some, Option.bind_some]
    have : (Tp.mk ([some (sd (k + 1))] ++ (LT c k).map fun o => o.map fun v => tm c (k + 1) - v) : Tp (Option Int)) = stT c k := rfl
    rw [this]
    cases hd : decide (stT c k ∈ S) with
    | true => rfl
    | false =>
      rw [if_neg (by decide), if_neg (by decide), appO_eq (by omega), Option.bind_some, LT_set, Option.bind_some, appO_eq (by rw [RW_len]; omega), Option.bind_some, RW_succ]
theorem go_rtB {σ ρ β : Type} {x : Option (St σ ρ)} {f : σ → Option β} {g : ρ → Option β} {r : ρ} {R : β} (h : x = some (.rt r)) (hg : g r = some R) : (x.bind fun r => r.go f g) = some R := by rw [h]; exact hg
theorem f2 (c : TP) : Fn2 c.p0 c.p1 (c.d0, c.d1) c.st = some (match endK c with
  | some k => (("ends" : Str), RW c (k + 1))
  | none => (("round" : Str), RW c 5)) := by
  unfold Fn2
  rw [Option.bind_some, Option.bind_some, Option.bind_some, Option.bind_some]
  have m0 : decide (stT c 0 ∈ []) = false := rfl
  have m1 : decide (stT c 1 ∈ [] ++ [stT c 0]) = false := by
    refine decide_eq_false fun h => ?_
    simp [stT, LT, sd] at h
  have m2 : decide (stT c 2 ∈ [] ++ [stT c 0] ++ [stT c 1]) = false := by
    refine decide_eq_false fun h => ?_
    simp [stT, LT, sd] at h
  have m3 : decide (stT c 3 ∈ [] ++ [stT c 0] ++ [stT c 1] ++ [stT c 2]) = false := by
    refine decide_eq_false fun h => ?_
    simp [stT, LT, sd] at h
  have m4 : decide (stT c 4 ∈ [] ++ [stT c 0] ++ [stT c 1] ++ [stT c 2] ++ [stT c 3]) = true := by
    refine decide_eq_true ?_
    have : stT c 4 = stT c 2 := by
      have e1 : tm c 5 = tm c 3 + (c.d0 + c.d1) := tm2 c 3
      have e2 : tm c 4 = tm c 2 + (c.d0 + c.d1) := tm2 c 2
      have e3 : tm c 3 = tm c 1 + (c.d0 + c.d1) := tm2 c 1
      simp [stT, LT, sd]
      omega
    rw [this]
    simp
  have b0 : bar c 0 = false := rfl
  have b1 : bar c 1 = false := rfl
  have hb2 := bar_end c 2
  have hb3 := bar_end c 3
  have hb4 := bar_end c 4
  refine go_rtB ?_ rfl
  have start : (([none, none], [(c.st, 0)], []) : (List (Option Int)) × List (Int × Int) × (List (Tp (Option Int)))) = (LT c 0, RW c 1, []) := rfl
  rw [start]
  refine whT_eq (n := 6) ?_
  rw [whF, Option.bind_some, if_pos rfl, tk_step c 0 (by omega) [] (by simp), b0, if_neg (by decide), m0, if_neg (by decide), Option.bind_some]
  show whF _ _ 5 _ = _
  rw [whF, Option.bind_some, if_pos rfl, tk_step c 1 (by omega) _ (by simp), b1, if_neg (by decide), m1, if_neg (by decide), Option.bind_some]
  show whF _ _ 4 _ = _
  rw [whF, Option.bind_some, if_pos rfl, tk_step c 2 (by omega) _ (by simp)]
  cases q2 : bar c 2 with
  | true =>
    rw [if_pos rfl, Option.bind_some]
    cases he : endK c with
    | none => rw [he] at hb2; rw [hb2] at q2; cases q2
    | some e =>
      rw [he] at hb2 hb3
      have h1 := hb2.1 q2
      have h2 := hb2.2.1
      unfold bar at h2
      rw [Bool.and_eq_true, decide_eq_true_iff] at h2
      have : e = 2 := by omega
      subst this
      rfl
  | false =>
    rw [if_neg (by decide), m2, if_neg (by decide), Option.bind_some]
    show whF _ _ 3 _ = _
    rw [whF, Option.bind_some, if_pos rfl, tk_step c 3 (by omega) _ (by simp)]
    cases q3 : bar c 3 with
    | true =>
      rw [if_pos rfl, Option.bind_some]
      cases he : endK c with
      | none => rw [he] at hb3; rw [hb3] at q3; cases q3
      | some e =>
        rw [he] at hb2 hb3
        have h1 := hb3.1 q3
        have h2 := hb2.2.1
        have h3 : e ≠ 2 := fun z => by rw [z, q2] at h2; cases h2
        unfold bar at h2
        rw [Bool.and_eq_true, decide_eq_true_iff] at h2
        have : e = 3 := by omega
        subst this
        rfl
    | false =>
      have he : endK c = none := by
        cases he : endK c with
        | none => rfl
        | some e =>
          rw [he] at hb2
          have h2 := hb2.2.1
          have h3 : e ≠ 2 := fun z => by rw [z, q2] at h2; cases h2
          have h4 : e ≠ 3 := fun z => by rw [z, q3] at h2; cases h2
          unfold bar at h2
          rw [Bool.and_eq_true, decide_eq_true_iff] at h2
          have := hb2.2.2
          omega
      rw [he] at hb4 ⊢
      have q4 : bar c 4 = false := hb4
      rw [if_neg (by decide), m3, if_neg (by decide), Option.bind_some]
      show whF _ _ 2 _ = _
      rw [whF, Option.bind_some, if_pos rfl, tk_step c 4 (by omega) _ (by simp), q4, if_neg (by decide), m4, if_pos rfl, Option.bind_some]

set_option exponentiation.threshold 3000
theorem rep_oi {o : Option Int} (h : ∀ i, o = some i → i.natAbs < 1000000) : Sm 0 21 (En.e o) := by
  cases o with
  | none => exact Sm.mono sm_none (by omega) (by omega)
  | some i => exact sm_eI (h i rfl)
theorem sm_abc {x : Str} (h : x = "a" ∨ x = "b" ∨ x = "c") : Sm 0 40 (En.e x) := by
  rcases h with rfl | rfl | rfl
  · exact ⟨by decide, by decide, by decide⟩
  · exact ⟨by decide, by decide, by decide⟩
  · exact ⟨by decide, by decide, by decide⟩
theorem tail {ns : List Int} {ls : List (Int × Str)} {f : Int} {k : Str} (s0 : DR) (hl : ls.length ≤ 30) (hu : Up ls) (hd : ∀ k : Nat, k < ls.length → 0 ≤ (lA ls k).1 ∧ (lA ls k).1 ≤ 50) :
    Yes ((drawO s0 ns 6).bind fun u_69 => (some ((none : (Option Int)) : (Option Int))).bind fun best_71 => (dnO 60 (-1)).bind fun r_73 => (foldO (α := Int) (σ := (Option Int)) (fun a_75 s_76 => (Fn9 ls a_75).bind fun answered_84 => (if (decide ((answered_84.length : Int) ≤ u_69.1)) then (some ((some a_75) : (Option Int))).bind fun best_86 => some best_86 else some s_76)) r_73 best_71).bind fun s_88 => (Fn6 ls u_69.1).bind fun pause_fo_90 => (reprO (pause_fo_90 : (Option Int))).bind fun k_92 => (reprO (s_88 : (Option Int))).bind fun k_94 => (if (!decide (k_92 = k_94)) then some false else (drawO u_69.2 ns 9).bind fun u_96 => (drawO u_96.2 ns 9).bind fun u_98 => (some (((u_96.1, u_98.1) : (Int × Int)) : (Int × Int))).bind fun pauses_100 => (drawO u_98.2 ns 5).bind fun u_102 => (drawO u_102.2 ns 5).bind fun u_104 => (some (((u_102.1, u_104.1) : (Int × Int)) : (Int × Int))).bind fun delays_106 => (Fn10 pauses_100 delays_106 f 40).bind fun talk_108 => (Fn2 pauses_100.1 pauses_100.2 delays_106 f).bind fun talk_110 => (atO ([("round" : Str), ("ends" : Str)] : (List Str)) (b2T talk_108.b)).bind fun x_114 => (if ((!decide (talk_110.1 = x_114)) || ((!decide (talk_110.2 = (cut talk_108.a none (some (talk_110.2.length : Int))))) || (talk_108.b && (!decide (talk_110.2 = talk_108.a))))) then some false else (Fn3 pauses_100.1 pauses_100.2 delays_106).bind fun goes_on_119 => (if (!decide (goes_on_119 = (!talk_108.b))) then some false else (if ((!talk_108.b) && (!(decide (2 ≤ (talk_110.2.length : Int)) && decide ((talk_110.2.length : Int) ≤ 6)))) then some false else (Fn4 delays_106).bind fun least_pa_122 => (rngO 0 9).bind fun r_124 => (forT (α := Int) (σ := Unit) (ρ := Bool) (fun a_126 s_127 => (Fn10 ((least_pa_122, a_126) : (Int × Int)) delays_106 f 40).bind fun talk_139 => (if (!talk_139.b) then some true else (Fn10 ((a_126, least_pa_122) : (Int × Int)) delays_106 f 40).bind fun talk_142 => some (!talk_142.b)).bind fun p_144 => (if p_144 then some (.rt false) else some (.nx ()))) r_124 ()).bind fun r_146 => r_146.go (fun s_127 => (Fn10 (((least_pa_122 - 1), 0) : (Int × Int)) delays_106 f 40).bind fun talk_148 => (if talk_148.b then some false else (some k).bind fun k_150 => some (decide (k_150 = k)))) (fun v_ => some v_)))))) fun b => b = true := by
  refine (yes_draw (by omega) (by omega)).bind fun u hu0 => ?_
  have hdn : dnO 60 (-1) = some (dnT 60 (-1)) := if_pos (by decide)
  rw [Option.bind_some, hdn, Option.bind_some]
  refine (bestO (by omega)).bind fun b hb => (f6 hl hu hd).bind fun b' hb' => ?_
  have := best_one hb' hb
  subst this
  have hr : reprO b' = some (En.e b').shown := repr_eq (rep_oi fun i e => by
    subst e
    have := hb.1
    have := hb.2.1
    omega) (by omega) (by omega)
  rw [hr, Option.bind_some, Option.bind_some, decide_eq_true rfl, if_neg (by decide)]
  refine (yes_draw (by omega) (by omega)).bind fun u1 h1 => (yes_draw (by omega) (by omega)).bind fun u2 h2 => ?_
  rw [Option.bind_some]
  refine (yes_draw (by omega) (by omega)).bind fun u3 h3 => (yes_draw (by omega) (by omega)).bind fun u4 h4 => ?_
  rw [Option.bind_some]
  dsimp only
  generalize u1.1 = p0 at h1 ⊢
  generalize u2.1 = p1 at h2 ⊢
  generalize u3.1 = d0 at h3 ⊢
  generalize u4.1 = d1 at h4 ⊢
  have h10 : ∀ a b : Int, Fn10 (a, b) (d0, d1) f 40 = some (talkR ⟨f, d0, d1, a, b⟩) := fun a b => f10 ⟨f, d0, d1, a, b⟩
  have g2 : Fn2 p0 p1 (d0, d1) f = _ := f2 ⟨f, d0, d1, p0, p1⟩
  have g4 : Fn4 (d0, d1) = some ((d0 + d1) + 1) := rfl
  have g3 : Fn3 p0 p1 (d0, d1) = some (decide (max2 p0 p1 ≤ d0 + d1)) := rfl
  have hend : ∀ a b : Int, d0 + d1 < a ∨ d0 + d1 < b → (talkR ⟨f, d0, d1, a, b⟩).b = true := fun a b h => by
    unfold talkR endK
    dsimp only
    by_cases c1 : d0 + d1 < b
    · rw [if_pos c1]
    · rw [if_neg c1, if_pos (by omega)]
  have hnot : ∀ a b : Int, a ≤ d0 + d1 → b ≤ d0 + d1 → talkR ⟨f, d0, d1, a, b⟩ = H2.mk (RW ⟨f, d0, d1, a, b⟩ 40) false := fun a b h h' => by
    unfold talkR endK
    dsimp only
    rw [if_neg (by omega), if_neg (by omega)]
  have rest : Yes ((rngO 0 9).bind fun r_124 => (forT (α := Int) (σ := Unit) (ρ := Bool) (fun a_126 s_127 => (Fn10 (((d0 + d1) + 1, a_126) : (Int × Int)) (d0, d1) f 40).bind fun talk_139 => (if (!talk_139.b) then some true else (Fn10 ((a_126, (d0 + d1) + 1) : (Int × Int)) (d0, d1) f 40).bind fun talk_142 => some (!talk_142.b)).bind fun p_144 => (if p_144 then some (.rt false) else some (.nx ()))) r_124 ()).bind fun r_146 => r_146.go (fun s_127 => (Fn10 ((((d0 + d1) + 1 - 1), 0) : (Int × Int)) (d0, d1) f 40).bind fun talk_148 => (if talk_148.b then some false else (some k).bind fun k_150 => some (decide (k_150 = k)))) (fun v_ => some v_)) fun b => b = true := by
    rw [rngO_eq (by omega) (by omega) (by omega) (by omega), Option.bind_some, forT_none fun a _ => ?_, Option.bind_some]
    · show Yes ((Fn10 _ _ f 40).bind _) _
      rw [h10, Option.bind_some, hnot _ _ (by omega) (by omega), if_neg (by simp), Option.bind_some, decide_eq_true rfl]
      exact yes_some rfl
    · rw [h10, Option.bind_some, hend _ _ (.inl (by omega)), if_neg (by decide), h10, Option.bind_some, hend _ _ (.inr (by omega))]
      rfl
  rw [h10, Option.bind_some, g2, Option.bind_some]
  by_cases c1 : d0 + d1 < p1
  · have e1 : endK ⟨f, d0, d1, p0, p1⟩ = some 2 := if_pos c1
    have e2 : talkR ⟨f, d0, d1, p0, p1⟩ = H2.mk (RW ⟨f, d0, d1, p0, p1⟩ 3) true := by unfold talkR; rw [e1]
    rw [e2, e1]
    dsimp only
    rw [show atO [("round" : Str), ("ends" : Str)] (b2T true) = some ("ends" : Str) from rfl, Option.bind_some, cut_toA, List.take_length, decide_eq_true rfl, decide_eq_true rfl, if_neg (by decide), g3, Option.bind_some]
    have : ¬ (max2 p0 p1 ≤ d0 + d1) := by unfold max2; split <;> omega
    rw [decide_eq_false this, if_neg (by simp), if_neg (by simp), g4, Option.bind_some]
    exact rest
  · by_cases c0 : d0 + d1 < p0
    · have e1 : endK ⟨f, d0, d1, p0, p1⟩ = some 3 := by unfold endK; rw [if_neg c1, if_pos c0]
      have e2 : talkR ⟨f, d0, d1, p0, p1⟩ = H2.mk (RW ⟨f, d0, d1, p0, p1⟩ 4) true := by unfold talkR; rw [e1]
      rw [e2, e1]
      dsimp only
      rw [show atO [("round" : Str), ("ends" : Str)] (b2T true) = some ("ends" : Str) from rfl, Option.bind_some, cut_toA, List.take_length, decide_eq_true rfl, decide_eq_true rfl, if_neg (by decide), g3, Option.bind_some]
      have : ¬ (max2 p0 p1 ≤ d0 + d1) := by unfold max2; split <;> omega
      rw [decide_eq_false this, if_neg (by simp), if_neg (by simp), g4, Option.bind_some]
      exact rest
    · have e1 : endK ⟨f, d0, d1, p0, p1⟩ = none := by unfold endK; rw [if_neg c1, if_neg c0]
      have e2 : talkR ⟨f, d0, d1, p0, p1⟩ = H2.mk (RW ⟨f, d0, d1, p0, p1⟩ 40) false := by unfold talkR; rw [e1]
      rw [e2, e1]
      dsimp only
      have hcut : (RW ⟨f, d0, d1, p0, p1⟩ 40).take (RW ⟨f, d0, d1, p0, p1⟩ 5).length = RW ⟨f, d0, d1, p0, p1⟩ 5 := by
        rw [RW_len]
        unfold RW
        rw [← List.map_take, List.take_range]; rfl
      rw [show atO [("round" : Str), ("ends" : Str)] (b2T false) = some ("round" : Str) from rfl, Option.bind_some, cut_toA, hcut, decide_eq_true rfl, decide_eq_true rfl, if_neg (by simp), g3, Option.bind_some]
      have : max2 p0 p1 ≤ d0 + d1 := by unfold max2; split <;> omega
      rw [decide_eq_true this, if_neg (by simp), RW_len, if_neg (by decide), g4, Option.bind_some]
      exact rest
theorem law_yes {ns : List Int} (h : ns.length ≤ 63) : Fn11 ns = some true := by
  refine eq_of_yes ?_
  unfold Fn11
  rw [Option.bind_some, Option.bind_some]
  refine (yes_draw (by omega) (by omega)).bind fun u hu => ?_
  rw [rngO_eq (by omega) (by omega) (by omega) (by omega), Option.bind_some]
  refine Yes.bind (yes_foldO (fun i (s : DR × List (Int × Str) × Int) => s.2.1.length = i ∧ (∀ x ∈ s.2.1, 0 ≤ x.1 ∧ x.1 ≤ s.2.2 ∧ (x.2 = "a" ∨ x.2 = "b" ∨ x.2 = "c")) ∧ 0 ≤ s.2.2 ∧ s.2.2 ≤ (i : Int) * 3 ∧ s.2.1.Pairwise (fun x y => x.1 ≤ y.1)) ⟨rfl, by simp, Int.le_refl _, by simp, List.Pairwise.nil⟩ fun i a s ha hs => ?_) fun s hs => ?_
  · obtain ⟨d, ls, day⟩ := s
    obtain ⟨h1, h2, h3, h4, h5⟩ := hs
    dsimp only at h1 h2 h3 h4 h5 ⊢
    have hi := (rngT_at ha).2
    refine (yes_draw (by omega) (by omega)).bind fun v hv => ?_
    rw [Option.bind_some]
    refine (yes_pick (by simp) (by simp)).bind fun w hw => ?_
    rw [appO_eq (by omega), Option.bind_some]
    refine yes_some ⟨by simp [h1], fun x hx => ?_, by show 0 ≤ day + v.1; omega, by show day + v.1 ≤ _; omega, ?_⟩
    · show _ ∧ x.1 ≤ day + v.1 ∧ _
      rcases List.mem_append.mp hx with z | z
      · have := h2 x z
        exact ⟨this.1, by omega, this.2.2⟩
      · rw [List.mem_singleton] at z
        subst z
        refine ⟨by show 0 ≤ day + v.1; omega, Int.le_refl _, ?_⟩
        simpa using hw
    · refine List.pairwise_append.mpr ⟨h5, List.pairwise_singleton _ _, fun x hx y hy => ?_⟩
      rw [List.mem_singleton] at hy
      subst hy
      have := h2 x hx
      show x.1 ≤ day + v.1
      omega
  obtain ⟨d, ls, day⟩ := s
  obtain ⟨h1, h2, h3, h4, h5⟩ := hs
  rw [rngT_len] at h1 h4
  dsimp only at h1 h2 h3 h4 h5 ⊢
  have hn : ls.length ≤ 7 := by omega
  have hday : day ≤ 21 := by omega
  have lmem : ∀ k : Nat, k < ls.length → lA ls k ∈ ls := fun k hk => by
    unfold lA
    rw [Int.toNat_natCast, List.getElem?_eq_getElem hk]
    exact List.getElem_mem _
  have hup : Up ls := fun i j hij hj => by
    have e : ∀ k : Nat, (hk : k < ls.length) → lA ls k = ls[k] := fun k hk => by
      unfold lA
      rw [Int.toNat_natCast, List.getElem?_eq_getElem hk]; rfl
    rcases Nat.lt_or_eq_of_le hij with c | c
    · rw [e i (by omega), e j hj]
      exact List.pairwise_iff_getElem.mp h5 i j (by omega) hj c
    · rw [c]; exact Int.le_refl _
  have hbd : ∀ k : Nat, k < ls.length → 0 ≤ (lA ls k).1 ∧ (lA ls k).1 ≤ 50 := fun k hk => by
    have := h2 _ (lmem k hk)
    omega
  refine (yes_draw (by omega) (by omega)).bind fun p hp => ?_
  have hsm : Sm 2 2000 (En.e ls) := Sm.mono (sm_eL (n := 1) (c := 90) (m := 7) hn fun z hz => Sm.mono (sm_e2 (n := 0) (c := 40) (Sm.mono (sm_eI (by have := h2 z hz; omega)) (by omega) (by omega)) (sm_abc (h2 z hz).2.2)) (by omega) (by omega)) (by omega) (by omega)
  have hrep : reprO ls = some (En.e ls).shown := repr_eq hsm (by omega) (by omega)
  generalize (En.e ls).shown = kk at hrep
  have hal : aL (ls.map fun x => x.1) = ls.map fun x => (x.1, ("a" : Str)) := by
    show List.map _ (List.map _ ls) = _
    rw [List.map_map]; rfl
  have hla : ∀ k : Nat, k < ls.length → (lA (aL (ls.map fun x => x.1)) k).1 = (lA ls k).1 := fun k hk => by
    rw [hal]
    unfold lA
    rw [Int.toNat_natCast, List.getElem?_map, List.getElem?_eq_getElem hk]; rfl
  have hupa : Up (aL (ls.map fun x => x.1)) := fun i j hij hj => by
    have hj : j < ls.length := by simpa using hj
    rw [hla i (by omega), hla j hj]
    exact hup i j hij hj
  rw [hrep, Option.bind_some, f5 (by omega) hup, Option.bind_some, f9 (by omega), Option.bind_some, decide_eq_true rfl, if_neg (by decide), Option.bind_some, f0 (by rw [List.length_map]; omega) hupa, Option.bind_some]
  have h9 : Fn9 (aL (ls.map fun x => x.1)) p.1 = some (GA (aL (ls.map fun x => x.1)) p.1 (ls.map fun x => x.1).length) := by
    rw [f9 (by rw [List.length_map, List.length_map]; omega), List.length_map]
  rw [show (List.map (fun x_52 => ((x_52, ("a" : Str)) : (Int × Str))) (List.map (fun x_45 => x_45.1) ls) : (List (Int × Str))) = aL (ls.map fun x => x.1) from rfl, h9, Option.bind_some, decide_eq_true rfl, if_neg (by decide)]
  refine (yes_draw (by omega) (by omega)).bind fun f hf => (yes_draw (by omega) (by omega)).bind fun g hg => ?_
  rw [Option.bind_some]
  by_cases hz : p.1 = 0
  · rw [hz]
    refine f1z.bind fun r hr => ?_
    rw [decide_eq_true rfl, if_pos rfl, hr, Option.bind_some, decide_eq_true rfl, if_neg (by decide)]
    exact tail _ (by omega) hup hbd
  · rw [f1p (by omega) (by omega), Option.bind_some, decide_eq_false hz, if_neg (by decide), rngO_eq (by omega) (by omega) (by omega) (by omega), Option.bind_some, Option.bind_some]
    have h9 : Fn9 (aL (rngT f.1 (f.1 + g.1 - 2 + 1))) p.1 = some (GA (aL (rngT f.1 (f.1 + g.1 - 2 + 1))) p.1 (rngT f.1 (f.1 + g.1 - 2 + 1)).length) := by
      rw [f9 (by rw [List.length_map, rngT_len]; omega), List.length_map]
    rw [show (List.map (fun x_154 => ((x_154, ("a" : Str)) : (Int × Str))) (rngT f.1 (f.1 + g.1 - 2 + 1)) : (List (Int × Str))) = aL (rngT f.1 (f.1 + g.1 - 2 + 1)) from rfl, h9, Option.bind_some, decide_eq_true rfl, if_neg (by decide)]
    exact tail _ (by omega) hup hbd
theorem main : ∀ ns : List Int, ns.length ≤ 63 → ∃ ws, callT TT GG (40 + 1) 11 [.scr ns] = some (.d (.bool true), ws) := fun ns h => ⟨_, w11 41 (by omega) ns (law_yes h)⟩

end Ev
open PySem PySem.W PyProof.Rows
set_option maxRecDepth 100000 in
set_option maxHeartbeats 0 in
theorem PySem.Challenge.cw_mailwright_k40_whole_answers_holds : PySem.Challenge.rw_mailwright_k40_whole_answers.Holds := by
  w_on; o_law; k_head; (case hw => w_witness2)
  k_fill
  refine Ev.law_walk (l := PySem.Challenge.rw_mailwright_k40_whole_answers) (TT := Ev.TT) (T := Ev.TB) (N := Ev.n11) (G := Ev.GG) (k := 40) (f := 11) (st := Ev.top 13) (body := Ev.b11) rfl rfl ⟨rfl, by decide, by decide⟩ (fun w h Y => PySem.W.kIn_of Y) (fun K f fd F => ?B) ?F Ev.s11 rfl Ev.k11 Ev.main
  case B =>
    obtain ⟨oc, od, kV, doc, pm, an, cdv, ct, osl, rfl, _, _⟩ := F.ex
    exact fun s u => .of_eq rfl
  case F =>
    intro w mg h KX G
    refine' (fun p => ⟨p.1, fun base => p.2 base _⟩) (Ev.all_ok KX G ?a0 ?l0 ?c0 ?e0 ?a1 ?l1 ?c1 ?e1 ?a2 ?l2 ?c2 ?e2 ?a3 ?l3 ?c3 ?e3 ?a4 ?l4 ?c4 ?e4 ?a5 ?l5 ?c5 ?e5 ?a6 ?l6 ?c6 ?e6 ?a7 ?l7 ?c7 ?e7 ?a8 ?l8 ?c8 ?e8 ?a9 ?l9 ?c9 ?e9 ?a10 ?l10 ?c10 ?e10 ?a11 ?l11 ?c11 ?e11 ?z0 ?z1 ?z2 ?z3 ?z4 ?z5 ?z6 ?z7 ?z8 ?z9)
    (case a0 => k_is)
    (case l0 => k_is)
    (case c0 => k_is)
    (case e0 => k_is)
    (case a1 => k_is)
    (case l1 => k_is)
    (case c1 => k_is)
    (case e1 => k_is)
    (case a2 => k_is)
    (case l2 => k_is)
    (case c2 => k_is)
    (case e2 => k_is)
    (case a3 => k_is)
    (case l3 => k_is)
    (case c3 => k_is)
    (case e3 => k_is)
    (case a4 => k_is)
    (case l4 => k_is)
    (case c4 => k_is)
    (case e4 => k_is)
    (case a5 => k_is)
    (case l5 => k_is)
    (case c5 => k_is)
    (case e5 => k_is)
    (case a6 => k_is)
    (case l6 => k_is)
    (case c6 => k_is)
    (case e6 => k_is)
    (case a7 => k_is)
    (case l7 => k_is)
    (case c7 => k_is)
    (case e7 => k_is)
    (case a8 => k_is)
    (case l8 => k_is)
    (case c8 => k_is)
    (case e8 => k_is)
    (case a9 => k_is)
    (case l9 => k_is)
    (case c9 => k_is)
    (case e9 => k_is)
    (case a10 => k_is)
    (case l10 => k_is)
    (case c10 => k_is)
    (case e10 => k_is)
    (case a11 => k_is)
    (case l11 => k_is)
    (case c11 => k_is)
    (case e11 => k_is)
    (case z0 => k_is)
    (case z1 => k_is)
    (case z2 => k_is)
    (case z3 => k_is)
    (case z4 => k_is)
    (case z5 => k_is)
    (case z6 => k_is)
    (case z7 => k_is)
    (case z8 => k_is)
    (case z9 => k_is)
